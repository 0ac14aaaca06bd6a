import PyProof.Rows.All
import Wide.All
import OpenK.AllK
import Wide.FinOn
import HandS.ForMost
import HandS.Deep
import HandS.Wide
import HandS.WideBits
import HandS.TupAny
import HandS.TupMul
import HandS.IsInst
import HandS.Gcd
import HandS.Zip
import HandS.Style
import HandS.Flow
import HandS.Conv
import HandS.ExcOwn
import HandS.WordsExc
import HandS.Defaults
import HandS.Exc
import HandS.EndBits
import HandS.HeadHook2
import HandS.HeadHook4
import KE.KStateDown
import Lean
import HandS.Base
import HandS.Call
import HandS.Ends
import HandS.More
import HandS.Words
import HandS.Head0
import HandS.Head1
import HandS.Head2
import HandS.HeadEnd
import HandS.HeadHook1
import PySem.Challenge.RW_twiceround_k03_whole_rows_and_beats
set_option Elab.async false
set_option linter.all false
set_option maxRecDepth 100000
set_option maxHeartbeats 4000000
/-! The reflective layer, part A: values as trees, a small language, its evaluator. -/
namespace Rf
open PySem PySem.Spec PyProof.Rows

inductive Val where
  | non | bl (b : Bool) | int (i : Int) | str (x : Str) | tup (xs : List Val) | lst (xs : List Val) | fn (f : Nat)

/-! ### as data of the library -/
mutual
def toD : Val → PyData
  | .non => .none
  | .bl b => .bool b
  | .int i => .int i
  | .str x => .str x
  | .tup xs => .tuple (toDs xs)
  | .lst xs => .list (toDs xs)
  | .fn _ => .dict []
def toDs : List Val → List PyData
  | [] => []
  | x :: r => toD x :: toDs r
end
/-- may be compared -/
def okD (v : Val) : Bool := SeqAt.shaped (toD v)
def eqV (a b : Val) : Bool := PyData.eqv (toD a) (toD b)

def sIx (n d : Nat) : Option Int → Nat := HT.sIx n d
def cut {α : Type} (xs : List α) (lo hi : Option Int) : List α := (xs.drop (sIx xs.length 0 lo)).take (sIx xs.length xs.length hi - sIx xs.length 0 lo)

def truthy : Val → Option Bool
  | .non => some false
  | .bl b => some b
  | .int i => some (i != 0)
  | .str x => if x.length ≤ sizeLine then some ((x.length : Int) != 0) else none
  | .tup xs => some (!xs.isEmpty)
  | .lst xs => some (!xs.isEmpty)
  | .fn _ => none

inductive BOp | add | sub | mul | fdiv | mod | pow | shl | shr | band
  deriving DecidableEq
inductive COp | eq | ne | lt | le | gt | ge | is | isn | inn | nin
  deriving DecidableEq
inductive Ty | int | bool | str | lst | tup
  deriving DecidableEq
inductive BI | len | tup | lst | abs | int | min | max | sum | all | any | gcd
  deriving DecidableEq
inductive C | non | bl (b : Bool) | int (i : Int) | str (x : Str)

def C.val : C → Val
  | .non => .non
  | .bl b => .bl b
  | .int i => .int i
  | .str x => .str x

def mulOk (a b : Int) : Bool := !(decide (Builtin.Int.intBits a > shortFactorBits) && decide (Builtin.Int.intBits b > shortFactorBits) && Builtin.Int.intTooBig (Builtin.Int.intBits a + Builtin.Int.intBits b))

def binop : BOp → Val → Val → Option Val
  | .add, .int i, .int j => some (.int (i + j))
  | .add, .str x, .str y => if x.length + y.length ≤ sizeLine then some (.str (x ++ y)) else none
  | .add, .tup xs, .tup ys => if xs.length + ys.length ≤ sizeLine then some (.tup (xs ++ ys)) else none
  | .add, .lst xs, .lst ys => if xs.length + ys.length ≤ sizeLine then some (.lst (xs ++ ys)) else none
  | .sub, .int i, .int j => some (.int (i - j))
  | .mul, .int i, .int j => if mulOk i j then some (.int (i * j)) else none
  | .mul, .tup xs, .int k => if xs.length ≤ 1000 ∧ k ≤ 1000 ∧ -1000 ≤ k then some (.tup (List.replicate k.toNat xs).flatten) else none
  | .mul, .lst xs, .int k => if xs.length ≤ 1000 ∧ k ≤ 1000 ∧ -1000 ≤ k then some (.lst (List.replicate k.toNat xs).flatten) else none
  | .fdiv, .int i, .int j => if 0 < j ∧ j.natAbs.log2 < 9000 then some (.int (i / j)) else none
  | .mod, .int i, .int j => if j ≠ 0 then some (.int (i.fmod j)) else none
  | .pow, .int i, .int j => if 0 ≤ j ∧ j ≤ 1000000 ∧ i.natAbs < 2 ^ 64 then some (.int (i ^ j.toNat)) else none
  | .shl, .int i, .int j => if 0 ≤ j ∧ (Builtin.Int.intBits i : Int) + j ≤ 2 ^ 27 then some (.int (i * 2 ^ j.toNat)) else none
  | .shr, .int i, .int j => if 0 ≤ j then some (.int (i / 2 ^ j.toNat)) else none
  | .band, .int i, .int j => if j = 1 then some (.int (i % 2)) else none
  | _, _, _ => none

def items? : Val → Option (List Val)
  | .tup xs => some xs
  | .lst xs => some xs
  | .str x => some (x.cps.toList.map fun c => .str ⟨#[c]⟩)
  | _ => none

def isNon : Val → Bool
  | .non => true
  | _ => false
def cmpop : COp → Val → Val → Option Bool
  | .eq, .int i, .int j => some (decide (i = j))
  | .ne, .int i, .int j => some (!decide (i = j))
  | .lt, .int i, .int j => some (decide (i < j))
  | .le, .int i, .int j => some (decide (i ≤ j))
  | .gt, .int i, .int j => some (decide (j < i))
  | .ge, .int i, .int j => some (decide (j ≤ i))
  | .eq, a, b => if okD a && okD b then some (eqV a b) else none
  | .ne, a, b => if okD a && okD b then some (!eqV a b) else none
  | .is, a, .non => some (isNon a)
  | .isn, a, .non => some (!isNon a)
  | .inn, a, .lst xs => if okD a && okD (.lst xs) then some (xs.any fun z => eqV z a) else none
  | .inn, a, .tup xs => if okD a && okD (.tup xs) then some (xs.any fun z => eqV z a) else none
  | .nin, a, .lst xs => if okD a && okD (.lst xs) then some (!xs.any fun z => eqV z a) else none
  | .nin, a, .tup xs => if okD a && okD (.tup xs) then some (!xs.any fun z => eqV z a) else none
  | _, _, _ => none

def isTy : Val → Ty → Bool
  | .int _, .int => true
  | .bl _, .int => true
  | .bl _, .bool => true
  | .str _, .str => true
  | .lst _, .lst => true
  | .tup _, .tup => true
  | _, _ => false

def ints? : List Val → Option (List Int)
  | [] => some []
  | .int i :: r => (ints? r).map (i :: ·)
  | _ :: _ => none
def bools? : List Val → Option (List Bool)
  | [] => some []
  | .bl b :: r => (bools? r).map (b :: ·)
  | _ :: _ => none
def maxL : List Int → Option Int
  | [] => none
  | x :: r => some (r.foldl (fun a b => if a < b then b else a) x)
def minL : List Int → Option Int
  | [] => none
  | x :: r => some (r.foldl (fun a b => if b < a then b else a) x)

def biop : BI → List Val → Option Val
  | .len, [.tup xs] => some (.int xs.length)
  | .len, [.lst xs] => some (.int xs.length)
  | .len, [.str x] => if x.length ≤ sizeLine then some (.int x.length) else none
  | .tup, [.tup xs] => some (.tup xs)
  | .tup, [.lst xs] => some (.tup xs)
  | .lst, [.tup xs] => some (.lst xs)
  | .lst, [.lst xs] => some (.lst xs)
  | .abs, [.int i] => some (.int (if i < 0 then -i else i))
  | .int, [.int i] => some (.int i)
  | .int, [.bl k] => some (.int (if k then 1 else 0))
  | .min, [.int i, .int j] => some (.int (if j < i then j else i))
  | .max, [.int i, .int j] => some (.int (if j > i then j else i))
  | .min, [.lst xs] => (ints? xs).bind fun ns => (minL ns).map .int
  | .max, [.lst xs] => (ints? xs).bind fun ns => (maxL ns).map .int
  | .sum, [.lst xs] => (ints? xs).map fun ns => .int ns.sum
  | .all, [.lst xs] => (bools? xs).map fun bs => .bl (bs.all id)
  | .any, [.lst xs] => (bools? xs).map fun bs => .bl (bs.any id)
  | .gcd, [.int i, .int j] => some (.int ((Nat.gcd i.natAbs j.natAbs : Nat) : Int))
  | _, _ => none

def itemop : Val → Val → Option Val
  | .tup xs, .int i => L2.atI xs i
  | .lst xs, .int i => L2.atI xs i
  | .str z, .int i => if z.length ≤ sizeLine then (L2.atI z.cps.toList i).map fun c => .str ⟨#[c]⟩ else none
  | _, _ => none

def sliceop : Val → Option Int → Option Int → Option Val
  | .tup xs, lo, hi => some (.tup (cut xs lo hi))
  | .lst xs, lo, hi => some (.lst (cut xs lo hi))
  | _, _, _ => none

def indexop (xs : List Val) (a : Val) : Option Val := if okD a && okD (.lst xs) then (xs.findIdx? fun z => eqV z a).map fun j => .int (j : Nat) else none

/-! ### the language -/
inductive Tg | name (i : Nat) | tup (ts : List Nat)

mutual
inductive E where
  | var (i : Nat)
  | con (c : C)
  | glo (x : Str)
  | tup (es : Es)
  | lst (es : Es)
  | bin (o : BOp) (a b : E)
  | neg (a : E)
  | cmp (o : COp) (a b : E)
  | chn (o p : COp) (a b c : E)
  | and (a b : E)
  | or (a b : E)
  | not (a : E)
  | ite (c a b : E)
  | call (f : Nat) (es : Es)
  | callk (f : Nat) (ks : List Nat) (es : Es)
  | calll (f : Nat) (i : Nat) (es : Es)
  | bi (b : BI) (es : Es)
  | isi (a : E) (ts : List Ty)
  | itm (a i : E)
  | itv (x : Nat) (i : E)
  | lnv (x : Nat)
  | slc (a : E) (lo hi : Oe)
  | rev (a : E)
  | idx (a b : E)
  | rngL (it : It)
  | rngT (it : It)
  | comp (own : List Nat) (elt : E) (tg : Tg) (it : It) (ifs : Es)
  | comp2 (own own1 : List Nat) (elt : E) (tg : Tg) (it : It) (ifs : Es) (tg1 : Tg) (it1 : It) (ifs1 : Es)
inductive Es where
  | nil
  | cons (e : E) (es : Es)
inductive Oe where
  | none
  | some (e : E)
inductive It where
  | seq (e : E)
  | r1 (a : E)
  | r2 (a b : E)
  | r3 (a b c : E)
  | enu (e : E)
  | zip (a b : E)
end

inductive Md | scal | val | frsh
  deriving DecidableEq
mutual
inductive S where
  | expr (e : E)
  | set (t : Tg) (m : Md) (e : E)
  | par (is : List Nat) (fr : List Bool) (es : Es)
  | setI (x : Nat) (m : Md) (i e : E)
  | app (x : Nat) (e : E)
  | ext (x : Nat) (e : E)
  | ife (c : E) (a b : Ss)
  | whl (c : E) (b : Ss)
  | fr (t : Tg) (it : It) (b : Ss)
  | ret (fr : Bool) (e : E)
  | nev
inductive Ss where
  | nil
  | cons (s : S) (r : Ss)
end

/-! ### evaluation -/
abbrev Env := List (Option Val)
/-- what came: a value and the slots behind it; an exception (its class's number); nothing (the evaluator does not cover it) -/
inductive Rs (α : Type) where
  | ok (v : α) (ρ : Env)
  | exc (x : Nat)
  | bad
inductive Rt where
  | nx (ρ : Env)
  | ret (v : Val) (ρ : Env)
  | exc (x : Nat)
  | bad
/-- a call's answer: the value, what the first argument is behind it -/
inductive Cr where
  | ok (v o : Val)
  | exc (x : Nat)
  | bad

def Rs.bind {α β : Type} (r : Rs α) (f : α → Env → Rs β) : Rs β := match r with
  | .ok v ρ => f v ρ
  | .exc x => .exc x
  | .bad => .bad
def Rs.ofO {α : Type} (o : Option α) (ρ : Env) : Rs α := match o with
  | some v => .ok v ρ
  | none => .bad
/-- no exception may leave -/
def Rs.calm {α : Type} (r : Rs α) : Rs α := match r with
  | .exc _ => .bad
  | r => r

def getV (ρ : Env) (i : Nat) : Option Val := match ρ[i]? with
  | some (some v) => some v
  | _ => none
def setV (ρ : Env) (i : Nat) (v : Val) : Env := ρ.set i (some v)
def wipe (ρ : Env) : List Nat → Env
  | [] => ρ
  | v :: vs => (wipe ρ vs).set v none
/-- the slots of vs as they were in ρ -/
def restore (ρ ρ' : Env) : List Nat → Env
  | [] => ρ'
  | v :: vs => (restore ρ ρ' vs).set v (ρ[v]?.getD none)

def setAll : List Nat → List Val → Env → Option Env
  | [], [], ρ => some ρ
  | i :: is, v :: vs, ρ => setAll is vs (setV ρ i v)
  | _, _, _ => none
def assign (t : Tg) (v : Val) (ρ : Env) : Option Env := match t, v with
  | .name i, v => some (setV ρ i v)
  | .tup is, .tup vs => setAll is vs ρ
  | _, _ => none

def rangeV (lo : Int) (n : Nat) (c : Int) : List Val := (List.range n).map fun k => Val.int (lo + (k : Nat) * c)
def smallI (i : Int) : Bool := decide (-(2 ^ 62) ≤ i ∧ i < 2 ^ 62)
def rng3 (i j c : Int) : Option (List Val) :=
  if c ≠ 0 ∧ c.natAbs < 1073741824 ∧ Builtin.Range.small i j c = true ∧ Builtin.Range.rangeSize i j c = ((Builtin.Range.rangeSize i j c).toNat : Int) then some (rangeV i (Builtin.Range.rangeSize i j c).toNat c) else none

def zipV : List Val → List Val → List Val
  | x :: xs, y :: ys => .tup [x, y] :: zipV xs ys
  | _, _ => []
def enumV (k : Nat) : List Val → List Val
  | [] => []
  | x :: xs => .tup [.int (k : Nat), x] :: enumV (k + 1) xs

structure Cfg where
  call : Nat → List Val → Cr
  val : Str → Option Val
  wh : Nat

/-- the reading of keywords: parameter ks[i] gets the i-th value -/
def permK {α : Type} (ks : List Nat) (vs : List α) : List α := (List.range ks.length).filterMap fun p => (ks.findIdx? (· == p)).bind fun j => vs[j]?

def forC (step : Val → Env → Rs (List Val)) : List Val → Env → Rs (List Val)
  | [], ρ => .ok [] ρ
  | x :: xs, ρ => (step x ρ).bind fun ys ρ1 => (forC step xs ρ1).bind fun zs ρ2 => .ok (ys ++ zs) ρ2

mutual
def evE (c : Cfg) : E → Env → Rs Val
  | .var i, ρ => .ofO (getV ρ i) ρ
  | .con k, ρ => .ok k.val ρ
  | .glo x, ρ => .ofO (c.val x) ρ
  | .tup es, ρ => (evEs c es ρ).bind fun vs ρ => if vs.length ≤ sizeLine then .ok (.tup vs) ρ else .bad
  | .lst es, ρ => (evEs c es ρ).bind fun vs ρ => if vs.length ≤ sizeLine then .ok (.lst vs) ρ else .bad
  | .bin o a b, ρ => (evE c a ρ).bind fun x ρ => (evE c b ρ).bind fun y ρ => .ofO (binop o x y) ρ
  | .neg a, ρ => (evE c a ρ).bind fun x ρ => match x with
    | .int i => .ok (.int (-i)) ρ
    | _ => .bad
  | .cmp o a b, ρ => (evE c a ρ).bind fun x ρ => (evE c b ρ).bind fun y ρ => .ofO ((cmpop o x y).map .bl) ρ
  | .chn o p a b d, ρ => (evE c a ρ).bind fun x ρ => (evE c b ρ).bind fun y ρ => match cmpop o x y with
    | some true => (evE c d ρ).bind fun z ρ => .ofO ((cmpop p y z).map .bl) ρ
    | some false => .ok (.bl false) ρ
    | none => .bad
  | .and a b, ρ => (evE c a ρ).bind fun x ρ => match truthy x with
    | some true => evE c b ρ
    | some false => .ok x ρ
    | none => .bad
  | .or a b, ρ => (evE c a ρ).bind fun x ρ => match truthy x with
    | some true => .ok x ρ
    | some false => evE c b ρ
    | none => .bad
  | .not a, ρ => (evE c a ρ).bind fun x ρ => .ofO ((truthy x).map fun k => .bl (!k)) ρ
  | .ite t a b, ρ => (evE c t ρ).bind fun x ρ => match truthy x with
    | some true => evE c a ρ
    | some false => evE c b ρ
    | none => .bad
  | .call f es, ρ => (evEs c es ρ).bind fun vs ρ => match c.call f vs with
    | .ok v _ => .ok v ρ
    | .exc x => .exc x
    | .bad => .bad
  | .callk f ks es, ρ => (evEs c es ρ).bind fun vs ρ => match c.call f (permK ks vs) with
    | .ok v _ => .ok v ρ
    | .exc x => .exc x
    | .bad => .bad
  | .calll f i es, ρ => match getV ρ i with
    | none => .bad
    | some _ => (evEs c es ρ).bind fun vs ρ => match getV ρ i with
      | some u => (match c.call f (u :: vs) with
        | .ok v o => .ok v (setV ρ i o)
        | .exc x => .exc x
        | .bad => .bad)
      | none => .bad
  | .bi b es, ρ => (evEs c es ρ).bind fun vs ρ => .ofO (biop b vs) ρ
  | .isi a ts, ρ => (evE c a ρ).bind fun x ρ => (match x with
    | .fn _ => .bad
    | x => .ok (.bl (ts.any (isTy x))) ρ)
  | .itm a i, ρ => (evE c a ρ).bind fun x ρ => (evE c i ρ).bind fun y ρ => .ofO (itemop x y) ρ
  | .itv x i, ρ => match getV ρ x with
    | none => .bad
    | some _ => (evE c i ρ).bind fun y ρ => .ofO ((getV ρ x).bind fun v => itemop v y) ρ
  | .lnv x, ρ => .ofO ((getV ρ x).bind fun v => biop .len [v]) ρ
  | .slc a lo hi, ρ => (evE c a ρ).bind fun x ρ => (evO c lo ρ).bind fun l ρ => (evO c hi ρ).bind fun h ρ => .ofO (sliceop x l h) ρ
  | .rev a, ρ => (evE c a ρ).bind fun x ρ => match x with
    | .lst xs => .ok (.lst xs.reverse) ρ
    | _ => .bad
  | .idx a b, ρ => (evE c a ρ).bind fun x ρ => match x with
    | .lst xs => (evE c b ρ).bind fun y ρ => .ofO (indexop xs y) ρ
    | _ => .bad
  | .rngL it, ρ => (evIt c it ρ).bind fun vs ρ => if vs.length ≤ sizeLine then .ok (.lst vs) ρ else .bad
  | .rngT it, ρ => (evIt c it ρ).bind fun vs ρ => if vs.length ≤ sizeLine then .ok (.tup vs) ρ else .bad
  | .comp own elt tg it ifs, ρ => (evIt c it ρ).bind fun xs ρ =>
      ((forC (fun x ρ => match assign tg x (wipe ρ own) with
        | none => .bad
        | some ρ => (evIf c ifs ρ).bind fun k ρ => if k then (evE c elt ρ).bind fun v ρ => .ok [v] ρ else .ok [] ρ) xs ρ).calm).bind fun vs ρ' =>
          if vs.length ≤ sizeLine then .ok (.lst vs) (restore ρ ρ' own) else .bad
  | .comp2 own own1 elt tg it ifs tg1 it1 ifs1, ρ => (evIt c it ρ).bind fun xs ρ =>
      ((forC (fun x ρ => match assign tg x (wipe ρ own) with
        | none => .bad
        | some ρ => (evIf c ifs ρ).bind fun k ρ => if k then
            (evIt c it1 ρ).bind fun ys ρ => forC (fun y ρ => match assign tg1 y (wipe ρ own1) with
              | none => .bad
              | some ρ => (evIf c ifs1 ρ).bind fun k ρ => if k then (evE c elt ρ).bind fun v ρ => .ok [v] ρ else .ok [] ρ) ys ρ
          else .ok [] ρ) xs ρ).calm).bind fun vs ρ' =>
          if vs.length ≤ sizeLine then .ok (.lst vs) (restore ρ ρ' own) else .bad
def evEs (c : Cfg) : Es → Env → Rs (List Val)
  | .nil, ρ => .ok [] ρ
  | .cons e es, ρ => (evE c e ρ).bind fun v ρ => (evEs c es ρ).bind fun vs ρ => .ok (v :: vs) ρ
/-- all the tests of a comprehension -/
def evIf (c : Cfg) : Es → Env → Rs Bool
  | .nil, ρ => .ok true ρ
  | .cons e es, ρ => (evE c e ρ).bind fun v ρ => match truthy v with
    | some true => evIf c es ρ
    | some false => .ok false ρ
    | none => .bad
def evO (c : Cfg) : Oe → Env → Rs (Option Int)
  | .none, ρ => .ok none ρ
  | .some e, ρ => (evE c e ρ).bind fun v ρ => match v with
    | .int i => .ok (some i) ρ
    | _ => .bad
def evIt (c : Cfg) : It → Env → Rs (List Val)
  | .seq e, ρ => (evE c e ρ).bind fun v ρ => .ofO (items? v) ρ
  | .r1 a, ρ => (evE c a ρ).bind fun v ρ => match v with
    | .int j => if smallI j then .ok (rangeV 0 j.toNat 1) ρ else .bad
    | _ => .bad
  | .r2 a b, ρ => (evE c a ρ).bind fun v ρ => (evE c b ρ).bind fun u ρ => match v, u with
    | .int i, .int j => if smallI i && smallI j then .ok (rangeV i (j - i).toNat 1) ρ else .bad
    | _, _ => .bad
  | .r3 a b d, ρ => (evE c a ρ).bind fun v ρ => (evE c b ρ).bind fun u ρ => (evE c d ρ).bind fun w ρ => match v, u, w with
    | .int i, .int j, .int k => .ofO (rng3 i j k) ρ
    | _, _, _ => .bad
  | .enu e, ρ => (evE c e ρ).bind fun v ρ => match v with
    | .lst xs => .ok (enumV 0 xs) ρ
    | _ => .bad
  | .zip a b, ρ => (evE c a ρ).bind fun v ρ => (evE c b ρ).bind fun u ρ => match v, u with
    | .lst xs, .lst ys => .ok (zipV xs ys) ρ
    | .tup xs, .tup ys => .ok (zipV xs ys) ρ
    | _, _ => .bad
end

def Rs.toRt {α : Type} (r : Rs α) (f : α → Env → Rt) : Rt := match r with
  | .ok v ρ => f v ρ
  | .exc x => .exc x
  | .bad => .bad
def Rt.then (r : Rt) (f : Env → Rt) : Rt := match r with
  | .nx ρ => f ρ
  | r => r
def whileN (test : Env → Rs Bool) (body : Env → Rt) : Nat → Env → Rt
  | 0, _ => .bad
  | n + 1, ρ => (test ρ).toRt fun k ρ => if k then (body ρ).then (whileN test body n) else .nx ρ
def forL (step : Val → Env → Rt) : List Val → Env → Rt
  | [], ρ => .nx ρ
  | x :: xs, ρ => (step x ρ).then (forL step xs)

/-- no reference -/
def scalar : Val → Bool
  | .non | .bl _ | .int _ | .str _ => true
  | _ => false
def scalarL : Val → Bool
  | .lst xs => xs.all scalar
  | v => scalar v

/-! ### which names lend their list in an expression -/
mutual
def lentE : E → List Nat
  | .var _ | .con _ | .glo _ | .lnv _ => []
  | .tup es | .lst es | .call _ es | .callk _ _ es | .bi _ es => lentEs es
  | .bin _ a b | .cmp _ a b | .and a b | .or a b | .itm a b | .idx a b => lentE a ++ lentE b
  | .neg a | .not a | .isi a _ | .rev a | .itv _ a => lentE a
  | .chn _ _ a b d | .ite a b d => lentE a ++ lentE b ++ lentE d
  | .calll _ i es => i :: lentEs es
  | .slc a lo hi => lentE a ++ lentO lo ++ lentO hi
  | .rngL it | .rngT it => lentIt it
  | .comp _ elt _ it ifs => lentIt it ++ lentEs ifs ++ lentE elt
  | .comp2 _ _ elt _ it ifs _ it1 ifs1 => lentIt it ++ lentEs ifs ++ lentIt it1 ++ lentEs ifs1 ++ lentE elt
def lentEs : Es → List Nat
  | .nil => []
  | .cons e es => lentE e ++ lentEs es
def lentO : Oe → List Nat
  | .none => []
  | .some e => lentE e
def lentIt : It → List Nat
  | .seq e | .r1 e | .enu e => lentE e
  | .r2 a b | .zip a b => lentE a ++ lentE b
  | .r3 a b d => lentE a ++ lentE b ++ lentE d
end
def lentOk (is : List Nat) (ρ : Env) : Bool := is.all fun i => match getV ρ i with
  | some v => scalarL v
  | none => true

/-- a test -/
def evT (c : Cfg) (e : E) (ρ : Env) : Rs Bool := (evE c e ρ).bind fun v ρ => if lentOk (lentE e) ρ then .ofO (truthy v) ρ else .bad
/-- the value of an assignment, by its mode -/
def evM (c : Cfg) (m : Md) (e : E) (ρ : Env) : Rs Val := match m with
  | .scal => (evE c e ρ).bind fun v ρ => if scalar v && lentOk (lentE e) ρ then .ok v ρ else .bad
  | _ => evE c e ρ

mutual
def evS (c : Cfg) : S → Env → Rt
  | .expr e, ρ => (evE c e ρ).toRt fun _ ρ => .nx ρ
  | .set t m e, ρ => (evM c m e ρ).toRt fun v ρ => match assign t v ρ with
    | some ρ => .nx ρ
    | none => .bad
  | .par is _ es, ρ => (evEs c es ρ).toRt fun vs ρ => match setAll is vs ρ with
    | some ρ => .nx ρ
    | none => .bad
  | .setI x m i e, ρ => (evM c m e ρ).toRt fun v ρ => (match getV ρ x with
    | some (.lst _) => (evM c .scal i ρ).toRt fun k ρ => (match getV ρ x, k with
      | some (.lst xs), .int k => (match L2.ixN xs.length k with
        | some j => .nx (setV ρ x (.lst (xs.set j v)))
        | none => .bad)
      | _, _ => .bad)
    | _ => .bad)
  | .app x e, ρ => (match getV ρ x with
    | some (.lst _) => (evE c e ρ).toRt fun v ρ => (match getV ρ x with
      | some (.lst xs) => if xs.length < sizeLine then .nx (setV ρ x (.lst (xs ++ [v]))) else .bad
      | _ => .bad)
    | _ => .bad)
  | .ext x e, ρ => (match getV ρ x with
    | some (.lst _) => (evE c e ρ).toRt fun v ρ => (match getV ρ x, v with
      | some (.lst xs), .lst zs => if xs.length + zs.length ≤ sizeLine then .nx (setV ρ x (.lst (xs ++ zs))) else .bad
      | _, _ => .bad)
    | _ => .bad)
  | .ife t a b, ρ => (evT c t ρ).toRt fun k ρ => if k then evSs c a ρ else evSs c b ρ
  | .whl t b, ρ => whileN (evT c t) (evSs c b) c.wh ρ
  | .fr t it b, ρ => (evIt c it ρ).toRt fun xs ρ => forL (fun x ρ => match assign t x ρ with
    | some ρ => evSs c b ρ
    | none => .bad) xs ρ
  | .ret _ e, ρ => (evE c e ρ).toRt fun v ρ => .ret v ρ
  | .nev, _ => .bad
def evSs (c : Cfg) : Ss → Env → Rt
  | .nil, ρ => .nx ρ
  | .cons s r, ρ => (evS c s ρ).then (evSs c r)
end

/-- a def: its names by slot (the parameters first), whether the first parameter's list is lent, whether its answer is a list of nobody else's -/
structure Fd where
  name : Str
  N : List Str
  P : List Str
  lent : Bool
  fresh : Bool
  kws : List (List Nat)
  body : Ss

def enter (f : Fd) (vs : List Val) : Env := vs.map some ++ List.replicate (f.N.length - f.P.length) none
def outOf (ρ : Env) : Val := (getV ρ 0).getD .non
def endOf (f : Fd) (v : Val) (ρ : Env) : Cr := if !f.lent || (getV ρ 0).isSome then .ok v (outOf ρ) else .bad
def runFd (c : Cfg) (f : Fd) (vs : List Val) : Cr := if vs.length = f.P.length then (match evSs c f.body (enter f vs) with
    | .nx ρ => endOf f .non ρ
    | .ret v ρ => endOf f v ρ
    | .exc x => .exc x
    | .bad => .bad) else .bad

structure Prog where
  fns : List Fd
  vals : List (Str × Val)
  blts : List Str
  gcd : Bool
  wh : Nat

def callN (p : Prog) : Nat → Nat → List Val → Cr
  | 0, _, _ => .bad
  | n + 1, f, vs => match p.fns[f]? with
    | some fd => runFd ⟨callN p n, fun x => p.vals.lookup x, p.wh⟩ fd vs
    | none => .bad
end Rf

set_option Elab.async false
set_option linter.all false
set_option maxRecDepth 100000
set_option maxHeartbeats 4000000
/-! The reflective layer, part B: how trees lie in the heap. -/
namespace Rf
open PySem PySem.Spec PyProof.Rows L2

abbrev hN : Hp := fun _ => none
/-- a list of the module's heap, as the object stands -/
def KLst (K : PySem.W.Frag) (a : Addr) (us : List V) : Prop := ∃ (its : List Value) (n : Nat), K.lookup a = some { cls := .type "list", data := .seq its.toArray n } ∧ its.length ≤ sizeLine ∧ Vals us its
def RdK (K : PySem.W.Frag) (H : Hp) (a : Addr) (us : List V) : Prop := Rd H a (.lst us) ∨ KLst K a us
def SLst (K : PySem.W.Frag) (F : Addr → Prop) (H : Hp) (a : Addr) (us : List V) : Prop := (F a ∧ Rd H a (.lst us)) ∨ KLst K a us
section
variable (K : PySem.W.Frag) (fnA : Nat → Option Addr)
def STup (F : Addr → Prop) (H : Hp) (a : Addr) (us : List V) : Prop := (F a ∧ Rd H a (.tup us)) ∨ SqT K hN a us
mutual
inductive FR (F : Addr → Prop) (H : Hp) : Val → V → Prop
  | non : FR F H .non .non
  | bl (b : Bool) : FR F H (.bl b) (.bl b)
  | int (i : Int) : FR F H (.int i) (.int i)
  | str (x : Str) : FR F H (.str x) (.str x)
  | tup {a : Addr} {us : List V} {vs : List Val} : STup K F H a us → FRs F H vs us → FR F H (.tup vs) (.ref a)
  | lst {a : Addr} {us : List V} {vs : List Val} : SLst K F H a us → FRs F H vs us → FR F H (.lst vs) (.ref a)
  | fn {f : Nat} {a : Addr} : fnA f = some a → FR F H (.fn f) (.ref a)
inductive FRs (F : Addr → Prop) (H : Hp) : List Val → List V → Prop
  | nil : FRs F H [] []
  | cons {v : Val} {vs : List Val} {u : V} {us : List V} : FR F H v u → FRs F H vs us → FRs F H (v :: vs) (u :: us)
end
end

/-- from (F, H) to (F', H'): what is not in Mu stands; what is new in F' was not there -/
structure Ext (Mu : Addr → Prop) (F : Addr → Prop) (H : Hp) (F' : Addr → Prop) (H' : Hp) : Prop where
  fs : ∀ a, F a → F' a
  nw : ∀ a, F' a → F a ∨ H a = none
  kp : ∀ a o, H a = some o → ¬ Mu a → H' a = some o
  dm : ∀ a o, H a = some o → ∃ o', H' a = some o'
abbrev M0 : Addr → Prop := fun _ => False
theorem Ext.refl {Mu : Addr → Prop} {F : Addr → Prop} {H : Hp} : Ext Mu F H F H := ⟨fun _ h => h, fun _ h => .inl h, fun _ _ h _ => h, fun _ o h => ⟨o, h⟩⟩
theorem Ext.trans {M M1 : Addr → Prop} {F F1 F2 : Addr → Prop} {H H1 H2 : Hp} (a : Ext M F H F1 H1) (b : Ext M1 F1 H1 F2 H2) (hm : ∀ x, M1 x → M x ∨ H x = none) : Ext M F H F2 H2 where
  fs := fun x h => b.fs x (a.fs x h)
  nw := fun x h => by
    rcases b.nw x h with h | h
    · exact a.nw x h
    · right
      cases e : H x with
      | none => rfl
      | some o =>
        obtain ⟨o', e'⟩ := a.dm x o e
        rw [h] at e'; cases e'
  kp := fun x o e hn => by
    refine b.kp x o (a.kp x o e hn) fun hx => ?_
    rcases hm x hx with h | h
    · exact hn h
    · rw [h] at e; cases e
  dm := fun x o e => let ⟨o', e'⟩ := a.dm x o e; b.dm x o' e'
theorem Ext.wider {M M1 : Addr → Prop} {F F1 : Addr → Prop} {H H1 : Hp} (a : Ext M F H F1 H1) (hm : ∀ x, M x → M1 x) : Ext M1 F H F1 H1 := ⟨a.fs, a.nw, fun x o e hn => a.kp x o e fun h => hn (hm x h), a.dm⟩
/-- a new object, frozen -/
theorem Ext.new {F : Addr → Prop} {H : Hp} {p : Addr} {o : HO} (h : H p = none) : Ext M0 F H (fun a => F a ∨ a = p) (upd H p o) :=
  ⟨fun _ h => .inl h, fun a z => by
    rcases z with z | z
    · exact .inl z
    · subst z; exact .inr h, fun a u e _ => by rw [upd_ne (ne_of_none e h)]; exact e, fun a u e => ⟨u, by rw [upd_ne (ne_of_none e h)]; exact e⟩⟩
/-- a new object, nobody's -/
theorem Ext.new' {F : Addr → Prop} {H : Hp} {p : Addr} {o : HO} (h : H p = none) : Ext M0 F H F (upd H p o) :=
  ⟨fun _ h => h, fun a z => .inl z, fun a u e _ => by rw [upd_ne (ne_of_none e h)]; exact e, fun a u e => ⟨u, by rw [upd_ne (ne_of_none e h)]; exact e⟩⟩

section
variable {K : PySem.W.Frag} {fnA : Nat → Option Addr} {F F' : Addr → Prop} {H H' : Hp}
theorem STup.sq {a : Addr} {us : List V} (h : STup K F H a us) : SqT K H a us := by
  rcases h with ⟨_, h⟩ | h
  · exact .inl h
  · rcases h with h | h
    · rcases h with h | ⟨_, h⟩ <;> cases h
    · exact .inr h
theorem RdK.sq {a : Addr} {us : List V} (h : RdK K H a us) : SqL K H a us := by
  rcases h with h | ⟨its, n, e, hz, r⟩
  · exact .inl h
  · exact .inr ⟨_, its.toArray, n, e, rfl, rfl, rfl, by rw [List.size_toArray]; exact hz, by simpa using r⟩
theorem SLst.rd {a : Addr} {us : List V} (h : SLst K F H a us) : RdK K H a us := by
  rcases h with ⟨_, h⟩ | h
  · exact .inl h
  · exact .inr h
theorem SLst.sq {a : Addr} {us : List V} (h : SLst K F H a us) : SqL K H a us := h.rd.sq
theorem rd_keep {a : Addr} {u : HO} (hH : ∀ o, H a = some o → H' a = some o) (h : Rd H a u) : Rd H' a u := by
  rcases h with h | ⟨o, h⟩
  · exact .inl (hH _ h)
  · exact .inr ⟨o, hH _ h⟩
theorem STup.mono {a : Addr} {us : List V} (hF : ∀ a, F a → F' a) (hH : ∀ a o, F a → H a = some o → H' a = some o) (h : STup K F H a us) : STup K F' H' a us := by
  rcases h with ⟨f, h⟩ | h
  · exact .inl ⟨hF a f, rd_keep (fun o => hH a o f) h⟩
  · exact .inr h
theorem SLst.mono {a : Addr} {us : List V} (hF : ∀ a, F a → F' a) (hH : ∀ a o, F a → H a = some o → H' a = some o) (h : SLst K F H a us) : SLst K F' H' a us := by
  rcases h with ⟨f, h⟩ | h
  · exact .inl ⟨hF a f, rd_keep (fun o => hH a o f) h⟩
  · exact .inr h
mutual
theorem FR.mono (hF : ∀ a, F a → F' a) (hH : ∀ a o, F a → H a = some o → H' a = some o) : ∀ {v : Val} {u : V}, FR K fnA F H v u → FR K fnA F' H' v u
  | _, _, .non => .non
  | _, _, .bl b => .bl b
  | _, _, .int i => .int i
  | _, _, .str x => .str x
  | _, _, .tup s r => .tup (s.mono hF hH) (FRs.mono hF hH r)
  | _, _, .lst s r => .lst (s.mono hF hH) (FRs.mono hF hH r)
  | _, _, .fn e => .fn e
theorem FRs.mono (hF : ∀ a, F a → F' a) (hH : ∀ a o, F a → H a = some o → H' a = some o) : ∀ {vs : List Val} {us : List V}, FRs K fnA F H vs us → FRs K fnA F' H' vs us
  | _, _, .nil => .nil
  | _, _, .cons h r => .cons (FR.mono hF hH h) (FRs.mono hF hH r)
end
theorem FR.ext {Mu : Addr → Prop} (x : Ext Mu F H F' H') (hm : ∀ a, F a → ¬ Mu a) {v : Val} {u : V} (h : FR K fnA F H v u) : FR K fnA F' H' v u := h.mono x.fs fun a o f e => x.kp a o e (hm a f)
theorem FRs.ext {Mu : Addr → Prop} (x : Ext Mu F H F' H') (hm : ∀ a, F a → ¬ Mu a) {vs : List Val} {us : List V} (h : FRs K fnA F H vs us) : FRs K fnA F' H' vs us := h.mono x.fs fun a o f e => x.kp a o e (hm a f)
theorem FRs.len : ∀ {vs : List Val} {us : List V}, FRs K fnA F H vs us → vs.length = us.length
  | _, _, .nil => rfl
  | _, _, .cons _ r => congrArg Nat.succ r.len
theorem FRs.app : ∀ {vs ws : List Val} {us zs : List V}, FRs K fnA F H vs us → FRs K fnA F H ws zs → FRs K fnA F H (vs ++ ws) (us ++ zs)
  | _, _, _, _, .nil, s => s
  | _, _, _, _, .cons h r, s => .cons h (r.app s)
theorem FRs.get : ∀ {vs : List Val} {us : List V} {i : Nat} {v : Val}, FRs K fnA F H vs us → vs[i]? = some v → ∃ u, us[i]? = some u ∧ FR K fnA F H v u
  | _, _, _, _, .nil, e => by simp at e
  | _, _, 0, _, .cons h _, e => by simp at e; subst e; exact ⟨_, rfl, h⟩
  | _, _, i + 1, v, .cons _ r, e => by
    obtain ⟨u, h1, h2⟩ := r.get (i := i) (v := v) (by simpa using e)
    exact ⟨u, by simpa using h1, h2⟩
theorem FRs.getU : ∀ {vs : List Val} {us : List V} {i : Nat} {u : V}, FRs K fnA F H vs us → us[i]? = some u → ∃ v, vs[i]? = some v ∧ FR K fnA F H v u
  | _, _, _, _, .nil, e => by simp at e
  | _, _, 0, _, .cons h _, e => by simp at e; subst e; exact ⟨_, rfl, h⟩
  | _, _, i + 1, v, .cons _ r, e => by
    obtain ⟨u, h1, h2⟩ := r.getU (i := i) (u := v) (by simpa using e)
    exact ⟨u, by simpa using h1, h2⟩
theorem FRs.take : ∀ {vs : List Val} {us : List V} (n : Nat), FRs K fnA F H vs us → FRs K fnA F H (vs.take n) (us.take n)
  | _, _, 0, _ => .nil
  | _, _, _ + 1, .nil => .nil
  | _, _, n + 1, .cons h r => .cons h (r.take n)
theorem FRs.drop : ∀ {vs : List Val} {us : List V} (n : Nat), FRs K fnA F H vs us → FRs K fnA F H (vs.drop n) (us.drop n)
  | _, _, 0, r => r
  | _, _, _ + 1, .nil => .nil
  | _, _, n + 1, .cons _ r => r.drop n
theorem FRs.set {v : Val} {u : V} (h : FR K fnA F H v u) : ∀ {vs : List Val} {us : List V} (i : Nat), FRs K fnA F H vs us → FRs K fnA F H (vs.set i v) (us.set i u)
  | _, _, _, .nil => .nil
  | _, _, 0, .cons _ r => .cons h r
  | _, _, i + 1, .cons q r => .cons q (r.set h i)
theorem FRs.cut {vs : List Val} {us : List V} (lo hi : Option Int) (h : FRs K fnA F H vs us) : FRs K fnA F H (Rf.cut vs lo hi) (cutV us lo hi) := by
  unfold Rf.cut cutV sIx
  rw [h.len]
  exact (h.drop _).take _
theorem FRs.rev : ∀ {vs : List Val} {us : List V}, FRs K fnA F H vs us → FRs K fnA F H vs.reverse us.reverse
  | _, _, .nil => .nil
  | _, _, .cons h r => by rw [List.reverse_cons, List.reverse_cons]; exact r.rev.app (.cons h .nil)
theorem FRs.rep {vs : List Val} {us : List V} (h : FRs K fnA F H vs us) : ∀ n : Nat, FRs K fnA F H (List.replicate n vs).flatten (List.replicate n us).flatten
  | 0 => .nil
  | n + 1 => by
    rw [List.replicate_succ, List.replicate_succ, List.flatten_cons, List.flatten_cons]
    exact h.app (h.rep n)
theorem FRs.nilEq {vs : List Val} {us : List V} (h : FRs K fnA F H vs us) : us.isEmpty = vs.isEmpty := by cases h <;> rfl

/-! ### comparing -/
mutual
theorem FR.dp : ∀ {v : Val} {u : V}, FR K fnA F H v u → (toD v).canLay0 = true → Dp K H u (toD v)
  | _, _, .non, _ => .non
  | _, _, .bl b, _ => .bl b
  | _, _, .int i, _ => .int i
  | _, _, .str x, _ => .str x
  | _, _, .tup s r, h => .tup s.sq (FRs.dp r (by simpa [toD, PyData.canLay0] using h))
  | _, _, .lst s r, h => .lst s.sq (FRs.dp r (by simpa [toD, PyData.canLay0] using h))
  | _, _, .fn e, h => by simp [toD, PyData.canLay0] at h
theorem FRs.dp : ∀ {vs : List Val} {us : List V}, FRs K fnA F H vs us → PyData.canLayAll0 (toDs vs) = true → DpAll K H us (toDs vs)
  | _, _, .nil, _ => .nil
  | v :: vs, _, .cons h r, e => by
    have e' : PyData.canLay0 (toD v) = true ∧ PyData.canLayAll0 (toDs vs) = true := by simpa [toDs, PyData.canLayAll0] using e
    exact .cons (FR.dp h e'.1) (FRs.dp r e'.2)
end
theorem okD_lay {v : Val} (h : okD v = true) : (toD v).canLay0 = true := SeqAt.canLay_of_shaped h
theorem FR.dpo {v : Val} {u : V} (h : FR K fnA F H v u) (o : okD v = true) : Dp K H u (toD v) := h.dp (okD_lay o)
theorem toDs_map : ∀ vs : List Val, toDs vs = vs.map toD
  | [] => rfl
  | v :: vs => by unfold toDs; rw [toDs_map vs]; rfl
end

/-! ### the slots -/
section
variable (K : PySem.W.Frag) (fnA : Nat → Option Addr)
/-- a value whose list, if it is one, is nobody else's -/
def Own (F : Addr → Prop) (H : Hp) (v : Val) (u : V) : Prop :=
  (∃ (vs : List Val) (us : List V) (a : Addr), v = .lst vs ∧ u = .ref a ∧ ¬ F a ∧ H a = some (.lst us) ∧ FRs K fnA F H vs us) ∨ ((∀ vs, v ≠ .lst vs) ∧ FR K fnA F H v u)
structure St (O : List Nat) (F : Addr → Prop) (H : Hp) (σ : L2.St) (ρ : Env) : Prop where
  fok : ∀ a, F a → ∃ o, H a = some o
  len : ρ.length = σ.length
  fz : ∀ i v, getV ρ i = some v → i ∉ O → ∃ u, σ[i]? = some (some u) ∧ FR K fnA F H v u
  ow : ∀ i v, getV ρ i = some v → i ∈ O → ∃ u, σ[i]? = some (some u) ∧ Own K fnA F H v u
  dj : ∀ i j vs ws a, i ∈ O → j ∈ O → getV ρ i = some (.lst vs) → getV ρ j = some (.lst ws) → σ[i]? = some (some (.ref a)) → σ[j]? = some (some (.ref a)) → i = j
end
/-- the lists that the owned slots hold -/
def Mu (O : List Nat) (σ : L2.St) (ρ : Env) : Addr → Prop := fun a => ∃ i vs, i ∈ O ∧ getV ρ i = some (.lst vs) ∧ σ[i]? = some (some (.ref a))
/-- only owned slots differ; they hold lists where they did -/
structure Sm (O : List Nat) (ρ ρ' : Env) : Prop where
  len : ρ'.length = ρ.length
  out : ∀ i, i ∉ O → getV ρ' i = getV ρ i
  own : ∀ i vs, i ∈ O → getV ρ' i = some (.lst vs) → ∃ ws, getV ρ i = some (.lst ws)
  bk : ∀ i vs, i ∈ O → getV ρ i = some (.lst vs) → ∃ ws, getV ρ' i = some (.lst ws)
theorem Sm.refl {O : List Nat} {ρ : Env} : Sm O ρ ρ := ⟨rfl, fun _ _ => rfl, fun _ vs _ h => ⟨vs, h⟩, fun _ vs _ h => ⟨vs, h⟩⟩
theorem Sm.trans {O : List Nat} {ρ ρ1 ρ2 : Env} (a : Sm O ρ ρ1) (b : Sm O ρ1 ρ2) : Sm O ρ ρ2 :=
  ⟨b.len.trans a.len, fun i h => (b.out i h).trans (a.out i h), fun i vs h e => let ⟨ws, e'⟩ := b.own i vs h e; a.own i ws h e', fun i vs h e => let ⟨ws, e'⟩ := a.bk i vs h e; b.bk i ws h e'⟩
theorem Sm.mu {O : List Nat} {σ : L2.St} {ρ ρ1 : Env} (a : Sm O ρ ρ1) : ∀ x, Mu O σ ρ1 x → Mu O σ ρ x := fun x ⟨i, vs, h1, h2, h3⟩ => let ⟨ws, e⟩ := a.own i vs h1 h2; ⟨i, ws, h1, e, h3⟩
theorem Sm.mub {O : List Nat} {σ : L2.St} {ρ ρ1 : Env} (a : Sm O ρ ρ1) : ∀ x, Mu O σ ρ x → Mu O σ ρ1 x := fun x ⟨i, vs, h1, h2, h3⟩ => let ⟨ws, e⟩ := a.bk i vs h1 h2; ⟨i, ws, h1, e, h3⟩

section
variable {K : PySem.W.Frag} {fnA : Nat → Option Addr} {F F' : Addr → Prop} {H H' : Hp} {O : List Nat} {σ : L2.St} {ρ : Env}
theorem Own.ext {v : Val} {u : V} (x : Ext M0 F H F' H') (h : Own K fnA F H v u) : Own K fnA F' H' v u := by
  rcases h with ⟨vs, us, a, rfl, rfl, hn, e, r⟩ | ⟨hn, h⟩
  · refine .inl ⟨vs, us, a, rfl, rfl, fun f => ?_, x.kp a _ e id, r.ext x fun _ _ => id⟩
    rcases x.nw a f with f | f
    · exact hn f
    · rw [e] at f; cases f
  · exact .inr ⟨hn, h.ext x fun _ _ => id⟩
theorem St.notMu (s : St K fnA O F H σ ρ) : ∀ a, F a → ¬ Mu O σ ρ a := fun a f ⟨i, vs, h1, h2, h3⟩ => by
  obtain ⟨u, e, o⟩ := s.ow i _ h2 h1
  rw [h3] at e
  cases e
  rcases o with ⟨vs', us, a', _, e', hn, _⟩ | ⟨hn, _⟩
  · cases e'; exact hn f
  · exact hn _ rfl
theorem St.muSome (s : St K fnA O F H σ ρ) : ∀ a, Mu O σ ρ a → ∃ us, H a = some (.lst us) := fun a ⟨i, vs, h1, h2, h3⟩ => by
  obtain ⟨u, e, o⟩ := s.ow i _ h2 h1
  rw [h3] at e
  cases e
  rcases o with ⟨vs', us, a', _, e', hn, ha, _⟩ | ⟨hn, _⟩
  · cases e'; exact ⟨us, ha⟩
  · exact absurd rfl (hn _)
/-- the heap grows, nothing is changed -/
theorem St.ext (s : St K fnA O F H σ ρ) (x : Ext M0 F H F' H') (fo : ∀ a, F' a → ∃ o, H' a = some o) : St K fnA O F' H' σ ρ where
  fok := fo
  len := s.len
  fz := fun i v e hi => let ⟨u, e1, r⟩ := s.fz i v e hi; ⟨u, e1, r.ext x fun _ _ => id⟩
  ow := fun i v e hi => let ⟨u, e1, r⟩ := s.ow i v e hi; ⟨u, e1, r.ext x⟩
  dj := s.dj
theorem fok_new {p : Addr} {o : HO} (fo : ∀ a, F a → ∃ o, H a = some o) (h : H p = none) : ∀ a, (F a ∨ a = p) → ∃ u, upd H p o a = some u := fun a z => by
  rcases z with z | z
  · obtain ⟨u, e⟩ := fo a z
    exact ⟨u, by rw [upd_ne (ne_of_none e h)]; exact e⟩
  · subst z; exact ⟨_, upd_same⟩
theorem fok_new' {p : Addr} {o : HO} (fo : ∀ a, F a → ∃ o, H a = some o) (h : H p = none) : ∀ a, F a → ∃ u, upd H p o a = some u := fun a z => by
  obtain ⟨u, e⟩ := fo a z
  exact ⟨u, by rw [upd_ne (ne_of_none e h)]; exact e⟩
end
end Rf

set_option Elab.async false
set_option linter.all false
set_option maxRecDepth 100000
set_option maxHeartbeats 4000000
/-! The reflective layer, part C: operators on values. -/
namespace L2
open PySem PySem.Spec PyProof.Rows
/-! ### tuple * int: the same object, or an empty one -/
theorem tuple_mulS (l : Addr) (items : Array Value) (n : Nat) (dd : Option Addr) (sl : Array (Option Value)) (x : Int) (u : Tok) (c0 : (decide (x < -(2 ^ 63)) || decide (x ≥ 2 ^ 63)) = false) (c1 : (items.isEmpty || x == 1) = true) :
    Meets (Builtin.«tuple.__mul__» ⟨[.ref l, .int x u], []⟩) (fun _ R s => s.heap.get? l = some { cls := .type "tuple", dict := dd, data := .seq items n, slots := sl } ∧ R (.ok (.ret (Value.ref l))) s) :=
  .of_wp fun prog w A R s h => by
    obtain ⟨hp, g, d, tk, os⟩ := s
    obtain ⟨hl, h⟩ := h
    have f1 := AutoSeq1.idx_int
    wp_walk using wpAny_loadPart' hl
    repeat (first
      | (refine wpAny_ite_false (decide_eq_false (by rw [c0]; exact Bool.false_ne_true)) ?_; wp_walk using wpAny_loadPart' hl)
      | (refine wpAny_ite_true (decide_eq_true c1) ?_; wp_walk using wpAny_loadPart' hl))
    exact ⟨_, rfl, h⟩
theorem tuple_mulZ (l : Addr) (items : Array Value) (n : Nat) (dd : Option Addr) (sl : Array (Option Value)) (x : Int) (u : Tok) (c0 : (decide (x < -(2 ^ 63)) || decide (x ≥ 2 ^ 63)) = false) (c1 : (items.isEmpty || x == 1) = false) (c2 : (decide (x ≤ 0) || items.isEmpty) = true) :
    Meets (Builtin.«tuple.__mul__» ⟨[.ref l, .int x u], []⟩) (fun _ R s => s.heap.get? l = some { cls := .type "tuple", dict := dd, data := .seq items n, slots := sl } ∧
      R (.ok (.ret (Value.ref s.heap.objs.size))) { s with heap := s.heap.push { cls := Value.type "tuple", data := Data.seq #[] }, toks := s.toks }) :=
  .of_wp fun prog w A R s h => by
    obtain ⟨hp, g, d, tk, os⟩ := s
    obtain ⟨hl, h⟩ := h
    have f1 := AutoSeq1.idx_int
    wp_walk using wpAny_loadPart' hl
    repeat (first
      | (refine wpAny_ite_false (decide_eq_false (by rw [c0]; exact Bool.false_ne_true)) ?_; wp_walk using wpAny_loadPart' hl)
      | (refine wpAny_ite_false (decide_eq_false (by rw [c1]; exact Bool.false_ne_true)) ?_; wp_walk using wpAny_loadPart' hl)
      | (refine wpAny_ite_true (decide_eq_true c2) ?_; wp_walk using wpAny_loadPart' hl))
    exact ⟨_, rfl, h⟩
/-- t * k, whatever k -/
def rRepA (K : PySem.W.Frag) : R2 := fun x y H Q => ∃ l k xs, x = .ref l ∧ y = .int k ∧ SqT K H l xs ∧ -1000 ≤ k ∧ k ≤ 1000 ∧ xs.length ≤ 1000 ∧
  ((xs = [] ∨ k = 1) → Q (.ref l) H) ∧ (¬ (xs = [] ∨ k = 1) → ∀ p, H p = none → Q (.ref p) (upd H p (.tup (List.replicate k.toNat xs).flatten)))
section
variable {X : Cx}
theorem op_repA : OpR X (binaryOp .Mult) (rRepA X.K) := by
  intro pins s σ H x y v u Q I rx ry h
  obtain ⟨l, k, xs, rfl, rfl, hT, h1, h2, hz, q1, q2⟩ := h
  by_cases hs : xs = [] ∨ k = 1
  · cases rx
    obtain ⟨t, rfl⟩ := ry
    obtain ⟨its, r, ⟨⟨cls, dd, data, sl⟩, ho, hc, n, hd⟩, hss⟩ := I.tuple hT
    simp only at hc hd
    subst hc hd
    have hle : its.length = xs.length := r.length.symm
    have c0 : (decide (k < -(2 ^ 63)) || decide (k ≥ 2 ^ 63)) = false := by
      rw [decide_eq_false (by omega), decide_eq_false (by omega)] <;> rfl
    have c1 : (its.toArray.isEmpty || k == 1) = true := by
      rcases hs with e | e
      · subst e
        cases its with
        | nil => rfl
        | cons a b => simp at hle
      · subst e; simp
    exact wpAny_binaryOp_repeat_ref (T := "tuple") (U := "int") (by decide) ⟨_, ho, rfl⟩ (fun s' => typeIs_int s' k t) noFill_tuple_mul F.fills_int_mul F.slot_int_rmul repeat_tuple F.slot_int_index.lookup
      (call_meets F.slot_int_rmul (typeIs_int s k t) F.entry_int_rmul (F.args_int_rmul_2 _ _) (int_rmul_tuple k t l its.toArray n dd sl)
        ⟨ho, rfl, ⟨_, ho, rfl⟩, call_meets F.slot_tuple_mul ⟨_, ho, rfl⟩ F.entry_tuple_mul (F.args_tuple_mul_2 _ _) (tuple_mulS l its.toArray n dd sl k t c0 c1) ⟨ho, ⟨.ref l, H, I, rfl, q1 hs⟩⟩⟩)
  · have hne : xs ≠ [] := fun e => hs (.inl e)
    have hk1 : k ≠ 1 := fun e => hs (.inr e)
    by_cases hk : 2 ≤ k
    · exact op_repT pins s σ H _ _ v u Q I rx ry ⟨l, k, xs, rfl, rfl, hT, hne, hk, h2, hz, q2 hs⟩
    · have hk0 : k ≤ 0 := by omega
      have e0 : k.toNat = 0 := by omega
      rw [e0] at q2
      cases rx
      obtain ⟨t, rfl⟩ := ry
      obtain ⟨its, r, ⟨⟨cls, dd, data, sl⟩, ho, hc, n, hd⟩, hss⟩ := I.tuple hT
      simp only at hc hd
      subst hc hd
      have hle : its.length = xs.length := r.length.symm
      have hi : its.toArray.isEmpty = false := by
        cases its with
        | nil => exact absurd (List.eq_nil_of_length_eq_zero hle.symm) hne
        | cons a b => rfl
      have c0 : (decide (k < -(2 ^ 63)) || decide (k ≥ 2 ^ 63)) = false := by
        rw [decide_eq_false (by omega), decide_eq_false (by omega)] <;> rfl
      have c1 : (its.toArray.isEmpty || k == 1) = false := by
        rw [hi, Bool.false_or]
        exact beq_eq_false_iff_ne.mpr hk1
      have c2 : (decide (k ≤ 0) || its.toArray.isEmpty) = true := by
        rw [decide_eq_true hk0]; rfl
      refine wpAny_binaryOp_repeat_ref (T := "tuple") (U := "int") (by decide) ⟨_, ho, rfl⟩ (fun s' => typeIs_int s' k t) noFill_tuple_mul F.fills_int_mul F.slot_int_rmul repeat_tuple F.slot_int_index.lookup
        (call_meets F.slot_int_rmul (typeIs_int s k t) F.entry_int_rmul (F.args_int_rmul_2 _ _) (int_rmul_tuple k t l its.toArray n dd sl)
          ⟨ho, rfl, ⟨_, ho, rfl⟩, call_meets F.slot_tuple_mul ⟨_, ho, rfl⟩ F.entry_tuple_mul (F.args_tuple_mul_2 _ _) (tuple_mulZ l its.toArray n dd sl k t c0 c1 c2) ⟨ho, ?_⟩⟩)
      refine ⟨.ref s.heap.objs.size, _, I.laid (t' := s.toks) (o := .tup []) (fun b ob q => Heap.get?_push_of_some _ q) (Nat.le_refl _) ?_, rfl, q2 hs _ (I.hok.fresh (Nat.le_refl _))⟩
      exact ⟨Nat.zero_le _, [], .nil, IsTup.new _ _⟩
/-! ### in over a tuple of data -/
def rInT (K : PySem.W.Frag) : R2 := fun x y H Q => ∃ d ds, Dp K H x d ∧ Dp K H y (.tuple ds) ∧ SeqAt.shaped d = true ∧ SeqAt.shaped (.tuple ds) = true ∧ Q (.bl (ds.any fun z => PyData.eqv z d)) H
def rNotInT (K : PySem.W.Frag) : R2 := fun x y H Q => ∃ d ds, Dp K H x d ∧ Dp K H y (.tuple ds) ∧ SeqAt.shaped d = true ∧ SeqAt.shaped (.tuple ds) = true ∧ Q (.bl (!ds.any fun z => PyData.eqv z d)) H
theorem op_inT (hu : X.A.units + 65 < cLine) : OpR X (compareOp .In) (rInT X.K) := by
  intro pins s σ H x y v u Q I rx ry h
  obtain ⟨d, ds, hd, he, sd, se, q⟩ := h
  obtain ⟨as, r1⟩ := Dp.reads I d x v hd rx
  obtain ⟨bs, r2⟩ := Dp.reads I (.tuple ds) y u he ry
  exact SeqAt.in_tuple_reads r2 r1 (SeqAt.canLay_of_shaped se) (SeqAt.canLay_of_shaped sd) (room_in_shaped sd hu) ⟨.bl _, H, I, rfl, q⟩
theorem op_notInT (hu : X.A.units + 65 < cLine) : OpR X (compareOp .NotIn) (rNotInT X.K) := by
  intro pins s σ H x y v u Q I rx ry h
  obtain ⟨d, ds, hd, he, sd, se, q⟩ := h
  obtain ⟨as, r1⟩ := Dp.reads I d x v hd rx
  obtain ⟨bs, r2⟩ := Dp.reads I (.tuple ds) y u he ry
  exact SeqAt.notIn_tuple_reads r2 r1 (SeqAt.canLay_of_shaped se) (SeqAt.canLay_of_shaped sd) (room_in_shaped sd hu) ⟨.bl _, H, I, rfl, q⟩
end
end L2

namespace Rf
open PySem PySem.Spec PyProof.Rows L2
section
variable (K : PySem.W.Frag) (fnA : Nat → Option Addr)
/-- an answer: new relative to H -/
def Fre (H : Hp) (F' : Addr → Prop) (H' : Hp) (v : Val) (u : V) : Prop := Own K fnA F' H' v u ∧ ∀ a vs, v = .lst vs → u = .ref a → H a = none
/-- what is asked of an operator: f's answer, new -/
def Ans (F : Addr → Prop) (H : Hp) (o : Option Val) (Q : VK) : Prop :=
  ∃ v, o = some v ∧ ∀ F' H' u, Ext M0 F H F' H' → (∀ a, F' a → ∃ o, H' a = some o) → Fre K fnA H F' H' v u → Q u H'
def rV2 (f : Val → Val → Option Val) : R2 := fun x y H Q => ∃ F a b, (∀ a, F a → ∃ o, H a = some o) ∧ FR K fnA F H a x ∧ FR K fnA F H b y ∧ Ans K fnA F H (f a b) Q
end
section
variable {K : PySem.W.Frag} {fnA : Nat → Option Addr} {F : Addr → Prop} {H : Hp}
theorem Fre.fr {F' : Addr → Prop} {H' : Hp} {v : Val} {u : V} (h : FR K fnA F' H' v u) (hn : ∀ vs, v ≠ .lst vs) : Fre K fnA H F' H' v u := ⟨.inr ⟨hn, h⟩, fun a vs e _ => absurd e (hn vs)⟩
/-- a value that is there -/
theorem Ans.same {o : Option Val} {Q : VK} {v : Val} {u : V} (h : Ans K fnA F H o Q) (e : o = some v) (fo : ∀ a, F a → ∃ o, H a = some o) (r : FR K fnA F H v u) (hn : ∀ vs, v ≠ .lst vs) : Q u H := by
  obtain ⟨v', e', h⟩ := h
  rw [e] at e'; cases e'
  exact h F H u .refl fo (.fr r hn)
/-- a new tuple -/
theorem Ans.tup {o : Option Val} {Q : VK} {vs : List Val} {us : List V} (h : Ans K fnA F H o Q) (e : o = some (.tup vs)) (fo : ∀ a, F a → ∃ o, H a = some o) (r : FRs K fnA F H vs us) : ∀ p, H p = none → Q (.ref p) (upd H p (.tup us)) := fun p hp => by
  obtain ⟨v', e', h⟩ := h
  rw [e] at e'; cases e'
  refine h (fun a => F a ∨ a = p) _ _ (.new hp) (fok_new fo hp) (.fr (.tup (.inl ⟨.inr rfl, .inl upd_same⟩) (r.ext (.new hp) fun _ _ => id)) fun _ => by simp)
/-- a new list -/
theorem Ans.lst {o : Option Val} {Q : VK} {vs : List Val} {us : List V} (h : Ans K fnA F H o Q) (e : o = some (.lst vs)) (fo : ∀ a, F a → ∃ o, H a = some o) (r : FRs K fnA F H vs us) : ∀ p, H p = none → Q (.ref p) (upd H p (.lst us)) := fun p hp => by
  obtain ⟨v', e', h⟩ := h
  rw [e] at e'; cases e'
  have hF : ¬ F p := fun f => by obtain ⟨o, z⟩ := fo p f; rw [hp] at z; cases z
  refine h F _ _ (.new' hp) (fok_new' fo hp) ⟨.inl ⟨_, _, _, rfl, rfl, hF, upd_same, r.ext (.new' hp) fun _ _ => id⟩, fun a vs _ e => by cases e; exact hp⟩

def bopOf : BOp → Operator
  | .add => .Add | .sub => .Sub | .mul => .Mult | .fdiv => .FloorDiv | .mod => .Mod | .pow => .Pow | .shl => .LShift | .shr => .RShift | .band => .BitAnd
def copOf : COp → CmpOp
  | .eq => .Eq | .ne => .NotEq | .lt => .Lt | .le => .LtE | .gt => .Gt | .ge => .GtE | .is => .Is | .isn => .IsNot | .inn => .In | .nin => .NotIn

theorem bin_some {o : BOp} {a b c : Val} (h : binop o a b = some c) : (∃ i j, a = .int i ∧ b = .int j ∧ binop o (.int i) (.int j) = some c) ∨ (∃ x y, o = .add ∧ a = .str x ∧ b = .str y ∧ x.length + y.length ≤ sizeLine ∧ c = .str (x ++ y)) ∨
    (∃ x y, o = .add ∧ a = .tup x ∧ b = .tup y ∧ x.length + y.length ≤ sizeLine ∧ c = .tup (x ++ y)) ∨ (∃ x y, o = .add ∧ a = .lst x ∧ b = .lst y ∧ x.length + y.length ≤ sizeLine ∧ c = .lst (x ++ y)) ∨
    (∃ x k, o = .mul ∧ a = .tup x ∧ b = .int k ∧ (x.length ≤ 1000 ∧ k ≤ 1000 ∧ -1000 ≤ k) ∧ c = .tup (List.replicate k.toNat x).flatten) ∨ (∃ x k, o = .mul ∧ a = .lst x ∧ b = .int k ∧ (x.length ≤ 1000 ∧ k ≤ 1000 ∧ -1000 ≤ k) ∧ c = .lst (List.replicate k.toNat x).flatten) := by
  unfold binop at h
  split at h <;> first
    | (exact .inl ⟨_, _, rfl, rfl, by unfold binop; exact h⟩)
    | (split at h
       · rename_i hc
         cases h
         first
           | exact .inr (.inl ⟨_, _, rfl, rfl, rfl, hc, rfl⟩)
           | exact .inr (.inr (.inl ⟨_, _, rfl, rfl, rfl, hc, rfl⟩))
           | exact .inr (.inr (.inr (.inl ⟨_, _, rfl, rfl, rfl, hc, rfl⟩)))
           | exact .inr (.inr (.inr (.inr (.inl ⟨_, _, rfl, rfl, rfl, hc, rfl⟩))))
           | exact .inr (.inr (.inr (.inr (.inr ⟨_, _, rfl, rfl, rfl, hc, rfl⟩))))
       · cases h)
    | (cases h)
end
end Rf

set_option Elab.async false
set_option linter.all false
set_option maxRecDepth 100000
set_option maxHeartbeats 4000000
/-! The reflective layer, part D: the operators' rules. -/
namespace L2
open PySem PySem.Spec PyProof.Rows
/-! ### list + list, list * int: of whatever may be read -/
def rCatR (K : PySem.W.Frag) : R2 := fun x y H Q => ∃ l b xs zs, x = .ref l ∧ y = .ref b ∧ Rf.RdK K H l xs ∧ Rf.RdK K H b zs ∧ xs.length + zs.length ≤ sizeLine ∧ ∀ p, H p = none → Q (.ref p) (upd H p (.lst (xs ++ zs)))
section
variable {X : Cx}
theorem rdk_ok {K : PySem.W.Frag} {pins : List (Addr × Obj)} {s : Shared} {σ : St} {H : Hp} {a : Addr} {xs : List V} (hK : X.K = K) (I : Inv X pins σ H s) (h : Rf.RdK K H a xs) : ∃ (z : xs.length ≤ sizeLine) (its : List Value) (n : Nat), Vals xs its ∧ s.heap.get? a = some { cls := .type "list", data := .seq its.toArray n } := by
  subst hK
  rcases h with h | ⟨its, n, e, hz, r⟩
  · obtain ⟨z, its, n, r, e⟩ := h.ok I.hok
    exact ⟨z, its, n, r, e⟩
  · exact ⟨by rw [r.length]; exact hz, its, n, r, I.kIn a _ e⟩
theorem op_catR : OpR X (binaryOp .Add) (rCatR X.K) := by
  intro pins s σ H x y v u Q I rx ry h
  obtain ⟨l, b, xs, zs, rfl, rfl, hH, hB, hz, q⟩ := h
  cases rx
  cases ry
  obtain ⟨z, its, n, r, e⟩ := rdk_ok rfl I hH
  obtain ⟨z2, its2, n2, r2, e2⟩ := rdk_ok rfl I hB
  have hl := r.length
  have hl2 := r2.length
  refine PySem.P.add_list e e2 ?_ (by rw [List.size_toArray, List.size_toArray]; omega)
  have ea : its.toArray ++ its2.toArray = (its ++ its2).toArray := by simp
  rw [ea]
  exact ⟨.ref _, _, I.lnew (t' := s.toks) (r.append r2) (by rw [List.length_append]; omega), rfl, q _ I.fresh⟩
def rRepR (K : PySem.W.Frag) : R2 := fun x y H Q => ∃ l k xs, x = .ref l ∧ y = .int k ∧ Rf.RdK K H l xs ∧ -(2 ^ 63) ≤ k ∧ k < 2 ^ 63 ∧ xs.length * k.toNat ≤ sizeLine ∧
  ∀ p, H p = none → Q (.ref p) (upd H p (.lst (List.replicate k.toNat xs).flatten))
theorem op_repR : OpR X (binaryOp .Mult) (rRepR X.K) := by
  intro pins s σ H x y v u Q I rx ry h
  obtain ⟨l, k, xs, rfl, rfl, hH, h1, h2, hz, q⟩ := h
  cases rx
  obtain ⟨t, rfl⟩ := ry
  obtain ⟨z, its, n, r, e⟩ := rdk_ok rfl I hH
  have hl := r.length
  have hlen : its.toArray.size * k.toNat ≤ sizeLine := by rw [List.size_toArray, ← hl]; exact hz
  have hcap : ¬ its.toArray.size * k.toNat > (2 ^ 63 - 1) / 8 := by
    have : (sizeLine : Nat) ≤ (2 ^ 63 - 1) / 8 := by decide
    omega
  have hfit : ¬ (!Builtin.List.listFitsIndex k) = true := by
    rw [fitsIndex_both h1 h2]
    exact Bool.false_ne_true
  have hlong : ¬ Builtin.List.listTooLong (its.toArray.size * k.toNat) = true := by
    rw [notLongL hlen]
    exact Bool.false_ne_true
  have hnew : List.foldl (fun x1 x2 => x1 ++ x2) #[] (List.replicate (if its.toArray.isEmpty = true then 0 else k.toNat) its.toArray) = (List.replicate k.toNat its).flatten.toArray := by
    have f0 : ∀ m : Nat, List.foldl (fun x1 x2 => x1 ++ x2) #[] (List.replicate m its.toArray) = (List.replicate m its).flatten.toArray := fun m => by
      have := foldl_rep its m []
      rw [List.nil_append] at this
      exact this
    rw [f0]
    cases its with
    | nil => simp
    | cons a r' => rw [if_neg (by simp)]
  refine wpAny_binaryOp_repeat_ref (T := "list") (U := "int") (by decide) ⟨_, e, rfl⟩ (fun s' => typeIs_int s' k t) noFill_list_mul F.fills_int_mul F.slot_int_rmul repeat_list F.slot_int_index.lookup
    (call_meets F.slot_int_rmul (typeIs_int s k t) F.entry_int_rmul (F.args_int_rmul_2 _ _) (int___rmul___int_list k t l its.toArray n)
      ⟨e, rfl, ⟨_, e, rfl⟩, call_meets F.slot_list_mul ⟨_, e, rfl⟩ F.entry_list_mul (F.args_list_mul_2 _ _) (AutoListH.list___mul___list_int_3 l its.toArray n k t hfit hcap hlong) ⟨e, ?_⟩⟩)
  rw [hnew]
  exact ⟨.ref _, _, I.lnew (t' := s.toks) (r.rep k.toNat) (by rw [PyProof.Rows.lm_len_rep_flat, Nat.mul_comm]; exact hz), rfl, q _ I.fresh⟩
end
end L2

namespace Rf
open PySem PySem.Spec PyProof.Rows L2
section
variable {X : Cx} {fnA : Nat → Option Addr}
theorem Ans.int {K : PySem.W.Frag} {F : Addr → Prop} {H : Hp} {o : Option Val} {Q : VK} {i : Int} (h : Ans K fnA F H o Q) (e : o = some (.int i)) (fo : ∀ a, F a → ∃ o, H a = some o) : Q (.int i) H := h.same e fo (.int i) (by simp)
theorem Ans.bl {K : PySem.W.Frag} {F : Addr → Prop} {H : Hp} {o : Option Val} {Q : VK} {i : Bool} (h : Ans K fnA F H o Q) (e : o = some (.bl i)) (fo : ∀ a, F a → ∃ o, H a = some o) : Q (.bl i) H := h.same e fo (.bl i) (by simp)
theorem mulOk_ok {i j : Int} (h : mulOk i j = true) : IntMulOk i j := by
  unfold IntMulOk
  unfold mulOk at h
  intro z
  rw [z] at h
  cases h
theorem op_bin (o : BOp) : OpR X (binaryOp (bopOf o)) (rV2 X.K fnA (binop o)) := by
  intro pins s σ H x y v u Q I rx ry ⟨F, a, b, fo, ha, hb, A⟩
  obtain ⟨c, ec, q⟩ := id A
  rcases bin_some ec with ⟨i, j, rfl, rfl, ei⟩ | ⟨xs, ys, rfl, rfl, rfl, hc, rfl⟩ | ⟨xs, ys, rfl, rfl, rfl, hc, rfl⟩ | ⟨xs, ys, rfl, rfl, rfl, hc, rfl⟩ | ⟨xs, k, rfl, rfl, rfl, hc, rfl⟩ | ⟨xs, k, rfl, rfl, rfl, hc, rfl⟩
  · cases ha
    cases hb
    cases o with
    | add => exact op_add pins s σ H _ _ v u Q I rx ry ⟨_, _, rfl, rfl, A.int rfl fo⟩
    | sub => exact op_sub pins s σ H _ _ v u Q I rx ry ⟨_, _, rfl, rfl, A.int rfl fo⟩
    | mul =>
      obtain ⟨t, rfl⟩ := rx
      obtain ⟨t', rfl⟩ := ry
      simp only [binop] at ec
      split at ec
      · rename_i hm
        exact mul_int ⟨.int _, H, I.tok _, ⟨_, rfl⟩, A.int (by simp only [binop, hm, if_true]) fo⟩ (mulOk_ok hm)
      · cases ec
    | fdiv =>
      simp only [binop] at ec
      split at ec
      · rename_i hm
        exact op_fdivW pins s σ H _ _ v u Q I rx ry ⟨_, _, rfl, rfl, hm, A.int (by simp only [binop, hm, and_self, if_true]) fo⟩
      · cases ec
    | mod =>
      simp only [binop] at ec
      split at ec
      · rename_i hm
        exact op_modN pins s σ H _ _ v u Q I rx ry ⟨_, _, rfl, rfl, hm, A.int (by simp only [binop, ne_eq, hm, not_false_eq_true, if_true]) fo⟩
      · cases ec
    | pow =>
      simp only [binop] at ec
      split at ec
      · rename_i hm
        exact op_pow pins s σ H _ _ v u Q I rx ry ⟨_, _, rfl, rfl, hm, A.int (by simp only [binop, hm, and_self, if_true]) fo⟩
      · cases ec
    | shl =>
      simp only [binop] at ec
      split at ec
      · rename_i hm
        exact op_shlW pins s σ H _ _ v u Q I rx ry ⟨_, _, rfl, rfl, hm, A.int (by simp only [binop]; rw [if_pos hm]) fo⟩
      · cases ec
    | shr =>
      simp only [binop] at ec
      split at ec
      · rename_i hm
        refine op_shrN pins s σ H _ _ v u Q I rx ry ⟨i, j.toNat, rfl, by rw [Int.toNat_of_nonneg hm], A.int (by simp only [binop]; rw [if_pos hm]) fo⟩
      · cases ec
    | band =>
      simp only [binop] at ec
      split at ec
      · rename_i hm
        subst hm
        exact op_andM pins s σ H _ _ v u Q I rx ry ⟨i, 1, rfl, rfl, A.int rfl fo⟩
      · cases ec
  · cases ha
    cases hb
    exact op_add_str pins s σ H _ _ v u Q I rx ry ⟨_, _, rfl, rfl, hc, A.same (by simp only [binop, hc, if_true]) fo (.str _) (by simp)⟩
  · cases ha with
    | tup sa ra =>
      cases hb with
      | tup sb rb =>
        have hA := A.tup (by simp only [binop, hc, if_true]) fo (ra.app rb)
        refine op_catA pins s σ H _ _ v u Q I rx ry ⟨_, _, _, _, rfl, rfl, sa.sq, sb.sq, by rw [← ra.len, ← rb.len]; exact hc, fun e => ?_, fun _ e => ?_, fun _ _ => hA⟩
        · subst e
          cases ra
          exact A.same (by simp only [binop, hc, if_true, List.nil_append]) fo (.tup sb rb) (by simp)
        · subst e
          cases rb
          exact A.same (by simp only [binop, hc, if_true, List.append_nil]) fo (.tup sa ra) (by simp)
  · cases ha with
    | lst sa ra =>
      cases hb with
      | lst sb rb =>
        exact op_catR pins s σ H _ _ v u Q I rx ry ⟨_, _, _, _, rfl, rfl, sa.rd, sb.rd, by rw [← ra.len, ← rb.len]; exact hc, A.lst (by simp only [binop, hc, if_true]) fo (ra.app rb)⟩
  · cases ha with
    | tup sa ra =>
      cases hb
      refine op_repA pins s σ H _ _ v u Q I rx ry ⟨_, _, _, rfl, rfl, sa.sq, hc.2.2, hc.2.1, by rw [← ra.len]; exact hc.1, fun e => ?_, fun _ => A.tup (by simp only [binop]; rw [if_pos hc]) fo (ra.rep _)⟩
      refine A.same (v := .tup xs) ?_ fo (.tup sa ra) (by simp)
      simp only [binop]
      rw [if_pos hc]
      rcases e with e | e
      · subst e
        cases ra
        congr 2
        simp
      · subst e
        simp
  · cases ha with
    | lst sa ra =>
      cases hb
      refine op_repR pins s σ H _ _ v u Q I rx ry ⟨_, _, _, rfl, rfl, sa.rd, by omega, by omega, ?_, A.lst (by simp only [binop]; rw [if_pos hc]) fo (ra.rep _)⟩
      rw [← ra.len, sizeLine_eq]
      have a1 : xs.length * k.toNat ≤ 1000 * 1000 := Nat.mul_le_mul hc.1 (by omega)
      omega
end
end Rf

set_option Elab.async false
set_option linter.all false
set_option maxRecDepth 100000
set_option maxHeartbeats 4000000
/-! The reflective layer, part E: comparisons, built-ins, places, slices. -/
namespace Rf
open PySem PySem.Spec PyProof.Rows L2
section
variable {X : Cx} {fnA : Nat → Option Addr}
theorem any_toD (xs : List Val) (a : Val) : ((toDs xs).any fun z => PyData.eqv z (toD a)) = xs.any fun z => eqV z a := by
  rw [toDs_map, List.any_map]; rfl
theorem FR.isNon {K : PySem.W.Frag} {F : Addr → Prop} {H : Hp} {a : Val} {x : V} (h : FR K fnA F H a x) : decide (x = .non) = isNon a := by
  cases h <;> rfl
theorem int_dec (i j : Int) : decide (V.int i = V.int j) = decide (i = j) := decide_eq_decide.mpr ⟨fun e => V.int.inj e, fun e => congrArg _ e⟩
theorem op_cmp (o : COp) (hu : X.A.units + 65 < cLine) : OpR X (compareOp (copOf o)) (rV2 X.K fnA fun a b => (cmpop o a b).map .bl) := by
  intro pins s σ H x y v u Q I rx ry ⟨F, a, b, fo, ha, hb, A⟩
  obtain ⟨c, ec, q⟩ := id A
  simp only [Option.map_eq_some_iff] at ec
  obtain ⟨k, ek, rfl⟩ := ec
  have fin : Q (.bl k) H := A.bl (by show Option.map Val.bl (cmpop o a b) = _; rw [ek]; rfl) fo
  unfold cmpop at ek
  split at ek
  · cases ek; cases ha; cases hb
    exact op_eq pins s σ H _ _ v u Q I rx ry ⟨rfl, by rw [int_dec]; exact fin⟩
  · cases ek; cases ha; cases hb
    exact op_ne pins s σ H _ _ v u Q I rx ry ⟨rfl, by rw [int_dec]; exact fin⟩
  · cases ek; cases ha; cases hb
    exact op_lt pins s σ H _ _ v u Q I rx ry ⟨_, _, rfl, rfl, fin⟩
  · cases ek; cases ha; cases hb
    exact op_le pins s σ H _ _ v u Q I rx ry ⟨_, _, rfl, rfl, fin⟩
  · cases ek; cases ha; cases hb
    exact op_gt pins s σ H _ _ v u Q I rx ry ⟨_, _, rfl, rfl, fin⟩
  · cases ek; cases ha; cases hb
    exact op_ge pins s σ H _ _ v u Q I rx ry ⟨_, _, rfl, rfl, fin⟩
  · split at ek
    · rename_i hk
      rw [Bool.and_eq_true] at hk
      cases ek
      exact op_eqD (by omega) pins s σ H _ _ v u Q I rx ry ⟨_, _, ha.dpo hk.1, hb.dpo hk.2, hk.1, hk.2, fin⟩
    · cases ek
  · split at ek
    · rename_i hk
      rw [Bool.and_eq_true] at hk
      cases ek
      exact op_neD (by omega) pins s σ H _ _ v u Q I rx ry ⟨_, _, ha.dpo hk.1, hb.dpo hk.2, hk.1, hk.2, fin⟩
    · cases ek
  · cases hb
    refine op_isN pins s σ H _ _ v u Q I rx ry ⟨rfl, ?_⟩
    rw [ha.isNon]
    cases ek
    exact fin
  · cases hb
    refine op_notN pins s σ H _ _ v u Q I rx ry ⟨rfl, ?_⟩
    rw [ha.isNon]
    cases ek
    exact fin
  · split at ek
    · rename_i hk
      rw [Bool.and_eq_true] at hk
      cases ek
      refine op_inD hu pins s σ H _ _ v u Q I rx ry ⟨_, _, ha.dpo hk.1, hb.dpo hk.2, hk.1, hk.2, ?_⟩
      rw [any_toD]; exact fin
    · cases ek
  · split at ek
    · rename_i hk
      rw [Bool.and_eq_true] at hk
      cases ek
      refine op_inT hu pins s σ H _ _ v u Q I rx ry ⟨_, _, ha.dpo hk.1, hb.dpo hk.2, hk.1, hk.2, ?_⟩
      rw [any_toD]; exact fin
    · cases ek
  · split at ek
    · rename_i hk
      rw [Bool.and_eq_true] at hk
      cases ek
      refine op_notInD hu pins s σ H _ _ v u Q I rx ry ⟨_, _, ha.dpo hk.1, hb.dpo hk.2, hk.1, hk.2, ?_⟩
      rw [any_toD]; exact fin
    · cases ek
  · split at ek
    · rename_i hk
      rw [Bool.and_eq_true] at hk
      cases ek
      refine op_notInT hu pins s σ H _ _ v u Q I rx ry ⟨_, _, ha.dpo hk.1, hb.dpo hk.2, hk.1, hk.2, ?_⟩
      rw [any_toD]; exact fin
    · cases ek
  · cases ek

/-! ### built-ins -/
def rVn (K : PySem.W.Frag) (fnA : Nat → Option Addr) (f : List Val → Option Val) : List V → Hp → VK → Prop := fun vs H Q => ∃ F as, (∀ a, F a → ∃ o, H a = some o) ∧ FRs K fnA F H as vs ∧ Ans K fnA F H (f as) Q
def biV : BI → Value
  | .len => .builtin "len" | .tup => .type "tuple" | .lst => .type "list" | .abs => .builtin "abs" | .int => .type "int" | .min => .builtin "min" | .max => .builtin "max" | .sum => .builtin "sum" | .all => .builtin "all" | .any => .builtin "any" | .gcd => .builtin "math.gcd"
theorem ints_FR {K : PySem.W.Frag} {F : Addr → Prop} {H : Hp} : ∀ {xs : List Val} {us : List V} {ns : List Int}, FRs K fnA F H xs us → ints? xs = some ns → us = ns.map V.int
  | _, _, _, .nil, e => by simp [ints?] at e; subst e; rfl
  | _, _, _, .cons h r, e => by
    cases h <;> simp only [ints?] at e <;> try (cases e)
    simp only [Option.map_eq_some_iff] at e
    obtain ⟨ms, e1, rfl⟩ := e
    rw [ints_FR r e1]; rfl
theorem bools_FR {K : PySem.W.Frag} {F : Addr → Prop} {H : Hp} : ∀ {xs : List Val} {us : List V} {ns : List Bool}, FRs K fnA F H xs us → bools? xs = some ns → us = ns.map V.bl
  | _, _, _, .nil, e => by simp [bools?] at e; subst e; rfl
  | _, _, _, .cons h r, e => by
    cases h <;> simp only [bools?] at e <;> try (cases e)
    simp only [Option.map_eq_some_iff] at e
    obtain ⟨ms, e1, rfl⟩ := e
    rw [bools_FR r e1]; rfl
theorem minF (r : List Int) : ∀ x : Int, (r.foldl (fun a b => if b < a then b else a) x ∈ x :: r) ∧ ∀ y ∈ x :: r, r.foldl (fun a b => if b < a then b else a) x ≤ y := by
  induction r with
  | nil => intro x; simp
  | cons z r ih =>
    intro x
    rw [List.foldl_cons]
    obtain ⟨h1, h2⟩ := ih (if z < x then z else x)
    refine ⟨?_, fun y hy => ?_⟩
    · rcases List.mem_cons.mp h1 with h | h
      · rw [h]; split <;> simp
      · exact List.mem_cons_of_mem _ (List.mem_cons_of_mem _ h)
    · have h3 := h2 (if z < x then z else x) List.mem_cons_self
      have h4 : (if z < x then z else x) ≤ x := by split <;> omega
      have h5 : (if z < x then z else x) ≤ z := by split <;> omega
      rcases List.mem_cons.mp hy with e | hy
      · rw [e]; exact Int.le_trans h3 h4
      · rcases List.mem_cons.mp hy with e | hy
        · rw [e]; exact Int.le_trans h3 h5
        · exact h2 y (List.mem_cons_of_mem _ hy)
theorem maxF (r : List Int) : ∀ x : Int, (r.foldl (fun a b => if a < b then b else a) x ∈ x :: r) ∧ ∀ y ∈ x :: r, y ≤ r.foldl (fun a b => if a < b then b else a) x := by
  induction r with
  | nil => intro x; simp
  | cons z r ih =>
    intro x
    rw [List.foldl_cons]
    obtain ⟨h1, h2⟩ := ih (if x < z then z else x)
    refine ⟨?_, fun y hy => ?_⟩
    · rcases List.mem_cons.mp h1 with h | h
      · rw [h]; split <;> simp
      · exact List.mem_cons_of_mem _ (List.mem_cons_of_mem _ h)
    · have h3 := h2 (if x < z then z else x) List.mem_cons_self
      have h4 : x ≤ (if x < z then z else x) := by split <;> omega
      have h5 : z ≤ (if x < z then z else x) := by split <;> omega
      rcases List.mem_cons.mp hy with e | hy
      · rw [e]; exact Int.le_trans h4 h3
      · rcases List.mem_cons.mp hy with e | hy
        · rw [e]; exact Int.le_trans h5 h3
        · exact h2 y (List.mem_cons_of_mem _ hy)
theorem minL_is {ns : List Int} {k m : Int} (h : minL ns = some k) (h1 : m ∈ ns) (h2 : ∀ y ∈ ns, m ≤ y) : m = k := by
  cases ns with
  | nil => cases h
  | cons x r =>
    simp only [minL, Option.some.injEq] at h
    obtain ⟨a, b⟩ := minF r x
    have c := b m h1
    have d := h2 _ a
    omega
theorem maxL_is {ns : List Int} {k m : Int} (h : maxL ns = some k) (h1 : m ∈ ns) (h2 : ∀ y ∈ ns, y ≤ m) : m = k := by
  cases ns with
  | nil => cases h
  | cons x r =>
    simp only [maxL, Option.some.injEq] at h
    obtain ⟨a, b⟩ := maxF r x
    have c := b m h1
    have d := h2 _ a
    omega
theorem call_bi (b : BI) (hc : X.calm = true) : CallR X (biV b) (rVn X.K fnA (biop b)) := by
  intro pins s σ H vs us Q I r ⟨F, as, fo, hs, A⟩
  obtain ⟨c, ec, q⟩ := id A
  unfold biop at ec
  split at ec
  · cases hs with | cons h t => cases t; cases h with | tup sa ra => exact call_len_seq pins s σ H _ us Q I r ⟨_, _, rfl, .inr sa.sq, by rw [← ra.len]; exact A.int rfl fo⟩
  · cases hs with | cons h t => cases t; cases h with | lst sa ra => exact call_len_seq pins s σ H _ us Q I r ⟨_, _, rfl, .inl sa.sq, by rw [← ra.len]; exact A.int rfl fo⟩
  · split at ec
    · rename_i hl
      cases hs with | cons h t => cases t; cases h; exact call_len_str pins s σ H _ us Q I r ⟨_, rfl, hl, A.int (by simp only [biop]; rw [if_pos hl]) fo⟩
    · cases ec
  · cases hs with | cons h t => cases t; cases h with | tup sa ra => exact call_tuple_of pins s σ H _ us Q I r ⟨_, _, rfl, .inr ⟨sa.sq, A.same rfl fo (.tup sa ra) (by simp)⟩⟩
  · cases hs with | cons h t => cases t; cases h with | lst sa ra => exact call_tuple_of pins s σ H _ us Q I r ⟨_, _, rfl, .inl ⟨sa.sq, A.tup rfl fo ra⟩⟩
  · cases hs with | cons h t => cases t; cases h with | tup sa ra => exact call_list_of pins s σ H _ us Q I r ⟨_, _, rfl, .inr sa.sq, A.lst rfl fo ra⟩
  · cases hs with | cons h t => cases t; cases h with | lst sa ra => exact call_list_of pins s σ H _ us Q I r ⟨_, _, rfl, .inl sa.sq, A.lst rfl fo ra⟩
  · cases hs with | cons h t => cases t; cases h; exact call_abs pins s σ H _ us Q I r ⟨_, rfl, A.int rfl fo⟩
  · cases hs with | cons h t => cases t; cases h; exact call_int1 pins s σ H _ us Q I r (.inl ⟨_, rfl, A.int rfl fo⟩)
  · cases hs with | cons h t => cases t; cases h; exact call_int1 pins s σ H _ us Q I r (.inr ⟨_, rfl, A.int rfl fo⟩)
  · cases hs with | cons h t => cases t with | cons h2 t => cases t; cases h; cases h2; exact call_min2 hc pins s σ H _ us Q I r ⟨_, _, rfl, A.int rfl fo⟩
  · cases hs with | cons h t => cases t with | cons h2 t => cases t; cases h; cases h2; exact call_max2 hc pins s σ H _ us Q I r ⟨_, _, rfl, A.int rfl fo⟩
  · simp only [Option.bind_eq_some_iff, Option.map_eq_some_iff] at ec
    obtain ⟨ns, e1, k, e2, rfl⟩ := ec
    cases hs with | cons h t => cases t; cases h with | lst sa ra =>
      have e3 := ints_FR ra e1
      subst e3
      refine cr_min hc pins s σ H _ us Q I r ⟨_, ns, rfl, sa.sq, ?_, fun m h1 h2 => ?_⟩
      · cases ns with
        | nil => cases e2
        | cons a b => simp
      · have := minL_is e2 h1 h2
        subst this
        exact A.int (by simp [biop, e1, e2]) fo
  · simp only [Option.bind_eq_some_iff, Option.map_eq_some_iff] at ec
    obtain ⟨ns, e1, k, e2, rfl⟩ := ec
    cases hs with | cons h t => cases t; cases h with | lst sa ra =>
      have e3 := ints_FR ra e1
      subst e3
      refine cr_max hc pins s σ H _ us Q I r ⟨_, ns, rfl, sa.sq, ?_, fun m h1 h2 => ?_⟩
      · cases ns with
        | nil => cases e2
        | cons a b => simp
      · have := maxL_is e2 h1 h2
        subst this
        exact A.int (by simp [biop, e1, e2]) fo
  · simp only [Option.map_eq_some_iff] at ec
    obtain ⟨ns, e1, rfl⟩ := ec
    cases hs with | cons h t => cases t; cases h with | lst sa ra =>
      have e3 := ints_FR ra e1
      subst e3
      exact cr_sum hc pins s σ H _ us Q I r ⟨_, ns, rfl, sa.sq, A.int (by simp [biop, e1]) fo⟩
  · simp only [Option.map_eq_some_iff] at ec
    obtain ⟨ns, e1, rfl⟩ := ec
    cases hs with | cons h t => cases t; cases h with | lst sa ra =>
      have e3 := bools_FR ra e1
      subst e3
      exact cr_all hc pins s σ H _ us Q I r ⟨_, ns, rfl, sa.sq, A.bl (by simp [biop, e1]) fo⟩
  · simp only [Option.map_eq_some_iff] at ec
    obtain ⟨ns, e1, rfl⟩ := ec
    cases hs with | cons h t => cases t; cases h with | lst sa ra =>
      have e3 := bools_FR ra e1
      subst e3
      exact cr_any hc pins s σ H _ us Q I r ⟨_, ns, rfl, sa.sq, A.bl (by simp [biop, e1]) fo⟩
  · cases hs with | cons h t => cases t with | cons h2 t => cases t; cases h; cases h2; exact cr_gcd pins s σ H _ us Q I r ⟨_, _, rfl, A.int rfl fo⟩
  · cases ec

/-! ### places, slices -/
theorem ixN_lt {n : Nat} {i : Int} {j : Nat} (h : ixN n i = some j) : j < n := by
  unfold ixN at h
  split at h
  · split at h
    · cases h; omega
    · cases h
  · split at h
    · cases h; omega
    · cases h
theorem FRs.atI {K : PySem.W.Frag} {F : Addr → Prop} {H : Hp} {vs : List Val} {us : List V} {i : Int} {v : Val} (h : FRs K fnA F H vs us) (e : L2.atI vs i = some v) : ∃ u, L2.atI us i = some u ∧ FR K fnA F H v u := by
  unfold L2.atI at e ⊢
  rw [← h.len]
  cases e1 : ixN vs.length i with
  | none => rw [e1] at e; cases e
  | some j =>
    rw [e1] at e
    exact h.get e
/-- a value as Fre wants it, of one that is there -/
theorem Ans.old {K : PySem.W.Frag} {F : Addr → Prop} {H : Hp} {Q : VK} {v : Val} {u : V} (h : ∀ F' H' u, Ext M0 F H F' H' → (∀ a, F' a → ∃ o, H' a = some o) → FR K fnA F' H' v u → Q u H') (fo : ∀ a, F a → ∃ o, H a = some o) (r : FR K fnA F H v u) : Q u H := h F H u .refl fo r
/-- what is asked, the answer perhaps not new -/
def Ans' (K : PySem.W.Frag) (fnA : Nat → Option Addr) (F : Addr → Prop) (H : Hp) (o : Option Val) (Q : VK) : Prop :=
  ∃ v, o = some v ∧ ∀ F' H' u, Ext M0 F H F' H' → (∀ a, F' a → ∃ o, H' a = some o) → FR K fnA F' H' v u → Q u H'
def rV2' (K : PySem.W.Frag) (fnA : Nat → Option Addr) (f : Val → Val → Option Val) : R2 := fun x y H Q => ∃ F a b, (∀ a, F a → ∃ o, H a = some o) ∧ FR K fnA F H a x ∧ FR K fnA F H b y ∧ Ans' K fnA F H (f a b) Q
theorem ix_parts {K : PySem.W.Frag} {F : Addr → Prop} {H : Hp} {Q : VK} {a b : Val} {x y : V} (ha : FR K fnA F H a x) (hb : FR K fnA F H b y) (fo : ∀ a, F a → ∃ o, H a = some o) (A : Ans' K fnA F H (itemop a b) Q) : rIx K x y H Q := by
  obtain ⟨c, ec, q⟩ := A
  unfold itemop at ec
  split at ec
  · cases ha with
    | tup sa ra =>
      cases hb
      obtain ⟨w, e, f⟩ := ra.atI ec
      exact .inr (.inl ⟨_, _, _, _, rfl, rfl, sa.sq, e, q F H w .refl fo f⟩)
  · cases ha with
    | lst sa ra =>
      cases hb
      obtain ⟨w, e, f⟩ := ra.atI ec
      exact .inl ⟨_, _, _, _, rfl, rfl, sa.sq, e, q F H w .refl fo f⟩
  · split at ec
    · rename_i hl
      simp only [Option.map_eq_some_iff] at ec
      obtain ⟨d, e, rfl⟩ := ec
      cases ha
      cases hb
      exact .inr (.inr ⟨_, _, d, rfl, rfl, hl, e, q F H _ .refl fo (.str _)⟩)
    · cases ec
  · cases ec
theorem ix_any : IxR X (rV2' X.K fnA itemop) := by
  intro ve se pins s σ H x y v u Q I rx ry ⟨F, a, b, fo, ha, hb, A⟩ hsub
  exact ix_seq ve se pins s σ H x y v u Q I rx ry (ix_parts ha hb fo A) hsub
def rVs (K : PySem.W.Frag) (fnA : Nat → Option Addr) : V → Option Int → Option Int → Hp → VK → Prop := fun x lo hi H Q => ∃ F a, (∀ a, F a → ∃ o, H a = some o) ∧ FR K fnA F H a x ∧ Ans K fnA F H (sliceop a lo hi) Q
theorem cut_whole {α : Type} (xs : List α) {lo hi : Option Int} (h : HT.sIx xs.length 0 lo = 0 ∧ HT.sIx xs.length xs.length hi = xs.length) : Rf.cut xs lo hi = xs := by
  unfold Rf.cut sIx
  rw [h.1, h.2, List.drop_zero, Nat.sub_zero, List.take_length]
theorem sl_any : SlR X (rVs X.K fnA) := by
  intro pins s σ H x v vl vu lo hi sl Q I rx hs pl pu ⟨F, a, fo, ha, A⟩
  obtain ⟨c, ec, q⟩ := id A
  unfold sliceop at ec
  split at ec
  · cases ha with
    | tup sa ra =>
      refine sl_tupA pins s σ H _ v vl vu lo hi sl Q I rx hs pl pu ⟨_, _, rfl, sa.sq, fun hw => ?_, fun _ => A.tup rfl fo (ra.cut lo hi)⟩
      refine A.same ?_ fo (.tup sa ra) (by simp)
      rw [← ra.len] at hw
      simp only [sliceop, cut_whole _ hw]
  · cases ha with
    | lst sa ra => exact sl_list pins s σ H _ v vl vu lo hi sl Q I rx hs pl pu ⟨_, _, rfl, sa.sq, A.lst rfl fo (ra.cut lo hi)⟩
  · cases ec

/-- l.index(x) -/
def rVi (K : PySem.W.Frag) (fnA : Nat → Option Addr) : V → List V → Hp → VK → Prop := fun x xs H Q => ∃ F ys y b, (∀ a, F a → ∃ o, H a = some o) ∧ FR K fnA F H (.lst ys) x ∧ xs = [y] ∧ FR K fnA F H b y ∧ Ans K fnA F H (indexop ys b) Q
theorem mt_idx (hu : X.A.units + 65 < cLine) : MtR X "list.index" (rVi X.K fnA) := by
  intro pins s σ H x xs v us Q I rx rs ⟨F, ys, y, b, fo, hx, exs, hb, A⟩
  subst exs
  obtain ⟨c, ec, q⟩ := id A
  unfold indexop at ec
  split at ec
  · rename_i hk
    rw [Bool.and_eq_true] at hk
    simp only [Option.map_eq_some_iff] at ec
    obtain ⟨j, ej, rfl⟩ := ec
    cases hx with
    | lst sa ra =>
      have hj := List.findIdx?_eq_some_iff_getElem.mp ej
      obtain ⟨hl, h1, h2⟩ := hj
      have hD : ∀ m : Nat, (toDs ys)[m]? = (ys[m]?).map toD := fun m => by rw [toDs_map, List.getElem?_map]
      refine mt_indexD hu pins s σ H _ _ v us Q I rx rs ⟨_, y, toD b, toDs ys, j, toD ys[j], rfl, rfl, (FR.lst sa ra).dpo hk.2, hb.dpo hk.1, hk.2, hk.1, ?_, h1, fun m z hm e => ?_, ?_⟩
      · rw [hD, List.getElem?_eq_getElem hl]; rfl
      · rw [hD, List.getElem?_eq_getElem (by omega : m < ys.length)] at e
        cases e
        have := h2 m hm
        simpa [eqV] using this
      · exact A.int (by simp only [indexop, hk.1, hk.2, Bool.and_self, if_true, ej]; rfl) fo
  · cases ec

/-! ### isinstance -/
def tyN : Ty → String
  | .int => "int" | .bool => "bool" | .str => "str" | .lst => "list" | .tup => "tuple"
def tyOf : Val → Option String
  | .non => some "NoneType" | .bl _ => some "bool" | .int _ => some "int" | .str _ => some "str" | .tup _ => some "tuple" | .lst _ => some "list" | .fn _ => none
theorem FR.ty {K : PySem.W.Frag} {F : Addr → Prop} {H : Hp} {v : Val} {x : V} (h : FR K fnA F H v x) {T : String} (e : tyOf v = some T) : TyX K H x (.type T) := by
  cases h with
  | non => cases e; exact .base .non
  | bl b => cases e; exact .base (.bl b)
  | int i => cases e; exact .base (.int i)
  | str y => cases e; exact .base (.str y)
  | fn _ => cases e
  | lst s r =>
    cases e
    rcases s with ⟨_, h | ⟨o, h⟩⟩ | ⟨its, n, h, _⟩
    · exact .base (.lst h)
    · exact .base (.frz h)
    · exact .kList h rfl
  | tup s r =>
    cases e
    rcases s with ⟨_, h | ⟨o, h⟩⟩ | h
    · exact .base (.tup h)
    · exact .fTuple h
    · rcases h with h | ⟨o, its, n, h, hc, _⟩
      · rcases h with h | ⟨_, h⟩ <;> cases h
      · exact .kTuple h hc
theorem kitTy : ∀ (a : String) (t : Ty), a ∈ ["NoneType", "bool", "int", "str", "tuple", "list"] → kitB a (tyN t) = some (match a, t with
    | "int", .int | "bool", .int | "bool", .bool | "str", .str | "list", .lst | "tuple", .tup => true | _, _ => false) := by
  intro a t h
  simp only [List.mem_cons, List.not_mem_nil, or_false] at h
  rcases h with rfl | rfl | rfl | rfl | rfl | rfl <;> cases t <;> decide +kernel
theorem tyOf_mem {v : Val} {T : String} (e : tyOf v = some T) : T ∈ ["NoneType", "bool", "int", "str", "tuple", "list"] := by
  cases v <;> cases e <;> decide
theorem isTy_kit {K : PySem.W.Frag} {v : Val} {T : String} (e : tyOf v = some T) (t : Ty) : PySem.W.kitOne K (.type T) (.type (tyN t)) = some (isTy v t) := by
  apply kit_ty
  rw [kitTy T t (tyOf_mem e)]
  cases v <;> cases e <;> cases t <;> rfl
theorem isTys_kit {K : PySem.W.Frag} {v : Val} {T : String} (e : tyOf v = some T) : ∀ ts : List Ty, PySem.W.kitAny K (.type T) (ts.map fun t => Value.type (tyN t)) = some (ts.any (isTy v))
  | [] => rfl
  | t :: ts => by
    rw [List.map_cons, List.any_cons]
    refine kitAny_cons (isTy_kit e t) (fun h => by rw [h, Bool.false_or]; exact isTys_kit e ts) fun h => by rw [h, Bool.true_or]
end
end Rf

set_option Elab.async false
set_option linter.all false
set_option maxRecDepth 100000
set_option maxHeartbeats 4000000
/-! The reflective layer, part F: readings, promises, contexts. -/
namespace Rf
open PySem PySem.Spec PyProof.Rows L2

section
variable (K : PySem.W.Frag) (fnA exA : Nat → Option Addr)
/-- what a computation over slots asks: O the owned slots, R how its answer lies (from the heap ahead), W the wish about exceptions -/
def RdR {α β : Type} (O : List Nat) (W : WX) (R : Hp → (Addr → Prop) → Hp → α → β → Prop) (r : Rs α) (F : Addr → Prop) (H : Hp) (σ : L2.St) (ρ : Env) (Q : β → Hp → Prop) : Prop :=
  match r with
  | .ok v ρ' => ∀ F' H' u, Ext (Mu O σ ρ) F H F' H' → R H F' H' v u → St K fnA O F' H' σ ρ' → Sm O ρ ρ' → Q u H'
  | .exc x => ∀ F' H' C d, Ext (Mu O σ ρ) F H F' H' → exA x = some C → W (.ref C) d σ H'
  | .bad => False
def Rd {α β : Type} (O : List Nat) (W : WX) (R : Hp → (Addr → Prop) → Hp → α → β → Prop) (ev : Env → Rs α) : L2.St → Hp → (β → Hp → Prop) → Prop := fun σ H Q =>
  ∃ F ρ, St K fnA O F H σ ρ ∧ RdR K fnA exA O W R (ev ρ) F H σ ρ Q
end
/-- the answer may be spoken of from an earlier heap -/
def Back {α β : Type} (R : Hp → (Addr → Prop) → Hp → α → β → Prop) : Prop := ∀ H H1 F' H' v u, (∀ a o, H a = some o → ∃ o', H1 a = some o') → R H1 F' H' v u → R H F' H' v u
section
variable {K : PySem.W.Frag} {fnA exA : Nat → Option Addr} {O : List Nat} {W : WX} {F : Addr → Prop} {H : Hp} {σ : L2.St} {ρ : Env}
theorem RdR.bind {α β γ δ : Type} {R1 : Hp → (Addr → Prop) → Hp → α → β → Prop} {R2 : Hp → (Addr → Prop) → Hp → γ → δ → Prop} (hb : Back R2) {r : Rs α} {f : α → Env → Rs γ} {Q : δ → Hp → Prop} {Q' : β → Hp → Prop}
    (h : RdR K fnA exA O W R2 (r.bind f) F H σ ρ Q)
    (k : ∀ v ρ1 F1 H1 u, r = .ok v ρ1 → Ext (Mu O σ ρ) F H F1 H1 → R1 H F1 H1 v u → St K fnA O F1 H1 σ ρ1 → Sm O ρ ρ1 → RdR K fnA exA O W R2 (f v ρ1) F1 H1 σ ρ1 Q → Q' u H1) :
    RdR K fnA exA O W R1 r F H σ ρ Q' := by
  cases r with
  | bad => exact h
  | exc x => exact h
  | ok v ρ1 =>
    intro F1 H1 u x1 hr s1 m1
    refine k v ρ1 F1 H1 u rfl x1 hr s1 m1 ?_
    simp only [Rs.bind] at h
    revert h
    generalize f v ρ1 = r2
    intro h
    cases r2 with
    | bad => exact h
    | exc x => exact fun F2 H2 C d x2 e => h F2 H2 C d (x1.trans x2 fun a ha => .inl (m1.mu a ha)) e
    | ok v2 ρ2 => exact fun F2 H2 u2 x2 hr2 s2 m2 => h F2 H2 u2 (x1.trans x2 fun a ha => .inl (m1.mu a ha)) (hb H H1 F2 H2 v2 u2 x1.dm hr2) s2 (m1.trans m2)
/-- at an answer that is there -/
theorem RdR.here {α β : Type} {R : Hp → (Addr → Prop) → Hp → α → β → Prop} {v : α} {Q : β → Hp → Prop} (h : RdR K fnA exA O W R (.ok v ρ) F H σ ρ Q) (s : St K fnA O F H σ ρ) {u : β} (hr : R H F H v u) : Q u H :=
  h F H u .refl hr s .refl
theorem RdR.grown {α β : Type} {R : Hp → (Addr → Prop) → Hp → α → β → Prop} {v : α} {Q : β → Hp → Prop} (h : RdR K fnA exA O W R (.ok v ρ) F H σ ρ Q) (s : St K fnA O F H σ ρ) {F' : Addr → Prop} {H' : Hp} {u : β} (x : Ext M0 F H F' H') (fo : ∀ a, F' a → ∃ o, H' a = some o) (hr : R H F' H' v u) : Q u H' :=
  h F' H' u (x.wider fun _ => False.elim) hr (s.ext x fo) .refl
/-- the kinds of answers -/
abbrev RV (K : PySem.W.Frag) (fnA : Nat → Option Addr) : Hp → (Addr → Prop) → Hp → Val → V → Prop := fun _ F' H' v u => FR K fnA F' H' v u
abbrev RVs (K : PySem.W.Frag) (fnA : Nat → Option Addr) : Hp → (Addr → Prop) → Hp → List Val → List V → Prop := fun _ F' H' v u => FRs K fnA F' H' v u
abbrev REq {α : Type} : Hp → (Addr → Prop) → Hp → α → α → Prop := fun _ _ _ v u => v = u
/-- new, if fr -/
def RN (K : PySem.W.Frag) (fnA : Nat → Option Addr) (fr : Bool) : Hp → (Addr → Prop) → Hp → Val → V → Prop := fun H F' H' v u => if fr then Fre K fnA H F' H' v u else FR K fnA F' H' v u
theorem back_RV : Back (RV K fnA) := fun _ _ _ _ _ _ _ h => h
theorem back_RVs : Back (RVs K fnA) := fun _ _ _ _ _ _ _ h => h
theorem back_REq {α : Type} : Back (REq (α := α)) := fun _ _ _ _ _ _ _ h => h
theorem back_RN {fr : Bool} : Back (RN K fnA fr) := fun H H1 F' H' v u hd h => by
  unfold RN at *
  split
  · rename_i e
    rw [if_pos e] at h
    refine ⟨h.1, fun a vs e1 e2 => ?_⟩
    have z := h.2 a vs e1 e2
    cases e3 : H a with
    | none => rfl
    | some o =>
      obtain ⟨o', e4⟩ := hd a o e3
      rw [z] at e4; cases e4
  · rename_i e
    rw [if_neg e] at h
    exact h
/-- a new value may be frozen -/
theorem Fre.freeze {F' : Addr → Prop} {H' : Hp} {v : Val} {u : V} {Mu : Addr → Prop} (h : Fre K fnA H F' H' v u) (x : Ext Mu F H F' H') (fo : ∀ a, F' a → ∃ o, H' a = some o) :
    ∃ F2, Ext Mu F H F2 H' ∧ (∀ a, F' a → F2 a) ∧ (∀ a, F2 a → F' a ∨ (H a = none ∧ ∃ us, H' a = some (.lst us))) ∧ (∀ a, F2 a → ∃ o, H' a = some o) ∧ FR K fnA F2 H' v u := by
  rcases h with ⟨⟨vs, us, a, rfl, rfl, hn, e, r⟩ | ⟨hn, h⟩, hx⟩
  · have ha := hx a vs rfl rfl
    refine ⟨fun b => F' b ∨ b = a, ⟨fun b f => .inl (x.fs b f), fun b f => ?_, x.kp, x.dm⟩, fun b => .inl, fun b f => ?_, fun b f => ?_, ?_⟩
    · rcases f with f | rfl
      · exact x.nw b f
      · exact .inr ha
    · rcases f with f | rfl
      · exact .inl f
      · exact .inr ⟨ha, us, e⟩
    · rcases f with f | rfl
      · exact fo b f
      · exact ⟨_, e⟩
    · exact .lst (.inl ⟨.inr rfl, .inl e⟩) (r.mono (fun _ => .inl) fun _ _ _ e => e)
  · exact ⟨F', x, fun _ => id, fun b => .inl, fo, h⟩
/-- more is frozen: what is new and not owned -/
theorem St.freeze {F2 : Addr → Prop} {H0 : Hp} (s : St K fnA O F H σ ρ) (h1 : ∀ a, F a → F2 a) (h2 : ∀ a, F2 a → F a ∨ H0 a = none) (h3 : ∀ a, F2 a → ∃ o, H a = some o) (hm : ∀ a, Mu O σ ρ a → H0 a ≠ none) : St K fnA O F2 H σ ρ where
  fok := h3
  len := s.len
  fz := fun i v e hi => let ⟨u, e1, r⟩ := s.fz i v e hi; ⟨u, e1, r.mono h1 fun _ _ _ e => e⟩
  ow := fun i v e hi => by
    obtain ⟨u, e1, o⟩ := s.ow i v e hi
    refine ⟨u, e1, ?_⟩
    rcases o with ⟨vs, us, a, rfl, rfl, hn, ea, r⟩ | ⟨hn, h⟩
    · refine .inl ⟨vs, us, a, rfl, rfl, fun f => ?_, ea, r.mono h1 fun _ _ _ e => e⟩
      rcases h2 a f with f | f
      · exact hn f
      · exact hm a ⟨i, vs, hi, e, e1⟩ f
    · exact .inr ⟨hn, h.mono h1 fun _ _ _ e => e⟩
  dj := s.dj
/-- from the wish of a plain answer to that of a new one -/
theorem Rd.weaken {ev : Env → Rs Val} {fr : Bool} {H : Hp} {Q : VK} (h : Rd K fnA exA O W (RV K fnA) ev σ H Q) : Rd K fnA exA O W (RN K fnA fr) ev σ H Q := by
  obtain ⟨F, ρ, s, h⟩ := h
  refine ⟨F, ρ, s, ?_⟩
  revert h
  generalize ev ρ = r
  intro h
  cases r with
  | bad => exact h
  | exc x => exact h
  | ok v ρ' =>
    intro F' H' u x hr s' m
    unfold RN at hr
    split at hr
    · obtain ⟨F2, x2, h1, h2, fo, f⟩ := hr.freeze x s'.fok
      refine h F2 H' u x2 f ?_ m
      refine s'.freeze (H0 := H) h1 (fun a f => ?_) fo fun a ha e => ?_
      · rcases h2 a f with f | ⟨f, _⟩
        · exact .inl f
        · exact .inr f
      · obtain ⟨us, e2⟩ := s.muSome a (m.mu a ha)
        rw [e] at e2; cases e2
    · exact h F' H' u x hr s' m
end

/-! ### promises -/
section
variable (K : PySem.W.Frag) (fnA exA : Nat → Option Addr)
/-- arguments: the first may be lent -/
def Args (lent : Bool) (F : Addr → Prop) (H : Hp) (as : List Val) (vs : List V) : Prop := match lent with
  | true => ∃ a r u s, as = a :: r ∧ vs = u :: s ∧ Own K fnA F H a u ∧ FRs K fnA F H r s
  | false => FRs K fnA F H as vs
/-- the lent list -/
def MuA (lent : Bool) (as : List Val) (vs : List V) : Addr → Prop := fun a => lent = true ∧ ∃ xs r s, as = .lst xs :: r ∧ vs = .ref a :: s
/-- what the lent one is behind the call -/
def OutR (lent : Bool) (F' : Addr → Prop) (H' : Hp) (as : List Val) (vs : List V) (o : Val) : Prop := lent = true → ∀ a r u s, as = a :: r → vs = u :: s → Own K fnA F' H' o u ∧ ((∃ xs, a = .lst xs) ↔ ∃ xs, o = .lst xs)
def spF (fd : Fd) (run : List Val → Cr) : Sp := fun vs H Q E => ∃ F as, (∀ a, F a → ∃ o, H a = some o) ∧ as.length = fd.P.length ∧ vs.length = fd.P.length ∧ Args K fnA fd.lent F H as vs ∧
  match run as with
  | .ok v o => ∀ F' H' u, Ext (MuA fd.lent as vs) F H F' H' → (∀ a, F' a → ∃ o, H' a = some o) → RN K fnA fd.fresh H F' H' v u → OutR K fnA fd.lent F' H' as vs o → Q u H'
  | .exc x => ∀ F' H' C d, Ext (MuA fd.lent as vs) F H F' H' → exA x = some C → E (.ref C) d H'
  | .bad => False
end

/-- a def at its place, at level n -/
structure FnX (n : Nat) (fnA exA : Nat → Option Addr) (X : Cx) (f : Nat) (fd : Fd) (run : List Val → Cr) (fa : Addr) (dt : FuncData) : Prop where
  at_ : fnA f = some fa
  mg : X.mg fd.name = some (.ref fa)
  kp : PySem.W.keepIn X.K (.ref fa) = true
  ok : FnOk X.prog X.w X.K X.mg X.base (L2.CX X.prog X.w) n fa dt fd.P (spF X.K fnA exA fd run)
  bd : Binds X.K dt fd.P []
  kb : ∀ ks ∈ fd.kws, ∀ (s : Shared) (ws : List Value), ws.length = ks.length → BindsTo s dt ⟨[], (ks.filterMap (fd.P[·]?)).zip ws⟩ (fd.P.zip (permK ks ws))

/-- a context in which the text may run: callees at level n -/
structure XOk (p : Prog) (n : Nat) (fnA exA : Nat → Option Addr) (X : Cx) (W : WX) : Prop where
  calm : X.calm = true
  nd : X.N.Nodup
  room : Room n X.A
  tk : Takes X W
  po : PassesOwn (model X.prog X.w) X.A X.env X.xe
  fns : ∀ f fd, p.fns[f]? = some fd → ∃ fa dt, FnX n fnA exA X f fd (callN p n f) fa dt
  vals : ∀ x v, p.vals.lookup x = some v → ∃ u w, X.mg x = some u ∧ RelV w u ∧ (∀ F H, FR X.K fnA F H v w) ∧ ∀ vs, v ≠ .lst vs
  blt : ∀ x ∈ p.blts, X.mg x = none
  gcd : X.mg "gcd" = some (.builtin "math.gcd") ∨ p.gcd = false
theorem XOk.units {p : Prog} {n : Nat} {fnA exA : Nat → Option Addr} {X : Cx} {W : WX} (x : XOk p n fnA exA X W) : X.A.units + 65 < cLine := by
  have := x.room.un
  omega
end Rf

set_option Elab.async false
set_option linter.all false
set_option maxRecDepth 100000
set_option maxHeartbeats 4000000
/-! The reflective layer, part G: the looks: a text of the language against the row's expression; what is owned. -/
namespace Rf
open PySem PySem.Spec PyProof.Rows L2

structure Nm where
  N : List Str
  nms : List (Str × NameKind)
  fnn : Option (List (Str × NameKind))
def Nm.fn (nm : Nm) (x : Str) : Bool := match nm.fnn with
  | none => true
  | some l => l.lookup x == some .cell
structure XN (X : Cx) (nm : Nm) : Prop where
  hN : X.N = nm.N
  hs : X.env.scope.names = nm.nms
  hk : X.env.scope.kind = .function
  hf : X.fn = nm.fn

def dbg (x : Str) : Bool := x == ("__debug__" : Str)
def visB (l : List (Str × NameKind)) (x : Str) : Bool := match l.lookup x with
  | some .local | some .cell | some .free => true
  | _ => false
def glB (l : List (Str × NameKind)) (x : Str) : Bool := match l.lookup x with
  | some .globalImplicit => true
  | _ => false
def varB (nm : Nm) (i : Nat) (x : Str) : Bool := decide (nm.N[i]? = some x) && visB nm.nms x && !dbg x && !(x == ("__classdict__" : Str))
def matchC : C → Const → Bool
  | .non, .none => true
  | .bl a, .bool b => a == b
  | .int a, .int b => decide (a = b)
  | .str a, .str b => decide (a = b)
  | _, _ => false
def isBop : BOp → Operator → Bool
  | .add, .Add | .sub, .Sub | .mul, .Mult | .fdiv, .FloorDiv | .mod, .Mod | .pow, .Pow | .shl, .LShift | .shr, .RShift | .band, .BitAnd => true
  | _, _ => false
def isCop : COp → CmpOp → Bool
  | .eq, .Eq | .ne, .NotEq | .lt, .Lt | .le, .LtE | .gt, .Gt | .ge, .GtE | .is, .Is | .isn, .IsNot | .inn, .In | .nin, .NotIn => true
  | _, _ => false
theorem isBop_eq {o : BOp} {q : Operator} (h : isBop o q = true) : q = bopOf o := by cases o <;> cases q <;> first | rfl | cases h
theorem isCop_eq {o : COp} {q : CmpOp} (h : isCop o q = true) : q = copOf o := by cases o <;> cases q <;> first | rfl | cases h
def noStar : Expr → Bool
  | .Starred .. => false
  | _ => true
def notSet : Expr → Bool
  | .Set .. => false
  | _ => true
def notCall0 : Expr → Bool
  | .Call _ [] [] _ => false
  | _ => true
def notSlice : Expr → Bool
  | .Slice .. => false
  | _ => true
def biN : BI → Str
  | .len => "len" | .tup => "tuple" | .lst => "list" | .abs => "abs" | .int => "int" | .min => "min" | .max => "max" | .sum => "sum" | .all => "all" | .any => "any" | .gcd => "gcd"
def tyS : Ty → Str
  | .int => "int" | .bool => "bool" | .str => "str" | .lst => "list" | .tup => "tuple"
/-- a name of the built-ins -/
def blt (p : Prog) (nm : Nm) (x : Str) : Bool := glB nm.nms x && p.blts.contains x
def biB (p : Prog) (nm : Nm) (b : BI) (x : Str) : Bool := decide (x = biN b) && glB nm.nms x && (match b with
  | .gcd => p.gcd
  | _ => p.blts.contains x)
def tyB (p : Prog) (nm : Nm) (t : Ty) : Expr → Bool
  | .Name x _ => decide (x = tyS t) && blt p nm x
  | _ => false
def tysB (p : Prog) (nm : Nm) : List Ty → List Expr → Bool
  | [], [] => true
  | t :: ts, e :: es => tyB p nm t e && tysB p nm ts es
  | _, _ => false
def tysE (p : Prog) (nm : Nm) (ts : List Ty) : Expr → Bool
  | .Tuple es _ _ => tysB p nm ts es && decide (ts.length ≤ 100)
  | e => (match ts with
    | [t] => tyB p nm t e
    | _ => false)
/-- a plain def's name -/
def fnB (p : Prog) (nm : Nm) (f : Nat) (lent : Bool) (x : Str) : Bool := glB nm.nms x && !dbg x && (match p.fns[f]? with
  | some fd => decide (fd.name = x) && (fd.lent == lent)
  | none => false)
def kwB (p : Prog) (f : Nat) (ks : List Nat) (kws : List Keyword) : Bool := match p.fns[f]? with
  | some fd => fd.kws.contains ks && decide (ks.length = fd.P.length) && decide (kws.map (·.arg) = ks.map fun i => fd.P[i]?) && ks.all (fun i => decide (i < fd.P.length)) && decide ((ks.filterMap fun i => fd.P[i]?).length = ks.length)
  | none => false
def tgB (nm : Nm) (i : Nat) : Expr → Bool
  | .Name x _ => decide (nm.N[i]? = some x) && (match nm.nms.lookup x with
    | some .local => true
    | some .cell => nm.fn x
    | _ => false)
  | _ => false
def tgsB (nm : Nm) : List Nat → List Expr → Bool
  | [], [] => true
  | i :: is, e :: es => tgB nm i e && tgsB nm is es
  | _, _ => false
def chkT (nm : Nm) : Tg → Expr → Bool
  | .name i, e => tgB nm i e
  | .tup is, .Tuple es _ _ => tgsB nm is es
  | _, _ => false
/-- the names of a comprehension's block -/
def inNm (nm : Nm) (scope : Scope) : Nm := ⟨nm.N, scope.names.map fun (n, k) => if (k == .free && nm.nms.lookup n == some .cell) then (n, .cell) else (n, k), some scope.names⟩
/-- its own names with their slots -/
def ownP (nm : Nm) (own : List Nat) : List (Str × Nat) := own.filterMap fun i => (nm.N[i]?).map fun x => (x, i)
def blkB (nm : Nm) (scope : Scope) (own : List Nat) : Bool := blkC nm.N ⟨.function, nm.nms, false, false, []⟩ scope (ownP nm own) && decide ((ownP nm own).map (·.2) = own)

/-- the rest of an and, an or -/
def restB (q : BoolOp) (y : Expr) (r : List Expr) (pos : Pos) : Expr := match r with
  | [] => y
  | z :: r => .BoolOp q (y :: z :: r) pos
mutual
def chkE (p : Prog) (nm : Nm) : E → Expr → Bool
  | .var i, .Name x _ => varB nm i x
  | .con c, .Constant k _ _ => matchC c k
  | .glo x, .Name y _ => decide (x = y) && glB nm.nms y && !dbg y && (p.vals.lookup x).isSome
  | .tup es, .Tuple xs _ _ => chkEs p nm es xs
  | .lst es, .List xs _ => chkEs p nm es xs
  | .bin o a b, .BinOp x q y _ => isBop o q && chkE p nm a x && chkE p nm b y
  | .neg a, .UnaryOp .USub x _ => chkE p nm a x
  | .cmp o a b, .Compare x [q] [y] _ => isCop o q && chkE p nm a x && chkE p nm b y && notSet y
  | .chn o q a b d, .Compare x [o', q'] [y, z] _ => isCop o o' && isCop q q' && chkE p nm a x && chkE p nm b y && chkE p nm d z && notSet z
  | .and a b, .BoolOp .And (x :: y :: r) pos => chkE p nm a x && chkE p nm b (restB .And y r pos)
  | .or a b, .BoolOp .Or (x :: y :: r) pos => chkE p nm a x && chkE p nm b (restB .Or y r pos)
  | .not a, .UnaryOp .Not x _ => chkE p nm a x
  | .ite c a b, .IfExp x y z _ => chkE p nm c x && chkE p nm a y && chkE p nm b z
  | .call f es, .Call (.Name x _) xs [] _ => fnB p nm f false x && chkEs p nm es xs
  | .callk f ks es, .Call (.Name x _) [] kws _ => fnB p nm f false x && kwB p f ks kws && chkK p nm es kws
  | .calll f i es, .Call (.Name x _) (.Name y _ :: xs) [] _ => fnB p nm f true x && varB nm i y && chkEs p nm es xs
  | .bi b es, .Call (.Name x _) xs [] _ => biB p nm b x && !xs.isEmpty && chkEs p nm es xs
  | .isi a ts, .Call (.Name x _) [y, t] [] _ => decide (x = "isinstance") && blt p nm x && chkE p nm a y && noStar y && tysE p nm ts t
  | .itm a i, .Subscript x y _ => chkE p nm a x && chkE p nm i y && notSlice y
  | .itv v i, .Subscript (.Name x _) y _ => varB nm v x && chkE p nm i y && notSlice y
  | .lnv v, .Call (.Name x _) [.Name y _] [] _ => biB p nm .len x && varB nm v y
  | .slc a lo hi, .Subscript x (.Slice l h none _) _ => chkE p nm a x && chkO p nm lo l && chkO p nm hi h
  | .rev a, .Subscript x (.Slice none none (some (.UnaryOp .USub (.Constant (.int 1) _ _) _)) _) _ => chkE p nm a x
  | .idx a b, .Call (.Attribute x n ap) [y] [] ps => decide (n = "index") && chkE p nm a x && chkE p nm b y && noStar y && notCall0 x && (ap.endLine == ps.line)
  | .rngL it, .Call (.Name x _) [y] [] _ => decide (x = "list") && blt p nm x && chkR p nm it y
  | .rngT it, .Call (.Name x _) [y] [] _ => decide (x = "tuple") && blt p nm x && chkR p nm it y
  | .comp own elt tg it ifs, .ListComp x [⟨t, i, fs, 0⟩] scope _ => blkB nm scope own && chkIt p nm it t i && notSet i && chkT (inNm nm scope) tg t && chkEs p (inNm nm scope) ifs fs && chkE p (inNm nm scope) elt x
  | .comp2 own own1 elt tg it ifs tg1 it1 ifs1, .ListComp x [⟨t, i, fs, 0⟩, ⟨t1, i1, fs1, 0⟩] scope _ => blkB nm scope own && chkIt p nm it t i && notSet i && chkT (inNm nm scope) tg t && chkEs p (inNm nm scope) ifs fs && own1.all own.contains &&
      chkIt p (inNm nm scope) it1 t1 i1 && notSet i1 && chkT (inNm nm scope) tg1 t1 && chkEs p (inNm nm scope) ifs1 fs1 && chkE p (inNm nm scope) elt x
  | _, _ => false
def chkEs (p : Prog) (nm : Nm) : Es → List Expr → Bool
  | .nil, [] => true
  | .cons e es, x :: xs => chkE p nm e x && noStar x && chkEs p nm es xs
  | _, _ => false
def chkK (p : Prog) (nm : Nm) : Es → List Keyword → Bool
  | .nil, [] => true
  | .cons e es, ⟨_, x, _⟩ :: xs => chkE p nm e x && chkK p nm es xs
  | _, _ => false
def chkO (p : Prog) (nm : Nm) : Oe → Option Expr → Bool
  | .none, none => true
  | .some e, some x => chkE p nm e x
  | _, _ => false
def chkIt (p : Prog) (nm : Nm) : It → Expr → Expr → Bool
  | .seq e, _, x => chkE p nm e x
  | .r1 a, _, .Call (.Name x _) [y] [] _ => decide (x = "range") && blt p nm x && chkE p nm a y && noStar y
  | .r2 a b, _, .Call (.Name x _) [y, z] [] _ => decide (x = "range") && blt p nm x && chkE p nm a y && chkE p nm b z && noStar y && noStar z
  | .r3 a b c, _, .Call (.Name x _) [y, z, w] [] _ => decide (x = "range") && blt p nm x && chkE p nm a y && chkE p nm b z && chkE p nm c w && noStar y && noStar z && noStar w
  | .enu e, .Tuple _ _ _, .Call (.Name x _) [y] [] _ => decide (x = "enumerate") && blt p nm x && chkE p nm e y && noStar y
  | .zip a b, .Tuple _ _ _, .Call (.Name x _) [y, z] [] _ => decide (x = "zip") && blt p nm x && chkE p nm a y && chkE p nm b z && noStar y && noStar z
  | _, _, _ => false
def chkR (p : Prog) (nm : Nm) : It → Expr → Bool
  | .r1 a, .Call (.Name x _) [y] [] _ => decide (x = "range") && blt p nm x && chkE p nm a y && noStar y
  | .r2 a b, .Call (.Name x _) [y, z] [] _ => decide (x = "range") && blt p nm x && chkE p nm a y && chkE p nm b z && noStar y && noStar z
  | _, _ => false
end

/-! ### what is owned -/
def tgS : Tg → List Nat
  | .name i => [i]
  | .tup is => is
def disj (O own : List Nat) : Bool := own.all fun i => !O.contains i
mutual
/-- O: the slots whose lists this expression may lend; no other reading of them -/
def okE (O : List Nat) : E → Bool
  | .var i => !O.contains i
  | .con _ | .glo _ | .lnv _ => true
  | .tup es | .lst es | .call _ es | .callk _ _ es | .bi _ es => okEs O es
  | .bin _ a b | .cmp _ a b | .and a b | .or a b | .itm a b | .idx a b => okE O a && okE O b
  | .neg a | .not a | .isi a _ | .rev a | .itv _ a => okE O a
  | .chn _ _ a b d | .ite a b d => okE O a && okE O b && okE O d
  | .calll _ i es => O.contains i && okEs O es
  | .slc a lo hi => okE O a && okO O lo && okO O hi
  | .rngL it | .rngT it => okIt O it
  | .comp own elt tg it ifs => disj O own && okIt O it && okIf O ifs && okE O elt && (tgS tg).all own.contains
  | .comp2 own own1 elt tg it ifs tg1 it1 ifs1 => disj O own && okIt O it && okIf O ifs && okIt O it1 && okIf O ifs1 && okE O elt && (tgS tg).all own.contains && (tgS tg1).all own1.contains && own1.all own.contains && disj own1 (tgS tg)
def okEs (O : List Nat) : Es → Bool
  | .nil => true
  | .cons e es => okE O e && okEs O es
def okIf (O : List Nat) : Es → Bool
  | .nil => true
  | .cons e .nil => okE O e
  | _ => false
def okO (O : List Nat) : Oe → Bool
  | .none => true
  | .some e => okE O e
def okIt (O : List Nat) : It → Bool
  | .seq e | .r1 e | .enu e => okE O e
  | .r2 a b | .zip a b => okE O a && okE O b
  | .r3 a b d => okE O a && okE O b && okE O d
end
/-- the answer is new -/
def frE (p : Prog) : E → Bool
  | .lst _ | .comp .. | .comp2 .. | .rngL _ | .rev _ | .slc .. | .bi .lst _ => true
  | .bin .add _ _ | .bin .mul _ _ => true
  | .call f _ | .callk f _ _ | .calll f _ _ => (match p.fns[f]? with
    | some fd => fd.fresh
    | none => false)
  | .ite _ a b => frE p a && frE p b
  | .or a b => frE p a && frE p b
  | _ => false
end Rf

set_option Elab.async false
set_option linter.all false
set_option maxRecDepth 100000
set_option maxHeartbeats 4000000
/-! The reflective layer, part H: the expressions' rules, one a constructor. -/
namespace L2
theorem PE.weak {X : Cx} {e : PySem.Expr} {t t' : TE} (h : PE X e t) (w : ∀ σ H Q, t' σ H Q → t σ H Q) : PE X e t' := ⟨fun pins s σ H Q I q => h.run pins s σ H Q I (w σ H Q q)⟩
theorem PT.weak {X : Cx} {e : PySem.Expr} {t t' : TT} (h : PT X e t) (w : ∀ σ H Q, t' σ H Q → t σ H Q) : PT X e t' := ⟨fun pins s σ H Q I q => h.run pins s σ H Q I (w σ H Q q)⟩
theorem PW.weak {X : Cx} {e : PySem.Expr} {t t' : TT} (h : PW X e t) (w : ∀ σ H Q, t' σ H Q → t σ H Q) : PW X e t' := ⟨fun wh pins s σ H Q I q => h.run wh pins s σ H Q I (w σ H Q q)⟩
theorem PA.weak {X : Cx} {es : List PySem.Expr} {t t' : TA} (h : PA X es t) (w : ∀ σ H Q, t' σ H Q → t σ H Q) : PA X es t' := ⟨fun p pins s σ H Q I q => h.run p pins s σ H Q I (w σ H Q q)⟩
theorem PK.weak {X : Cx} {es : List PySem.Keyword} {t t' : TA} (h : PK X es t) (w : ∀ σ H Q, t' σ H Q → t σ H Q) : PK X es t' := ⟨fun p pins s σ H Q I q => h.run p pins s σ H Q I (w σ H Q q)⟩
theorem PI.weak {X : Cx} {tg e : PySem.Expr} {t t' : TI} (h : PI X tg e t) (w : ∀ σ H Q, t' σ H Q → t σ H Q) : PI X tg e t' := ⟨fun pins s σ H Q I q => h.run pins s σ H Q I (w σ H Q q)⟩
theorem PO.weak {X : Cx} {e : Option PySem.Expr} {t t' : TO} (h : PO X e t) (w : ∀ σ H Q, t' σ H Q → t σ H Q) : PO X e t' := by
  obtain ⟨h⟩ := h
  exact ⟨fun pins s σ H Q I q => h pins s σ H Q I (w σ H Q q)⟩
theorem PS.weak {X : Cx} {e : PySem.Stmt} {t t' : TS} (h : PS X e t) (w : ∀ D σ H, t' D σ H → t D σ H) : PS X e t' := ⟨fun pins s σ H D I q => h.run pins s σ H D I (w D σ H q)⟩
theorem PSs.weak {X : Cx} {e : List PySem.Stmt} {t t' : TS} (h : PSs X e t) (w : ∀ D σ H, t' D σ H → t D σ H) : PSs X e t' := ⟨fun pins s σ H D I q => h.run pins s σ H D I (w D σ H q)⟩
end L2
namespace Rf
open PySem PySem.Spec PyProof.Rows L2

section
variable {K : PySem.W.Frag} {fnA exA : Nat → Option Addr} {O : List Nat} {W : WX} {F : Addr → Prop} {H : Hp} {σ : L2.St} {ρ : Env}
theorem RdR.shift {α β : Type} {R : Hp → (Addr → Prop) → Hp → α → β → Prop} (hb : Back R) {r : Rs α} {Q : β → Hp → Prop} (h : RdR K fnA exA O W R r F H σ ρ Q) {F' : Addr → Prop} {H' : Hp} (x : Ext M0 F H F' H') : RdR K fnA exA O W R r F' H' σ ρ Q := by
  cases r with
  | bad => exact h
  | exc ex => exact fun F4 H4 C d x4 e => h F4 H4 C d ((x.wider fun _ => False.elim).trans x4 fun a => .inl) e
  | ok v4 ρ4 => exact fun F4 H4 u4 x4 r4 s4 m4 => h F4 H4 u4 ((x.wider fun _ => False.elim).trans x4 fun a => .inl) (hb _ _ _ _ _ _ x.dm r4) s4 m4
/-- an operator's answer -/
theorem RdR.ans {fr : Bool} {o : Option Val} {Q : VK} (h : RdR K fnA exA O W (RN K fnA fr) (.ofO o ρ) F H σ ρ Q) (s : St K fnA O F H σ ρ) : Ans K fnA F H o Q := by
  cases o with
  | none => exact h.elim
  | some v =>
    refine ⟨v, rfl, fun F' H' u x fo r => ?_⟩
    cases fr with
    | true => exact h.grown s x fo (by unfold RN; exact r)
    | false =>
      obtain ⟨F2, x2, _, _, fo2, f⟩ := r.freeze x fo
      exact h.grown s x2 fo2 (by unfold RN; exact f)
theorem RdR.ans' {o : Option Val} {Q : VK} (h : RdR K fnA exA O W (RN K fnA false) (.ofO o ρ) F H σ ρ Q) (s : St K fnA O F H σ ρ) : Ans' K fnA F H o Q := by
  cases o with
  | none => exact h.elim
  | some v => exact ⟨v, rfl, fun F' H' u x fo r => h.grown s x fo (by unfold RN; exact r)⟩
theorem RdR.atom {fr : Bool} {v : Val} {Q : VK} {u : V} (h : RdR K fnA exA O W (RN K fnA fr) (.ok v ρ) F H σ ρ Q) (s : St K fnA O F H σ ρ) (r : FR K fnA F H v u) (hn : ∀ vs, v ≠ .lst vs) : Q u H := by
  refine h.here s ?_
  unfold RN
  split
  · exact .fr r hn
  · exact r
end

section
variable {p : Prog} {n : Nat} {fnA exA : Nat → Option Addr} {X : Cx} {W : WX} {nm : Nm} {O : List Nat} {c : Cfg}
abbrev PEv (fnA exA : Nat → Option Addr) (X : Cx) (W : WX) (O : List Nat) (c : Cfg) (m : E) (e : Expr) : Prop := PE X e (Rd X.K fnA exA O W (RV X.K fnA) (evE c m))
abbrev PEn (fnA exA : Nat → Option Addr) (X : Cx) (W : WX) (O : List Nat) (c : Cfg) (fr : Bool) (m : E) (e : Expr) : Prop := PE X e (Rd X.K fnA exA O W (RN X.K fnA fr) (evE c m))
abbrev PAv (fnA exA : Nat → Option Addr) (X : Cx) (W : WX) (O : List Nat) (c : Cfg) (m : Es) (e : List Expr) : Prop := PA X e (Rd X.K fnA exA O W (RVs X.K fnA) (evEs c m))
theorem PEn.v {fr : Bool} {m : E} {e : Expr} (h : PEn fnA exA X W O c fr m e) : PEv fnA exA X W O c m e := h.weak fun _ _ _ q => q.weaken

theorem visB_ok {l : List (Str × NameKind)} {x : Str} (h : visB l x = true) {sc : Scope} (e : sc.names = l) : Vis sc x := by
  unfold visB at h
  unfold Vis
  rw [e]
  split at h <;> first | exact .inl (by assumption) | exact .inr (.inl (by assumption)) | exact .inr (.inr (by assumption)) | cases h
theorem glB_ok {x : Str} (xn : XN X nm) (h : glB nm.nms x = true) : Gl X x := by
  unfold glB at h
  unfold Gl
  show X.env.scope.names.lookup x = _
  rw [xn.hs]
  split at h
  · assumption
  · cases h
theorem nd_dbg {x : Str} (h : (!dbg x) = true) : (x == ("__debug__" : Str)) = false := by unfold dbg at h; simpa using h
theorem pe_varB {i : Nat} {x : Str} {pos : Pos} (xn : XN X nm) (h : varB nm i x = true) : PE X (.Name x pos) (tVar i) := by
  unfold varB at h
  simp only [Bool.and_eq_true, decide_eq_true_eq] at h
  obtain ⟨⟨⟨h1, h2⟩, h3⟩, h4⟩ := h
  exact pe_var (by rw [xn.hN]; exact h1) (visB_ok h2 xn.hs) (nd_dbg h3) (by simpa using h4)

theorem s_var {i : Nat} {x : Str} {pos : Pos} (xn : XN X nm) (h : varB nm i x = true) (ho : O.contains i = false) : PEn fnA exA X W O c false (.var i) (.Name x pos) := by
  refine (pe_varB xn h).weak fun σ H Q ⟨F, ρ, s, q⟩ => ?_
  have q : RdR X.K fnA exA O W (RN X.K fnA false) (.ofO (getV ρ i) ρ) F H σ ρ Q := q
  cases e : getV ρ i with
  | none => rw [e] at q; exact q.elim
  | some v =>
    rw [e] at q
    obtain ⟨u, e1, r⟩ := s.fz i v e (by simpa using ho)
    exact ⟨u, e1, q.here s (by unfold RN; exact r)⟩
theorem s_con {k : C} {z : Const} {j : Nat} {pos : Pos} (h : matchC k z = true) : PEn fnA exA X W O c false (.con k) (.Constant z j pos) := by
  cases k <;> cases z <;> first | cases h | skip
  · exact pe_non.weak fun σ H Q ⟨F, ρ, s, q⟩ => RdR.atom (fr := false) q s .non (by simp [C.val])
  · rename_i a b
    have e : a = b := by simpa [matchC] using h
    subst e
    exact pe_bl.weak fun σ H Q ⟨F, ρ, s, q⟩ => RdR.atom (fr := false) q s (.bl _) (by simp [C.val])
  · rename_i a b
    have e : a = b := by simpa [matchC] using h
    subst e
    exact pe_int.weak fun σ H Q ⟨F, ρ, s, q⟩ => RdR.atom (fr := false) q s (.int _) (by simp [C.val])
  · rename_i a b
    have e : a = b := by simpa [matchC] using h
    subst e
    exact pe_str.weak fun σ H Q ⟨F, ρ, s, q⟩ => RdR.atom (fr := false) q s (.str _) (by simp [C.val])
theorem s_glo {x y : Str} {pos : Pos} (xk : XOk p n fnA exA X W) (xn : XN X nm) (e : x = y) (h : glB nm.nms y = true) (hd : (!dbg y) = true) (hv : (p.vals.lookup x).isSome = true) (hc : ∀ z, c.val z = p.vals.lookup z) : PEn fnA exA X W O c false (.glo x) (.Name y pos) := by
  subst e
  obtain ⟨v, ev⟩ := Option.isSome_iff_exists.mp hv
  obtain ⟨u, w, hm, r, hf, hn⟩ := xk.vals x v ev
  refine (pe_glob (glB_ok xn h) hm r (nd_dbg hd)).weak fun σ H Q ⟨F, ρ, s, q⟩ => ?_
  have q : RdR X.K fnA exA O W (RN X.K fnA false) (.ofO (c.val x) ρ) F H σ ρ Q := q
  rw [hc, ev] at q
  exact q.atom s (hf F H) hn
theorem s_tup {es : Es} {xs : List Expr} {k : Nat} {pos : Pos} (h : PAv fnA exA X W O c es xs) : PEn fnA exA X W O c false (.tup es) (.Tuple xs k pos) := by
  refine (pe_tup h).weak fun σ H Q ⟨F, ρ, s, q⟩ => ?_
  refine ⟨F, ρ, s, RdR.bind back_RN q fun v ρ1 F1 H1 u e x1 r1 s1 m1 h1 => ?_⟩
  split at h1
  · rename_i hl
    refine ⟨by rw [← r1.len]; exact hl, fun p hp => ?_⟩
    refine h1.grown s1 (.new hp) (fok_new s1.fok hp) (by unfold RN; exact .tup (.inl ⟨.inr rfl, .inl upd_same⟩) (r1.ext (.new hp) fun _ _ => id))
  · exact h1.elim
theorem s_lst {es : Es} {xs : List Expr} {pos : Pos} (h : PAv fnA exA X W O c es xs) : PEn fnA exA X W O c true (.lst es) (.List xs pos) := by
  refine (pe_lst h).weak fun σ H Q ⟨F, ρ, s, q⟩ => ?_
  refine ⟨F, ρ, s, RdR.bind back_RN q fun v ρ1 F1 H1 u e x1 r1 s1 m1 h1 => ?_⟩
  split at h1
  · rename_i hl
    refine ⟨by rw [← r1.len]; exact hl, fun p hp => ?_⟩
    exact Ans.lst (o := some (.lst v)) (RdR.ans (fr := true) h1 s1) rfl s1.fok r1 p hp
  · exact h1.elim
theorem s_bin {o : BOp} {a b : E} {x y : Expr} {pos : Pos} {fr : Bool} (ha : PEv fnA exA X W O c a x) (hb : PEv fnA exA X W O c b y) : PEn fnA exA X W O c fr (.bin o a b) (.BinOp x (bopOf o) y pos) := by
  refine (pe_op (op_bin (fnA := fnA) o) ha hb).weak fun σ H Q ⟨F, ρ, s, q⟩ => ?_
  refine ⟨F, ρ, s, RdR.bind back_RN q fun v ρ1 F1 H1 u e x1 r1 s1 m1 h1 => ?_⟩
  refine ⟨F1, ρ1, s1, RdR.bind back_RN h1 fun v2 ρ2 F2 H2 u2 e2 x2 r2 s2 m2 h2 => ?_⟩
  exact ⟨F2, v, v2, s2.fok, r1.ext x2 s1.notMu, r2, h2.ans s2⟩
theorem s_neg {a : E} {x : Expr} {pos : Pos} (ha : PEv fnA exA X W O c a x) : PEn fnA exA X W O c false (.neg a) (.UnaryOp .USub x pos) := by
  refine (pe_un un_neg ha).weak fun σ H Q ⟨F, ρ, s, q⟩ => ?_
  refine ⟨F, ρ, s, RdR.bind back_RN q fun v ρ1 F1 H1 u e x1 r1 s1 m1 h1 => ?_⟩
  cases r1 with
  | int i => exact ⟨i, rfl, RdR.atom (v := .int (-i)) h1 s1 (.int _) (by simp)⟩
  | _ => exact h1.elim
theorem s_cmp {o : COp} {a b : E} {x y : Expr} {pos : Pos} (xk : XOk p n fnA exA X W) (ha : PEv fnA exA X W O c a x) (hb : PEv fnA exA X W O c b y) (hs : notSet y = true) : PEn fnA exA X W O c false (.cmp o a b) (.Compare x [copOf o] [y] pos) := by
  refine (pe_cmpR (op_cmp (fnA := fnA) o xk.units) ha hb (by cases y <;> first | rfl | cases hs)).weak fun σ H Q ⟨F, ρ, s, q⟩ => ?_
  refine ⟨F, ρ, s, RdR.bind back_RN q fun v ρ1 F1 H1 u e x1 r1 s1 m1 h1 => ?_⟩
  refine ⟨F1, ρ1, s1, RdR.bind back_RN h1 fun v2 ρ2 F2 H2 u2 e2 x2 r2 s2 m2 h2 => ?_⟩
  exact ⟨F2, v, v2, s2.fok, r1.ext x2 s1.notMu, r2, h2.ans s2⟩
/-- a truth of a comparison, known -/
theorem s_chn {o q : COp} {a b d : E} {x y z : Expr} {pos : Pos} (xk : XOk p n fnA exA X W) (ha : PEv fnA exA X W O c a x) (hb : PEv fnA exA X W O c b y) (hd : PEv fnA exA X W O c d z) (hs : notSet z = true) : PEn fnA exA X W O c false (.chn o q a b d) (.Compare x [copOf o, copOf q] [y, z] pos) := by
  refine (pe_chain (op_cmp (fnA := fnA) o xk.units) (op_cmp (fnA := fnA) q xk.units) ha hb hd (by cases z <;> first | rfl | cases hs)).weak fun σ H Q ⟨F, ρ, s, w⟩ => ?_
  refine ⟨F, ρ, s, RdR.bind back_RN w fun v ρ1 F1 H1 u e x1 r1 s1 m1 h1 => ?_⟩
  refine ⟨F1, ρ1, s1, RdR.bind back_RN h1 fun v2 ρ2 F2 H2 u2 e2 x2 r2 s2 m2 h2 => ?_⟩
  have r12 := r1.ext x2 s1.notMu
  cases e3 : cmpop o v v2 with
  | none => rw [e3] at h2; exact h2.elim
  | some k =>
    rw [e3] at h2
    refine ⟨F2, v, v2, s2.fok, r12, r2, .bl k, by show Option.map Val.bl (cmpop o v v2) = _; rw [e3]; rfl, fun F3 H3 w3 x3 fo3 f3 => ?_⟩
    have ew : w3 = .bl k := by
      rcases f3.1 with ⟨vs, _, _, e, _⟩ | ⟨_, f⟩
      · cases e
      · cases f; rfl
    subst ew
    refine ⟨k, rfl, ?_⟩
    have s3 := s2.ext x3 fo3
    have h3 := h2.shift back_RN x3
    cases k with
    | false => exact RdR.atom (v := .bl false) h3 s3 (.bl _) (by simp)
    | true =>
      rw [if_pos rfl]
      refine ⟨F3, ρ2, s3, RdR.bind back_RN h3 fun v4 ρ4 F4 H4 u4 e4 x4 r4 s4 m4 h4 => ?_⟩
      exact ⟨F4, v2, v4, s4.fok, (r2.ext x3 fun _ _ => id).ext x4 s3.notMu, r4, h4.ans s4⟩
/-! ### truth -/
theorem truV {K : PySem.W.Frag} {F : Addr → Prop} {v : Val} {u : V} {H : Hp} {k : Bool} (r : FR K fnA F H v u) (h : truthy v = some k) : TruV K u H k := by
  cases r with
  | non => cases h; rfl
  | bl b => cases h; rfl
  | int i => cases h; rfl
  | str x =>
    simp only [truthy] at h
    split at h
    · rename_i hl; cases h; exact ⟨hl, rfl⟩
    · cases h
  | tup s r => cases h; exact .inr (.inl ⟨_, s.sq, by rw [r.nilEq]⟩)
  | lst s r => cases h; exact .inl ⟨_, s.sq, by rw [r.nilEq]⟩
  | fn e => cases h
theorem s_and {a b : E} {x y : Expr} {r : List Expr} {pos : Pos} {fr : Bool} (ha : PEv fnA exA X W O c a x) (hb : PEn fnA exA X W O c fr b (restB .And y r pos)) (hf : fr = false) : PEn fnA exA X W O c fr (.and a b) (.BoolOp .And (x :: y :: r) pos) := by
  subst hf
  have hb' : PEn fnA exA X W O c false b (.BoolOp .And (y :: r) pos) := by
    cases r with
    | nil => exact pe_one hb
    | cons z r => exact hb
  refine (pe_andT ha hb').weak fun σ H Q ⟨F, ρ, s, w⟩ => ?_
  refine ⟨F, ρ, s, RdR.bind back_RN w fun v ρ1 F1 H1 u e x1 r1 s1 m1 h1 => ?_⟩
  cases et : truthy v with
  | none => rw [et] at h1; exact h1.elim
  | some k =>
    rw [et] at h1
    refine ⟨k, truV r1 et, ?_⟩
    cases k with
    | true => exact ⟨F1, ρ1, s1, h1⟩
    | false => exact h1.here s1 (by unfold RN; exact r1)
theorem s_or {a b : E} {x y : Expr} {r : List Expr} {pos : Pos} {fr : Bool} (ha : PEn fnA exA X W O c fr a x) (hb : PEn fnA exA X W O c fr b (restB .Or y r pos)) : PEn fnA exA X W O c fr (.or a b) (.BoolOp .Or (x :: y :: r) pos) := by
  have hb' : PEn fnA exA X W O c fr b (.BoolOp .Or (y :: r) pos) := by
    cases r with
    | nil => exact pe_one hb
    | cons z r => exact hb
  refine (pe_orT ha hb').weak fun σ H Q ⟨F, ρ, s, w⟩ => ?_
  refine ⟨F, ρ, s, RdR.bind back_RN w fun v ρ1 F1 H1 u e x1 r1 s1 m1 h1 => ?_⟩
  cases et : truthy v with
  | none => rw [et] at h1; exact h1.elim
  | some k =>
    rw [et] at h1
    have tv : TruV X.K u H1 k := by
      unfold RN at r1
      split at r1
      · rcases r1.1 with ⟨vs, us, a, rfl, rfl, _, e2, r⟩ | ⟨_, f⟩
        · cases et
          exact .inl ⟨us, .inl (.inl e2), by rw [r.nilEq]⟩
        · exact truV f et
      · exact truV r1 et
    refine ⟨k, tv, ?_⟩
    cases k with
    | false => exact ⟨F1, ρ1, s1, h1⟩
    | true =>
      rw [if_pos rfl]
      have w' : RdR X.K fnA exA O W (RN X.K fnA fr) (.ok v ρ1) F H σ ρ Q := by
        have z := w
        simp only [evE, e, Rs.bind, et] at z
        exact z
      exact w' F1 H1 u x1 r1 s1 m1
end
end Rf

set_option Elab.async false
set_option linter.all false
set_option maxRecDepth 100000
set_option maxHeartbeats 4000000
/-! The reflective layer, part I: tests, calls, built-ins. -/
namespace Rf
open PySem PySem.Spec PyProof.Rows L2
section
variable {p : Prog} {n : Nat} {fnA exA : Nat → Option Addr} {X : Cx} {W : WX} {nm : Nm} {O : List Nat} {c : Cfg}
theorem s_not {a : E} {x : Expr} {pos : Pos} (ha : PEv fnA exA X W O c a x) : PEn fnA exA X W O c false (.not a) (.UnaryOp .Not x pos) := by
  refine (pe_notT ha).weak fun σ H Q ⟨F, ρ, s, w⟩ => ?_
  refine ⟨F, ρ, s, RdR.bind back_RN w fun v ρ1 F1 H1 u e x1 r1 s1 m1 h1 => ?_⟩
  cases et : truthy v with
  | none => rw [et] at h1; exact h1.elim
  | some k =>
    rw [et] at h1
    exact ⟨k, truV r1 et, RdR.atom (v := .bl (!k)) h1 s1 (.bl _) (by simp)⟩
/-! ### tests -/
def evB (c : Cfg) (m : E) (ρ : Env) : Rs Bool := (evE c m ρ).bind fun v ρ => .ofO (truthy v) ρ
abbrev PTv (fnA exA : Nat → Option Addr) (X : Cx) (W : WX) (O : List Nat) (c : Cfg) (m : E) (e : Expr) : Prop := PT X e (Rd X.K fnA exA O W REq (evB c m))
theorem t_plain {m : E} {e : Expr} (ha : PEv fnA exA X W O c m e) (he : ∀ whole, PySem.isTrue e X.env whole = (do let v ← whole; standAt e.pos; holding [v] (PySem.truthy v))) : PTv fnA exA X W O c m e := by
  refine (pt_truth ha he).weak fun σ H Q ⟨F, ρ, s, w⟩ => ?_
  refine ⟨F, ρ, s, RdR.bind back_REq w fun v ρ1 F1 H1 u e x1 r1 s1 m1 h1 => ?_⟩
  cases et : truthy v with
  | none => rw [et] at h1; exact h1.elim
  | some k =>
    rw [et] at h1
    exact ⟨k, truV r1 et, h1.here s1 rfl⟩
theorem t_not {a : E} {x : Expr} {pos : Pos} (ha : PTv fnA exA X W O c a x) : PTv fnA exA X W O c (.not a) (.UnaryOp .Not x pos) := by
  refine (pt_not ha).weak fun σ H Q ⟨F, ρ, s, w⟩ => ?_
  have w2 : RdR X.K fnA exA O W REq ((evB c a ρ).bind fun k ρ => .ok (!k) ρ) F H σ ρ Q := by
    have z := w
    simp only [evB, evE] at z ⊢
    revert z
    cases evE c a ρ with
    | bad => exact id
    | exc x => exact id
    | ok v ρ1 =>
      simp only [Rs.bind]
      cases truthy v with
      | none => exact id
      | some k => exact id
  exact ⟨F, ρ, s, RdR.bind back_REq w2 fun v ρ1 F1 H1 u e x1 r1 s1 m1 h1 => h1.here s1 (by rw [r1])⟩
theorem t_of {α β : Type} {r : Rs Val} {ρ : Env} {K : PySem.W.Frag} {R : Hp → (Addr → Prop) → Hp → α → β → Prop} {f : Val → Env → Rs α} {F : Addr → Prop} {H : Hp} {σ : L2.St} {Q : β → Hp → Prop} {g : Bool → Env → Rs α} (w : RdR K fnA exA O W R (r.bind f) F H σ ρ Q)
    (h : ∀ v ρ, f v ρ = (match truthy v with | some k => g k ρ | none => .bad)) : RdR K fnA exA O W R ((r.bind fun v ρ => Rs.ofO (truthy v) ρ).bind g) F H σ ρ Q := by
  cases r with
  | bad => exact w
  | exc x => exact w
  | ok v ρ1 =>
    simp only [Rs.bind] at w ⊢
    rw [h] at w
    cases et : truthy v with
    | none => rw [et] at w; exact w
    | some k => rw [et] at w; exact w
theorem s_ite {t a b : E} {x y z : Expr} {pos : Pos} {fr : Bool} (ht : PTv fnA exA X W O c t x) (ha : PEn fnA exA X W O c fr a y) (hb : PEn fnA exA X W O c fr b z) : PEn fnA exA X W O c fr (.ite t a b) (.IfExp x y z pos) := by
  refine (pe_ifExp ht ha hb).weak fun σ H Q ⟨F, ρ, s, w⟩ => ?_
  have w2 : RdR X.K fnA exA O W (RN X.K fnA fr) ((evB c t ρ).bind fun k ρ => if k then evE c a ρ else evE c b ρ) F H σ ρ Q := by
    refine t_of (show RdR X.K fnA exA O W (RN X.K fnA fr) ((evE c t ρ).bind _) F H σ ρ Q from w) fun v ρ => ?_
    cases truthy v with
    | none => rfl
    | some k => cases k <;> rfl
  refine ⟨F, ρ, s, RdR.bind back_RN w2 fun v ρ1 F1 H1 u e x1 r1 s1 m1 h1 => ?_⟩
  subst r1
  cases v with
  | true => rw [if_pos rfl]; exact ⟨F1, ρ1, s1, h1⟩
  | false => rw [if_neg (by decide)]; exact ⟨F1, ρ1, s1, h1⟩
theorem isTrue_ite {t a b : Expr} {pos : Pos} {env : PySem.Env} {wh : Sem Value} : PySem.isTrue (.IfExp t a b pos) env wh = (do if ← PySem.isTrue t env (eval t env) then PySem.isTrue a env (eval a env) else PySem.isTrue b env (eval b env)) := by
  rw [PySem.isTrue]
theorem t_ite {t a b : E} {x y z : Expr} {pos : Pos} (ht : PTv fnA exA X W O c t x) (ha : PTv fnA exA X W O c a y) (hb : PTv fnA exA X W O c b z) : PTv fnA exA X W O c (.ite t a b) (.IfExp x y z pos) := by
  refine ⟨fun pins s σ H Q I ⟨F, ρ, st, w⟩ => ?_⟩
  have w2 : RdR X.K fnA exA O W REq ((evB c t ρ).bind fun k ρ => if k then evB c a ρ else evB c b ρ) F H σ ρ Q := by
    have z : RdR X.K fnA exA O W REq ((evE c t ρ).bind fun v ρ => (match truthy v with | some true => evE c a ρ | some false => evE c b ρ | none => .bad).bind fun v ρ => Rs.ofO (truthy v) ρ) F H σ ρ Q := by
      have z := w
      simp only [evB, evE] at z
      revert z
      cases evE c t ρ with
      | bad => exact id
      | exc x => exact id
      | ok v ρ1 => exact id
    refine t_of z fun v ρ => ?_
    cases truthy v with
    | none => rfl
    | some k => cases k <;> rfl
  rw [isTrue_ite]
  refine wpAny_bind (thn (ht.run pins s σ H _ I ⟨F, ρ, st, RdR.bind back_REq (R1 := REq) (Q' := fun k H1 => if k = true then Rd X.K fnA exA O W REq (evB c a) σ H1 Q else Rd X.K fnA exA O W REq (evB c b) σ H1 Q) w2 fun v ρ1 F1 H1 u e x1 r1 s1 m1 h1 => ?_⟩) fun k s1 ⟨H1, I1, q1⟩ => ?_)
  · subst r1
    cases v with
    | true => rw [if_pos rfl]; exact ⟨F1, ρ1, s1, h1⟩
    | false => rw [if_neg (by decide)]; exact ⟨F1, ρ1, s1, h1⟩
  · cases k with
    | true => rw [if_pos rfl] at q1 ⊢; exact ha.run pins s1 σ H1 Q I1 q1
    | false => rw [if_neg (by decide)] at q1 ⊢; exact hb.run pins s1 σ H1 Q I1 q1
theorem pw_of {q : BoolOp} {es : List Expr} {pos : Pos} {t : TT} (h : PT X (.BoolOp q es pos) t) : PW X (.BoolOp q es pos) t := ⟨fun wh pins s σ H Q I w => by
  have z := h.run pins s σ H Q I w
  rw [PySem.isTrue] at z ⊢
  exact z⟩
theorem t_and {a b : E} {x y : Expr} {r : List Expr} {pos : Pos} (ha : PTv fnA exA X W O c a x) (hb : PTv fnA exA X W O c b (restB .And y r pos)) : PTv fnA exA X W O c (.and a b) (.BoolOp .And (x :: y :: r) pos) := by
  have hb' : PW X (.BoolOp .And (y :: r) pos) (Rd X.K fnA exA O W REq (evB c b)) := by
    cases r with
    | nil => exact pw_and1 hb
    | cons z r => exact pw_of hb
  refine (pw_and ha hb').pt.weak fun σ H Q ⟨F, ρ, s, w⟩ => ?_
  have w2 : RdR X.K fnA exA O W REq ((evB c a ρ).bind fun k ρ => if k then evB c b ρ else .ok false ρ) F H σ ρ Q := by
    have z : RdR X.K fnA exA O W REq ((evE c a ρ).bind fun v ρ => (match truthy v with | some true => evE c b ρ | some false => Rs.ok v ρ | none => Rs.bad).bind fun v ρ => Rs.ofO (truthy v) ρ) F H σ ρ Q := by
      have z := w
      simp only [evB, evE] at z
      revert z
      cases evE c a ρ with
      | bad => exact id
      | exc x => exact id
      | ok v ρ1 => exact id
    refine t_of z fun v ρ => ?_
    cases et : truthy v with
    | none => rfl
    | some k =>
      cases k
      · simp only [Rs.bind, et]; rfl
      · rfl
  refine ⟨F, ρ, s, RdR.bind back_REq w2 fun v ρ1 F1 H1 u e x1 r1 s1 m1 h1 => ?_⟩
  subst r1
  cases v with
  | true => rw [if_pos rfl]; exact ⟨F1, ρ1, s1, h1⟩
  | false => rw [if_neg (by decide)]; exact h1.here s1 rfl
theorem t_or {a b : E} {x y : Expr} {r : List Expr} {pos : Pos} (ha : PTv fnA exA X W O c a x) (hb : PTv fnA exA X W O c b (restB .Or y r pos)) : PTv fnA exA X W O c (.or a b) (.BoolOp .Or (x :: y :: r) pos) := by
  have hb' : PW X (.BoolOp .Or (y :: r) pos) (Rd X.K fnA exA O W REq (evB c b)) := by
    cases r with
    | nil => exact pw_or1 hb
    | cons z r => exact pw_of hb
  refine (pw_or ha hb').pt.weak fun σ H Q ⟨F, ρ, s, w⟩ => ?_
  have w2 : RdR X.K fnA exA O W REq ((evB c a ρ).bind fun k ρ => if k then .ok true ρ else evB c b ρ) F H σ ρ Q := by
    have z : RdR X.K fnA exA O W REq ((evE c a ρ).bind fun v ρ => (match truthy v with | some true => Rs.ok v ρ | some false => evE c b ρ | none => Rs.bad).bind fun v ρ => Rs.ofO (truthy v) ρ) F H σ ρ Q := by
      have z := w
      simp only [evB, evE] at z
      revert z
      cases evE c a ρ with
      | bad => exact id
      | exc x => exact id
      | ok v ρ1 => exact id
    refine t_of z fun v ρ => ?_
    cases et : truthy v with
    | none => rfl
    | some k =>
      cases k
      · rfl
      · simp only [Rs.bind, et]; rfl
  refine ⟨F, ρ, s, RdR.bind back_REq w2 fun v ρ1 F1 H1 u e x1 r1 s1 m1 h1 => ?_⟩
  subst r1
  cases v with
  | false => rw [if_neg (by decide)]; exact ⟨F1, ρ1, s1, h1⟩
  | true => rw [if_pos rfl]; exact h1.here s1 rfl
theorem bl_of {F : Addr → Prop} {H : Hp} {K : PySem.W.Frag} {k : Bool} {u : V} {fr : Bool} (h : RN K fnA fr H F H (.bl k) u) : u = .bl k := by
  unfold RN at h
  split at h
  · rcases h.1 with ⟨_, _, _, e, _⟩ | ⟨_, f⟩
    · cases e
    · cases f; rfl
  · cases h; rfl
/-- a comparison as a test -/
theorem t_cmp {o : COp} {a b : E} {x y : Expr} {pos : Pos} (xk : XOk p n fnA exA X W) (ha : PEv fnA exA X W O c a x) (hb : PEv fnA exA X W O c b y) (hs : notSet y = true) : PTv fnA exA X W O c (.cmp o a b) (.Compare x [copOf o] [y] pos) := by
  refine (pt_cmpR (op_cmp (fnA := fnA) o xk.units) ha hb (by cases y <;> first | rfl | cases hs)).weak fun σ H Q ⟨F, ρ, s, w⟩ => ?_
  have w2 : RdR X.K fnA exA O W REq ((evE c a ρ).bind fun v ρ => (evE c b ρ).bind fun v2 ρ => .ofO (cmpop o v v2) ρ) F H σ ρ Q := by
    have z := w
    simp only [evB, evE] at z
    revert z
    cases evE c a ρ with
    | bad => exact id
    | exc x => exact id
    | ok v ρ1 =>
      simp only [Rs.bind]
      cases evE c b ρ1 with
      | bad => exact id
      | exc x => exact id
      | ok v2 ρ2 =>
        simp only [Rs.bind]
        cases cmpop o v v2 with
        | none => exact id
        | some k => exact id
  refine ⟨F, ρ, s, RdR.bind back_REq w2 fun v ρ1 F1 H1 u e x1 r1 s1 m1 h1 => ?_⟩
  refine ⟨F1, ρ1, s1, RdR.bind back_REq h1 fun v2 ρ2 F2 H2 u2 e2 x2 r2 s2 m2 h2 => ?_⟩
  cases e3 : cmpop o v v2 with
  | none => rw [e3] at h2; exact h2.elim
  | some k =>
    rw [e3] at h2
    refine ⟨F2, v, v2, s2.fok, r1.ext x2 s1.notMu, r2, .bl k, by show Option.map Val.bl (cmpop o v v2) = _; rw [e3]; rfl, fun F3 H3 w3 x3 fo3 f3 => ?_⟩
    refine ⟨k, ?_, h2.grown s2 x3 fo3 rfl⟩
    rcases f3.1 with ⟨vs, _, _, e, _⟩ | ⟨_, f⟩
    · cases e
    · cases f; rfl
theorem t_chn {o q : COp} {a b d : E} {x y z : Expr} {pos : Pos} (xk : XOk p n fnA exA X W) (ha : PEv fnA exA X W O c a x) (hb : PEv fnA exA X W O c b y) (hd : PEv fnA exA X W O c d z) (hs : notSet z = true) : PTv fnA exA X W O c (.chn o q a b d) (.Compare x [copOf o, copOf q] [y, z] pos) := by
  refine (pt_chain (op_cmp (fnA := fnA) o xk.units) (op_cmp (fnA := fnA) q xk.units) ha hb hd (by cases z <;> first | rfl | cases hs)).weak fun σ H Q ⟨F, ρ, s, w⟩ => ?_
  have w2 : RdR X.K fnA exA O W REq ((evE c a ρ).bind fun v ρ => (evE c b ρ).bind fun v2 ρ => match cmpop o v v2 with
      | some true => (evE c d ρ).bind fun z ρ => Rs.ofO (cmpop q v2 z) ρ
      | some false => .ok false ρ
      | none => .bad) F H σ ρ Q := by
    have z := w
    simp only [evB, evE] at z
    revert z
    cases evE c a ρ with
    | bad => exact id
    | exc x => exact id
    | ok v ρ1 =>
      simp only [Rs.bind]
      cases evE c b ρ1 with
      | bad => exact id
      | exc x => exact id
      | ok v2 ρ2 =>
        simp only [Rs.bind]
        cases cmpop o v v2 with
        | none => exact id
        | some k =>
          cases k with
          | false => exact id
          | true =>
            simp only
            cases evE c d ρ2 with
            | bad => exact id
            | exc x => exact id
            | ok v3 ρ3 =>
              simp only [Rs.bind]
              cases cmpop q v2 v3 with
              | none => exact id
              | some k => exact id
  refine ⟨F, ρ, s, RdR.bind back_REq w2 fun v ρ1 F1 H1 u e x1 r1 s1 m1 h1 => ?_⟩
  refine ⟨F1, ρ1, s1, RdR.bind back_REq h1 fun v2 ρ2 F2 H2 u2 e2 x2 r2 s2 m2 h2 => ?_⟩
  have r12 := r1.ext x2 s1.notMu
  cases e3 : cmpop o v v2 with
  | none => rw [e3] at h2; exact h2.elim
  | some k =>
    rw [e3] at h2
    refine ⟨F2, v, v2, s2.fok, r12, r2, .bl k, by show Option.map Val.bl (cmpop o v v2) = _; rw [e3]; rfl, fun F3 H3 w3 x3 fo3 f3 => ?_⟩
    have ew : w3 = .bl k := by
      rcases f3.1 with ⟨vs, _, _, e, _⟩ | ⟨_, f⟩
      · cases e
      · cases f; rfl
    subst ew
    refine ⟨k, rfl, ?_⟩
    have s3 := s2.ext x3 fo3
    have h3 := h2.shift back_REq x3
    cases k with
    | false => exact ⟨false, rfl, h3.here s3 rfl⟩
    | true =>
      rw [if_pos rfl]
      refine ⟨F3, ρ2, s3, RdR.bind back_REq h3 fun v4 ρ4 F4 H4 u4 e4 x4 r4 s4 m4 h4 => ?_⟩
      cases e5 : cmpop q v2 v4 with
      | none => rw [e5] at h4; exact h4.elim
      | some k =>
        rw [e5] at h4
        refine ⟨F4, v2, v4, s4.fok, (r2.ext x3 fun _ _ => id).ext x4 s3.notMu, r4, .bl k, by show Option.map Val.bl (cmpop q v2 v4) = _; rw [e5]; rfl, fun F5 H5 w5 x5 fo5 f5 => ?_⟩
        refine ⟨k, ?_, h4.grown s4 x5 fo5 rfl⟩
        rcases f5.1 with ⟨vs, _, _, e, _⟩ | ⟨_, f⟩
        · cases e
        · cases f; rfl
end
end Rf

set_option Elab.async false
set_option linter.all false
set_option maxRecDepth 100000
set_option maxHeartbeats 4000000
/-! The reflective layer, part J: calls, built-ins, places, slices. -/
namespace L2
open PySem PySem.Spec PyProof.Rows
section
variable {X : Cx} {CX : CXT} {k : Nat} {f : Addr} {fd : FuncData} {ps : List Str} {sp : Sp} {E : L2.St → XK} {x : Str} {p pos : Pos}
theorem pe_callS0 (F : FnOk X.prog X.w X.K X.mg X.base CX k f fd ps sp) (hr : Room k X.A) (hg : Gl X x) (hm : X.mg x = some (.ref f)) (hk : PySem.W.keepIn X.K (.ref f) = true) (hb : Binds X.K fd ps []) (hx : ∀ σ, PassesAt CX X σ (E σ))
    (hdb : (x == ("__debug__" : Str)) = false := by decide) : PE X (.Call (.Name x p) [] [] pos) (tCallS sp E tNil) := by
  refine ⟨fun pins s σ H Q I h => ?_⟩
  refine wpAny_Call_Name_kw (ld_glob I hg hm ?_ hdb)
  exact PySem.W.callWith_K0 I.kIn hk (run_fnS (us := []) F hr hb (hx σ) I .nil h)
/-- f(k = v, ..), every parameter by its name -/
theorem pe_callKS {ks : List Str} {g : List Value → List Value} {gV : List V → List V} {kws : List Keyword} {tk : TA} (F : FnOk X.prog X.w X.K X.mg X.base CX k f fd ps sp) (hr : Room k X.A) (hg : Gl X x) (hm : X.mg x = some (.ref f)) (hk : PySem.W.keepIn X.K (.ref f) = true)
    (hb : ∀ (s : Shared) (ws : List Value), ws.length = ks.length → BindsTo s fd ⟨[], ks.zip ws⟩ (ps.zip (g ws))) (hv : ∀ {zs : List V} {ws : List Value}, Vals zs ws → zs.length = ks.length → Vals (gV zs) (g ws)) (hx : ∀ σ, PassesAt CX X σ (E σ))
    (hkw : PK X kws tk) (hall : (backToKw pos (keywordEach kws X.env)).all (·.1.isSome) = true) (hks : (backToKw pos (keywordEach kws X.env)).filterMap (·.1) = ks)
    (hn : (keywordEach kws X.env).length = ks.length) (htk : ∀ σ H Q, tk σ H Q → tk σ H fun zs H2 => zs.length = ks.length ∧ Q zs H2)
    (hpl : ((backTo pos (starEach [] X.env)).any (·.1) || (backToKw pos (keywordEach kws X.env)).any (·.1.isNone)) = false) (hdb : (x == ("__debug__" : Str)) = false := by decide) :
    PE X (.Call (.Name x p) [] kws pos) (fun σ H Q => tk σ H fun zs H1 => sp (gV zs) H1 Q (E σ)) := by
  refine ⟨fun pins s σ H Q I h => ?_⟩
  refine wpAny_Call_Name_kw (ld_glob I hg hm ?_ hdb)
  refine PySem.W.callWith_KW0 (h₀ := X.base) I.ok.mod.kin hk hall (thn (hkw.run pos pins s σ H _ I (htk _ _ _ h)) fun ws s2 ⟨zs, H2, I2, rz, hz, q2⟩ => ⟨I2.kIn, ?_⟩) hpl
  rw [hks]
  show wpAny _ _ (call (.ref f) [] (ks.zip ws)) _ _ _
  have r2 := hv rz hz
  have hw : ws.length = ks.length := by rw [← rz.length]; exact hz
  refine wpAny_call (codeAny_mono (F.run X.A X.stack s2 H2 ⟨[], ks.zip ws⟩ (g ws) (gV zs) Q (E σ) hr I2.env0 (hb s2 ws hw) r2 q2) fun r s' hq => ?_)
  cases r with
  | error e => exact hx σ pins H2 s2 e s' I2 hq
  | ok fl =>
    cases fl with
    | ret u => exact I2.after hq
    | next => exact False.elim hq
    | brk => exact False.elim hq
    | cont => exact False.elim hq
end
end L2
namespace Rf
open PySem PySem.Spec PyProof.Rows L2
section
variable {p : Prog} {n : Nat} {fnA exA : Nat → Option Addr} {X : Cx} {W : WX} {nm : Nm} {O : List Nat} {c : Cfg}
theorem noStar_ok {e : Expr} (h : noStar e = true) (es : List Expr) (env : PySem.Env) : starEach (e :: es) env = (false, eval e env) :: starEach es env := by
  cases e <;> first | rfl | cases h
theorem s_nil : PAv fnA exA X W O c .nil [] := pa_nil.weak fun σ H Q ⟨F, ρ, s, q⟩ => RdR.here (v := []) q s FRs.nil
theorem s_cons {a : E} {as : Es} {x : Expr} {xs : List Expr} (ha : PEv fnA exA X W O c a x) (hs : PAv fnA exA X W O c as xs) (hn : noStar x = true) : PAv fnA exA X W O c (.cons a as) (x :: xs) := by
  refine (pa_cons ha hs (noStar_ok hn _ _)).weak fun σ H Q ⟨F, ρ, s, w⟩ => ?_
  refine ⟨F, ρ, s, RdR.bind back_RVs w fun v ρ1 F1 H1 u e x1 r1 s1 m1 h1 => ?_⟩
  refine ⟨F1, ρ1, s1, RdR.bind back_RVs h1 fun v2 ρ2 F2 H2 u2 e2 x2 r2 s2 m2 h2 => ?_⟩
  exact h2.here s2 (FRs.cons (r1.ext x2 s1.notMu) r2)
abbrev PKv (fnA exA : Nat → Option Addr) (X : Cx) (W : WX) (O : List Nat) (c : Cfg) (m : Es) (e : List Keyword) : Prop := PK X e (Rd X.K fnA exA O W (RVs X.K fnA) (evEs c m))
theorem s_knil : PKv fnA exA X W O c .nil [] := pk_nil.weak fun σ H Q ⟨F, ρ, s, q⟩ => RdR.here (v := []) q s FRs.nil
theorem s_kcons {a : E} {as : Es} {x : Expr} {xs : List Keyword} {nk : Option Str} {kp : Pos} (ha : PEv fnA exA X W O c a x) (hs : PKv fnA exA X W O c as xs) : PKv fnA exA X W O c (.cons a as) (⟨nk, x, kp⟩ :: xs) := by
  refine (pk_cons ha hs).weak fun σ H Q ⟨F, ρ, s, w⟩ => ?_
  refine ⟨F, ρ, s, RdR.bind back_RVs w fun v ρ1 F1 H1 u e x1 r1 s1 m1 h1 => ?_⟩
  refine ⟨F1, ρ1, s1, RdR.bind back_RVs h1 fun v2 ρ2 F2 H2 u2 e2 x2 r2 s2 m2 h2 => ?_⟩
  exact h2.here s2 (FRs.cons (r1.ext x2 s1.notMu) r2)

/-! ### a call by its promise -/
theorem runFd_len {c : Cfg} {f : Fd} {vs : List Val} (h : runFd c f vs ≠ .bad) : vs.length = f.P.length := by
  unfold runFd at h
  split at h
  · assumption
  · exact absurd rfl h
theorem callN_len {p : Prog} {n f : Nat} {fd : Fd} {vs : List Val} (hf : p.fns[f]? = some fd) (h : callN p n f vs ≠ .bad) : vs.length = fd.P.length := by
  cases n with
  | zero => exact absurd rfl h
  | succ n =>
    simp only [callN, hf] at h
    exact runFd_len h
/-- what a call's answer asks -/
def afterC (r : Cr) (ρ : Env) : Rs Val := match r with
  | .ok v _ => .ok v ρ
  | .exc x => .exc x
  | .bad => .bad
theorem spF_of {K : PySem.W.Frag} {fd : Fd} {f : Nat} {as : List Val} {vs : List V} {F : Addr → Prop} {H : Hp} {σ : L2.St} {ρ : Env} {Q : VK} {fr : Bool} (hf : p.fns[f]? = some fd) (hl : fd.lent = false) (hfr : fr = fd.fresh) (s : St K fnA O F H σ ρ) (r : FRs K fnA F H as vs)
    (h : RdR K fnA exA O W (RN K fnA fr) (afterC (callN p n f as) ρ) F H σ ρ Q) : spF K fnA exA fd (callN p n f) vs H Q (WE W σ) := by
  subst hfr
  have hb : callN p n f as ≠ .bad := fun e => by rw [e] at h; exact h
  have hlen := callN_len hf hb
  refine ⟨F, as, s.fok, hlen, by rw [← r.len]; exact hlen, ?_, ?_⟩
  · unfold Args; rw [hl]; exact r
  · have mu : ∀ a, MuA fd.lent as vs a → False := fun a ⟨z, _⟩ => by rw [hl] at z; cases z
    cases e : callN p n f as with
    | bad => exact absurd e hb
    | exc x =>
      rw [e] at h
      exact fun F' H' C d x1 e1 => h F' H' C d (x1.wider fun a z => (mu a z).elim) e1
    | ok v o =>
      rw [e] at h
      exact fun F' H' u x1 fo r1 _ => RdR.grown h s (x1.wider fun a z => (mu a z).elim) fo r1
theorem fnB_ok {f : Nat} {lent : Bool} {x : Str} (xn : XN X nm) (h : fnB p nm f lent x = true) : Gl X x ∧ (x == ("__debug__" : Str)) = false ∧ ∃ fd, p.fns[f]? = some fd ∧ fd.name = x ∧ fd.lent = lent := by
  unfold fnB at h
  simp only [Bool.and_eq_true] at h
  obtain ⟨⟨h1, h2⟩, h3⟩ := h
  refine ⟨glB_ok xn h1, nd_dbg h2, ?_⟩
  split at h3
  · rename_i fd e
    rw [Bool.and_eq_true] at h3
    exact ⟨fd, e, by simpa using h3.1, by simpa using h3.2⟩
  · cases h3
theorem backTo_none {pos : Pos} {env : PySem.Env} : ∀ {xs : List Expr}, xs.all noStar = true → (backTo pos (starEach xs env)).any (·.1) = false
  | [], _ => rfl
  | x :: xs, h => by
    rw [List.all_cons, Bool.and_eq_true] at h
    rw [noStar_ok h.1]
    have := backTo_none (pos := pos) (env := env) (xs := xs) h.2
    show ((backTo pos ((false, eval x env) :: starEach xs env)).any (·.1)) = false
    simpa [backTo] using this
theorem s_call {f : Nat} {es : Es} {x : Str} {xs : List Expr} {np pos : Pos} {fd : Fd} (xk : XOk p n fnA exA X W) (xn : XN X nm) (hf : fnB p nm f false x = true) (ef : p.fns[f]? = some fd) (hs : PAv fnA exA X W O c es xs) (hn : xs.all noStar = true) (h0 : xs = [] → es = .nil) (hc : c.call = callN p n) :
    PEn fnA exA X W O c fd.fresh (.call f es) (.Call (.Name x np) xs [] pos) := by
  obtain ⟨hg, hd, fd', ef', en, hl⟩ := fnB_ok xn hf
  rw [ef] at ef'; cases ef'
  obtain ⟨fa, dt, fx⟩ := xk.fns f fd ef
  have key : ∀ σ H Q, Rd X.K fnA exA O W (RN X.K fnA fd.fresh) (evE c (.call f es)) σ H Q → Rd X.K fnA exA O W (RVs X.K fnA) (evEs c es) σ H fun vs H1 => spF X.K fnA exA fd (callN p n f) vs H1 Q (WE W σ) := fun σ H Q ⟨F, ρ, s, w⟩ => by
    refine ⟨F, ρ, s, RdR.bind back_RN w fun v ρ1 F1 H1 u e x1 r1 s1 m1 h1 => ?_⟩
    refine spF_of ef hl rfl s1 r1 ?_
    rw [← hc]
    exact h1
  cases xs with
  | nil =>
    cases h0 rfl
    refine (pe_callS0 fx.ok xk.room hg (en ▸ fx.mg) fx.kp fx.bd (fun σ => passAt xk.tk σ) hd).weak fun σ H Q ⟨F, ρ, s, w⟩ => ?_
    show spF X.K fnA exA fd (callN p n f) [] H Q (WE W σ)
    refine spF_of (n := n) ef hl rfl s (.nil) ?_
    rw [← hc]
    exact w
  | cons y ys =>
    have hn' := hn
    rw [List.all_cons, Bool.and_eq_true] at hn'
    exact (pe_callS fx.ok xk.room hg (en ▸ fx.mg) fx.kp fx.bd (fun σ => passAt xk.tk σ) hs hd (noStar_ok hn'.1 _ _) (backTo_none hn'.2)).weak key
/-! ### by keywords -/
theorem perm_rel {α β : Type} {R : α → β → Prop} {xs : List α} {ys : List β} (h : ∀ j : Nat, (xs[j]? = none ∧ ys[j]? = none) ∨ ∃ a b, xs[j]? = some a ∧ ys[j]? = some b ∧ R a b) (ks : List Nat) {P : List α → List β → Prop} (h0 : P [] []) (hs : ∀ a b l m, R a b → P l m → P (a :: l) (b :: m)) :
    ∀ l : List Nat, P (l.filterMap fun q => (ks.findIdx? (· == q)).bind fun j => xs[j]?) (l.filterMap fun q => (ks.findIdx? (· == q)).bind fun j => ys[j]?)
  | [] => h0
  | q :: l => by
    have ih := perm_rel h ks h0 hs l
    rw [List.filterMap_cons, List.filterMap_cons]
    cases e : ks.findIdx? (· == q) with
    | none => exact ih
    | some j =>
      simp only [Option.bind_some]
      rcases h j with ⟨e1, e2⟩ | ⟨a, b, e1, e2, r⟩
      · rw [e1, e2]; exact ih
      · rw [e1, e2]; exact hs a b _ _ r ih
theorem FRs.perm {K : PySem.W.Frag} {F : Addr → Prop} {H : Hp} {vs : List Val} {us : List V} (h : FRs K fnA F H vs us) (ks : List Nat) : FRs K fnA F H (permK ks vs) (permK ks us) := by
  refine perm_rel (R := FR K fnA F H) (fun j => ?_) ks .nil (fun _ _ _ _ r q => .cons r q) _
  cases e : vs[j]? with
  | none => exact .inl ⟨rfl, by rw [List.getElem?_eq_none_iff] at e ⊢; rw [← h.len]; exact e⟩
  | some v => obtain ⟨u, e1, r⟩ := h.get e; exact .inr ⟨v, u, rfl, e1, r⟩
theorem vals_perm {vs : List V} {us : List Value} (h : Vals vs us) (ks : List Nat) : Vals (permK ks vs) (permK ks us) := by
  refine perm_rel (R := L2.RelV) (fun j => ?_) ks .nil (fun _ _ _ _ r q => .cons r q) _
  cases e : vs[j]? with
  | none => exact .inl ⟨rfl, Vals.none_of h e⟩
  | some v => obtain ⟨u, e1, r⟩ := Vals.get h e; exact .inr ⟨v, u, rfl, e1, r⟩
theorem evEs_len {c : Cfg} : ∀ {es : Es} {ρ ρ' : Env} {vs : List Val}, evEs c es ρ = .ok vs ρ' → ∀ {kws : List Keyword}, chkK p nm es kws = true → vs.length = kws.length
  | .nil, ρ, ρ', vs, h, kws, hk => by
    cases kws with
    | nil => simp only [evEs] at h; cases h; rfl
    | cons a b => simp [chkK] at hk
  | .cons e es, ρ, ρ', vs, h, kws, hk => by
    cases kws with
    | nil => simp [chkK] at hk
    | cons a b =>
      obtain ⟨nk, x, kp⟩ := a
      simp only [chkK, Bool.and_eq_true] at hk
      simp only [evEs] at h
      cases e1 : evE c e ρ with
      | bad => rw [e1] at h; cases h
      | exc x => rw [e1] at h; cases h
      | ok v ρ1 =>
        rw [e1] at h
        simp only [Rs.bind] at h
        cases e2 : evEs c es ρ1 with
        | bad => rw [e2] at h; cases h
        | exc x => rw [e2] at h; cases h
        | ok vs2 ρ2 =>
          rw [e2] at h
          cases h
          exact congrArg Nat.succ (evEs_len e2 hk.2)
theorem kw_facts {pos : Pos} {env : PySem.Env} : ∀ {kws : List Keyword} {ks : List Nat} {P : List Str}, kws.map (·.arg) = ks.map (fun i => P[i]?) → (ks.filterMap fun i => P[i]?).length = ks.length →
    (backToKw pos (keywordEach kws env)).all (·.1.isSome) = true ∧ (backToKw pos (keywordEach kws env)).filterMap (·.1) = ks.filterMap (fun i => P[i]?) ∧ (backToKw pos (keywordEach kws env)).any (·.1.isNone) = false ∧ (keywordEach kws env).length = ks.length
  | [], [], P, _, _ => ⟨rfl, rfl, rfl, rfl⟩
  | [], k :: ks, P, h, _ => by simp at h
  | a :: kws, [], P, h, _ => by simp at h
  | ⟨nk, x, kp⟩ :: kws, k :: ks, P, h, hl => by
    simp only [List.map_cons, List.cons.injEq] at h
    rw [List.filterMap_cons] at hl
    cases e : P[k]? with
    | none =>
      rw [e] at hl
      simp only [List.length_cons] at hl
      have := List.length_filterMap_le (fun i => P[i]?) ks
      omega
    | some y =>
      rw [e] at hl
      simp only [List.length_cons, Nat.add_right_cancel_iff] at hl
      obtain ⟨h1, h2, h3, h4⟩ := kw_facts (pos := pos) (env := env) h.2 hl
      have e1 : nk = some y := by rw [h.1, e]
      subst e1
      refine ⟨?_, ?_, ?_, ?_⟩
      · show (backToKw pos ((some y, eval x env) :: keywordEach kws env)).all (·.1.isSome) = true
        simpa [backToKw] using h1
      · show (backToKw pos ((some y, eval x env) :: keywordEach kws env)).filterMap (·.1) = _
        rw [List.filterMap_cons, e]
        simpa [backToKw] using h2
      · show (backToKw pos ((some y, eval x env) :: keywordEach kws env)).any (·.1.isNone) = false
        simpa [backToKw] using h3
      · show ((some y, eval x env) :: keywordEach kws env).length = _
        simp [h4]
theorem s_callk {f : Nat} {ks : List Nat} {es : Es} {x : Str} {kws : List Keyword} {np pos : Pos} {fd : Fd} (xk : XOk p n fnA exA X W) (xn : XN X nm) (hf : fnB p nm f false x = true) (ef : p.fns[f]? = some fd) (hk : kwB p f ks kws = true) (hs : PKv fnA exA X W O c es kws) (hck : chkK p nm es kws = true) (hc : c.call = callN p n) :
    PEn fnA exA X W O c fd.fresh (.callk f ks es) (.Call (.Name x np) [] kws pos) := by
  obtain ⟨hg, hd, fd', ef', en, hl⟩ := fnB_ok xn hf
  rw [ef] at ef'; cases ef'
  obtain ⟨fa, dt, fx⟩ := xk.fns f fd ef
  unfold kwB at hk
  rw [ef] at hk
  simp only [Bool.and_eq_true, decide_eq_true_eq] at hk
  obtain ⟨⟨⟨⟨k1, k2⟩, k3⟩, k4⟩, k5⟩ := hk
  obtain ⟨f1, f2, f3, f4⟩ := kw_facts (pos := pos) (env := X.env) k3 k5
  have hl2 : kws.length = (ks.filterMap fun i => fd.P[i]?).length := by
    have := congrArg List.length k3
    simp only [List.length_map] at this
    omega
  have hw : PK X kws (fun σ H Q => Rd X.K fnA exA O W (RVs X.K fnA) (evEs c es) σ H fun zs H2 => zs.length = (ks.filterMap fun i => fd.P[i]?).length → Q zs H2) := hs.weak fun σ H Q ⟨F, ρ, s, w⟩ => by
    refine ⟨F, ρ, s, ?_⟩
    revert w
    cases e : evEs c es ρ with
    | bad => exact id
    | exc x => exact id
    | ok vs ρ1 =>
      intro w F' H' u x1 r1 s1 m1
      refine w F' H' u x1 r1 s1 m1 ?_
      rw [← hl2, ← evEs_len e hck]
      exact r1.len.symm
  refine (pe_callKS (g := permK ks) (gV := permK ks) fx.ok xk.room hg (en ▸ fx.mg) fx.kp (fun s ws h => fx.kb ks (by simpa using k1) s ws (h.trans k5)) (fun r _ => vals_perm r ks) (fun σ => passAt xk.tk σ) hw f1 f2 (f4.trans k5.symm)
    (fun σ H Q q => ?_) (by
      show (([] : List (Bool × Sem Value)).any (·.1) || (backToKw pos (keywordEach kws X.env)).any (·.1.isNone)) = false
      rw [f3]; rfl) hd).weak fun σ H Q ⟨F, ρ, s, w⟩ => ?_
  · obtain ⟨F, ρ, s, w⟩ := q
    refine ⟨F, ρ, s, ?_⟩
    revert w
    cases e : evEs c es ρ with
    | bad => exact id
    | exc x => exact id
    | ok vs ρ1 => exact fun w F' H' u x1 r1 s1 m1 hlen => ⟨hlen, w F' H' u x1 r1 s1 m1 hlen⟩
  · refine ⟨F, ρ, s, RdR.bind back_RN w fun v ρ1 F1 H1 u e x1 r1 s1 m1 h1 => fun _ => ?_⟩
    refine spF_of (n := n) ef hl rfl s1 (r1.perm ks) ?_
    rw [← hc]
    exact h1
end
end Rf

set_option Elab.async false
set_option linter.all false
set_option maxRecDepth 100000
set_option maxHeartbeats 4000000
/-! The reflective layer, part K: lent lists, built-ins, places, slices. -/
namespace Rf
open PySem PySem.Spec PyProof.Rows L2
section
variable {p : Prog} {n : Nat} {fnA exA : Nat → Option Addr} {X : Cx} {W : WX} {nm : Nm} {O : List Nat} {c : Cfg}
theorem getV_set {ρ : Env} {i j : Nat} {v : Val} (h : (getV ρ i).isSome = true) : getV (setV ρ i v) j = if j = i then some v else getV ρ j := by
  unfold getV setV at *
  have hi : i < ρ.length := by
    cases e : ρ[i]? with
    | none => rw [e] at h; cases h
    | some x => exact (List.getElem?_eq_some_iff.mp e).1
  by_cases hj : j = i
  · subst hj
    rw [if_pos rfl, List.getElem?_set_self hi]
  · rw [if_neg hj, List.getElem?_set_ne (Ne.symm hj)]
/-- the slot i holds its list, changed -/
theorem St.lent {K : PySem.W.Frag} {F F' : Addr → Prop} {H H' : Hp} {σ : L2.St} {ρ : Env} {i : Nat} {v o : Val} {u : V} (s : St K fnA O F H σ ρ) (hi : i ∈ O) (e : getV ρ i = some v) (eu : σ[i]? = some (some u)) (x : Ext (fun a => ∃ vs, v = .lst vs ∧ u = .ref a) F H F' H') (fo : ∀ a, F' a → ∃ o, H' a = some o)
    (ow : Own K fnA F' H' o u) (hl : (∃ xs, v = .lst xs) ↔ ∃ xs, o = .lst xs) : St K fnA O F' H' σ (setV ρ i o) ∧ Sm O ρ (setV ρ i o) ∧ Ext (Mu O σ ρ) F H F' H' := by
  have g : ∀ j, getV (setV ρ i o) j = if j = i then some o else getV ρ j := fun j => getV_set (by rw [e]; rfl)
  have notM : ∀ a, F a → ¬ ∃ vs, v = .lst vs ∧ u = .ref a := fun a f ⟨vs, e1, e2⟩ => by
    subst e1 e2
    exact s.notMu a f ⟨i, vs, hi, e, eu⟩
  refine ⟨⟨fo, by unfold setV; rw [List.length_set]; exact s.len, fun j w hw hj => ?_, fun j w hw hj => ?_, fun j k vs ws a hj hk ej ek sj sk => ?_⟩, ⟨by unfold setV; rw [List.length_set], fun j hj => ?_, fun j vs hj ej => ?_, fun j vs hj ej => ?_⟩, x.wider fun a ⟨vs, e1, e2⟩ => ?_⟩
  · rw [g] at hw
    have : j ≠ i := fun z => hj (z ▸ hi)
    rw [if_neg this] at hw
    obtain ⟨u2, e2, r⟩ := s.fz j w hw hj
    exact ⟨u2, e2, r.ext x notM⟩
  · rw [g] at hw
    by_cases z : j = i
    · subst z
      rw [if_pos rfl] at hw
      cases hw
      exact ⟨u, eu, ow⟩
    · rw [if_neg z] at hw
      obtain ⟨u2, e2, r⟩ := s.ow j w hw hj
      refine ⟨u2, e2, ?_⟩
      rcases r with ⟨vs, us, a, rfl, rfl, hn, ea, rs⟩ | ⟨hn, r⟩
      · have hne : ¬ ∃ ws, v = .lst ws ∧ u = .ref a := fun ⟨ws, e3, e4⟩ => by
          subst e3 e4
          exact z (s.dj j i vs ws a hj hi hw e e2 eu)
        refine .inl ⟨vs, us, a, rfl, rfl, fun f => ?_, x.kp a _ ea hne, rs.ext x notM⟩
        rcases x.nw a f with f | f
        · exact hn f
        · rw [ea] at f; cases f
      · exact .inr ⟨hn, r.ext x notM⟩
  · rw [g] at ej ek
    by_cases z : j = i
    · by_cases z2 : k = i
      · rw [z, z2]
      · rw [if_pos z] at ej; rw [if_neg z2] at ek
        cases ej
        obtain ⟨xs, rfl⟩ := hl.mpr ⟨_, rfl⟩
        rw [z] at hj sj ⊢
        exact s.dj i k xs ws a hj hk e ek sj sk
    · rw [if_neg z] at ej
      by_cases z2 : k = i
      · rw [if_pos z2] at ek
        cases ek
        obtain ⟨xs, rfl⟩ := hl.mpr ⟨_, rfl⟩
        rw [z2] at hk sk ⊢
        exact s.dj j i vs xs a hj hk ej e sj sk
      · rw [if_neg z2] at ek
        exact s.dj j k vs ws a hj hk ej ek sj sk
  · rw [g, if_neg fun z : j = i => hj (z ▸ hi)]
  · rw [g] at ej
    by_cases z : j = i
    · subst z
      rw [if_pos rfl] at ej
      cases ej
      obtain ⟨xs, rfl⟩ := hl.mpr ⟨_, rfl⟩
      exact ⟨xs, e⟩
    · rw [if_neg z] at ej; exact ⟨vs, ej⟩
  · rw [g]
    by_cases z : j = i
    · subst z
      rw [e] at ej
      cases ej
      obtain ⟨xs, rfl⟩ := hl.mp ⟨_, rfl⟩
      exact ⟨xs, by rw [if_pos rfl]⟩
    · exact ⟨vs, by rw [if_neg z]; exact ej⟩
  · subst e1 e2
    exact ⟨i, vs, hi, e, eu⟩
theorem s_calll {f i : Nat} {es : Es} {x y : Str} {xs : List Expr} {np yp pos : Pos} {fd : Fd} (xk : XOk p n fnA exA X W) (xn : XN X nm) (hf : fnB p nm f true x = true) (ef : p.fns[f]? = some fd) (hy : varB nm i y = true) (hi : i ∈ O) (hs : PAv fnA exA X W O c es xs) (hn : xs.all noStar = true) (hc : c.call = callN p n) :
    PEn fnA exA X W O c fd.fresh (.calll f i es) (.Call (.Name x np) (.Name y yp :: xs) [] pos) := by
  obtain ⟨hg, hd, fd', ef', en, hl⟩ := fnB_ok xn hf
  rw [ef] at ef'; cases ef'
  obtain ⟨fa, dt, fx⟩ := xk.fns f fd ef
  refine (pe_callS fx.ok xk.room hg (en ▸ fx.mg) fx.kp fx.bd (fun σ => passAt xk.tk σ) (pa_cons (pe_varB xn hy) hs) hd rfl (backTo_none hn)).weak fun σ H Q ⟨F, ρ, s, w⟩ => ?_
  have w : RdR X.K fnA exA O W (RN X.K fnA fd.fresh) (match getV ρ i with
    | none => .bad
    | some _ => (evEs c es ρ).bind fun vs ρ => match getV ρ i with
      | some u => (match c.call f (u :: vs) with
        | .ok v o => .ok v (setV ρ i o)
        | .exc x => .exc x
        | .bad => .bad)
      | none => .bad) F H σ ρ Q := w
  cases e : getV ρ i with
  | none => rw [e] at w; exact w.elim
  | some v0 =>
    rw [e] at w
    obtain ⟨u, eu, ow0⟩ := s.ow i v0 e hi
    refine ⟨u, eu, F, ρ, s, RdR.bind back_RN w fun vs ρ1 F1 H1 us e1 x1 r1 s1 m1 h1 => ?_⟩
    cases e2 : getV ρ1 i with
    | none => rw [e2] at h1; exact h1.elim
    | some v =>
      rw [e2] at h1
      dsimp only at h1
      obtain ⟨u', eu', ow⟩ := s1.ow i v e2 hi
      rw [eu] at eu'; cases eu'
      have hnb : callN p n f (v :: vs) ≠ .bad := fun z => by rw [hc, z] at h1; exact h1
      have hlen := callN_len ef hnb
      refine ⟨F1, v :: vs, s1.fok, hlen, ?_, ?_, ?_⟩
      · rw [← hlen, List.length_cons, List.length_cons, r1.len]
      · unfold Args; rw [hl]; exact ⟨v, vs, u, us, rfl, rfl, ow, r1⟩
      · have mu : ∀ a, MuA fd.lent (v :: vs) (u :: us) a → ∃ ws, v = .lst ws ∧ u = .ref a := fun a ⟨_, xs, r, s, z1, z2⟩ => by cases z1; cases z2; exact ⟨xs, rfl, rfl⟩
        have mu2 : ∀ a, (∃ ws, v = .lst ws ∧ u = .ref a) → Mu O σ ρ1 a := fun a ⟨ws, z1, z2⟩ => by subst z1 z2; exact ⟨i, ws, hi, e2, eu⟩
        rw [hc] at h1
        cases e3 : callN p n f (v :: vs) with
        | bad => exact absurd e3 hnb
        | exc q =>
          rw [e3] at h1
          exact fun F' H' C d x2 e4 => h1 F' H' C d (x2.wider fun a z => mu2 a (mu a z)) e4
        | ok w2 o =>
          rw [e3] at h1
          intro F' H' u2 x2 fo r2 ho
          obtain ⟨ow2, hll⟩ := ho hl v vs u us rfl rfl
          obtain ⟨s3, m3, x3⟩ := s1.lent hi e2 eu (x2.wider mu) fo ow2 hll
          exact h1 F' H' u2 x3 r2 s3 m3

/-! ### built-ins -/
theorem blt_ok {x : Str} (xk : XOk p n fnA exA X W) (xn : XN X nm) (h : blt p nm x = true) : Gl X x ∧ X.mg x = none := by
  unfold blt at h
  rw [Bool.and_eq_true] at h
  exact ⟨glB_ok xn h.1, xk.blt x (by simpa using h.2)⟩
theorem s_bi {b : BI} {es : Es} {x : Str} {y : Expr} {ys : List Expr} {np pos : Pos} {fr : Bool} (xk : XOk p n fnA exA X W) (xn : XN X nm) (hb : biB p nm b x = true) (hs : PAv fnA exA X W O c es (y :: ys)) (hn : (y :: ys).all noStar = true) : PEn fnA exA X W O c fr (.bi b es) (.Call (.Name x np) (y :: ys) [] pos) := by
  unfold biB at hb
  simp only [Bool.and_eq_true, decide_eq_true_eq] at hb
  obtain ⟨⟨hx, hg⟩, hm⟩ := hb
  have hg := glB_ok xn hg
  rw [List.all_cons, Bool.and_eq_true] at hn
  have key : PE X (.Call (.Name x np) (y :: ys) [] pos) (tCB (rVn X.K fnA (biop b)) (Rd X.K fnA exA O W (RVs X.K fnA) (evEs c es))) := by
    subst hx
    cases b with
    | len => exact pe_callB (call_bi .len xk.calm) hg (xk.blt _ (by simpa using hm)) PySem.boot_len hs (by decide) (by decide) (noStar_ok hn.1 _ _) (backTo_none hn.2)
    | tup => exact pe_callTy (call_bi .tup xk.calm) hg (xk.blt _ (by simpa using hm)) (by decide +kernel) hs (by decide) (by decide) (noStar_ok hn.1 _ _) (backTo_none hn.2)
    | lst => exact pe_callTy (call_bi .lst xk.calm) hg (xk.blt _ (by simpa using hm)) (by decide +kernel) hs (by decide) (by decide) (noStar_ok hn.1 _ _) (backTo_none hn.2)
    | abs => exact pe_callB (call_bi .abs xk.calm) hg (xk.blt _ (by simpa using hm)) (by decide +kernel) hs (by decide) (by decide) (noStar_ok hn.1 _ _) (backTo_none hn.2)
    | int => exact pe_callTy (call_bi .int xk.calm) hg (xk.blt _ (by simpa using hm)) (by decide +kernel) hs (by decide) (by decide) (noStar_ok hn.1 _ _) (backTo_none hn.2)
    | min => exact pe_callB (call_bi .min xk.calm) hg (xk.blt _ (by simpa using hm)) (by decide +kernel) hs (by decide) (by decide) (noStar_ok hn.1 _ _) (backTo_none hn.2)
    | max => exact pe_callB (call_bi .max xk.calm) hg (xk.blt _ (by simpa using hm)) (by decide +kernel) hs (by decide) (by decide) (noStar_ok hn.1 _ _) (backTo_none hn.2)
    | sum => exact pe_callB (call_bi .sum xk.calm) hg (xk.blt _ (by simpa using hm)) (by decide +kernel) hs (by decide) (by decide) (noStar_ok hn.1 _ _) (backTo_none hn.2)
    | all => exact pe_callB (call_bi .all xk.calm) hg (xk.blt _ (by simpa using hm)) (by decide +kernel) hs (by decide) (by decide) (noStar_ok hn.1 _ _) (backTo_none hn.2)
    | any => exact pe_callB (call_bi .any xk.calm) hg (xk.blt _ (by simpa using hm)) (by decide +kernel) hs (by decide) (by decide) (noStar_ok hn.1 _ _) (backTo_none hn.2)
    | gcd =>
      have hm2 : X.mg "gcd" = some (.builtin "math.gcd") := by
        rcases xk.gcd with z | z
        · exact z
        · rw [z] at hm; cases hm
      exact pe_callBfun (call_bi .gcd xk.calm) hg hm2 hs (by decide) (noStar_ok hn.1 _ _) (backTo_none hn.2)
  refine key.weak fun σ H Q ⟨F, ρ, s, w⟩ => ?_
  refine ⟨F, ρ, s, RdR.bind back_RN w fun v ρ1 F1 H1 u e x1 r1 s1 m1 h1 => ?_⟩
  exact ⟨F1, v, s1.fok, r1, h1.ans s1⟩

/-! ### isinstance -/
theorem pe_ty {t : Ty} {e : Expr} (xk : XOk p n fnA exA X W) (xn : XN X nm) (h : tyB p nm t e = true) : PE X e (tC (.ty (tyN t))) ∧ noStar e = true := by
  unfold tyB at h
  split at h
  · rw [Bool.and_eq_true, decide_eq_true_eq] at h
    obtain ⟨hx, hb⟩ := h
    subst hx
    obtain ⟨hg, hm⟩ := blt_ok xk xn hb
    refine ⟨?_, rfl⟩
    cases t
    · exact pe_bltn hg hm (by decide +kernel : bootBuiltins (tyS .int) = some (.type "int")) rfl (by decide) (by decide)
    · exact pe_bltn hg hm (by decide +kernel : bootBuiltins (tyS .bool) = some (.type "bool")) rfl (by decide) (by decide)
    · exact pe_bltn hg hm (by decide +kernel : bootBuiltins (tyS .str) = some (.type "str")) rfl (by decide) (by decide)
    · exact pe_bltn hg hm (by decide +kernel : bootBuiltins (tyS .lst) = some (.type "list")) rfl (by decide) (by decide)
    · exact pe_bltn hg hm (by decide +kernel : bootBuiltins (tyS .tup) = some (.type "tuple")) rfl (by decide) (by decide)
  · cases h
def tTys : List Ty → TA
  | [] => tNil
  | t :: ts => tCons (tC (.ty (tyN t))) (tTys ts)
theorem pa_tys (xk : XOk p n fnA exA X W) (xn : XN X nm) : ∀ {ts : List Ty} {es : List Expr}, tysB p nm ts es = true → PA X es (tTys ts)
  | [], [], _ => pa_nil
  | t :: ts, e :: es, h => by
    simp only [tysB, Bool.and_eq_true] at h
    obtain ⟨h1, h2⟩ := pe_ty xk xn h.1
    exact pa_cons h1 (pa_tys xk xn h.2) (noStar_ok h2 _ _)
theorem tTys_of {σ : L2.St} {H : Hp} {Q : List V → Hp → Prop} : ∀ {ts : List Ty}, Q (ts.map fun t => V.ty (tyN t)) H → tTys ts σ H Q
  | [], h => h
  | t :: ts, h => tTys_of (ts := ts) (Q := fun xs H2 => Q (V.ty (tyN t) :: xs) H2) h
theorem clsV_tys : ∀ ts : List Ty, Paired ClsV (ts.map fun t => V.ty (tyN t)) (ts.map fun t => Value.type (tyN t))
  | [] => .nil
  | t :: ts => .cons (.ty _) (clsV_tys ts)
theorem s_isi {a : E} {ts : List Ty} {x : Str} {y t : Expr} {np pos : Pos} (xk : XOk p n fnA exA X W) (xn : XN X nm) (hx : x = "isinstance") (hb : blt p nm x = true) (ha : PEv fnA exA X W O c a y) (hy : noStar y = true) (ht : tysE p nm ts t = true) : PEn fnA exA X W O c false (.isi a ts) (.Call (.Name x np) [y, t] [] pos) := by
  subst hx
  obtain ⟨hg, hm⟩ := blt_ok xk xn hb
  have one : ∀ t1, ts = [t1] → tyB p nm t1 t = true → PEn fnA exA X W O c false (.isi a ts) (.Call (.Name "isinstance" np) [y, t] [] pos) := fun t1 e1 h1 => by
    obtain ⟨p1, p2⟩ := pe_ty xk xn h1
    refine (pe_callB call_isi hg hm (by decide +kernel) (pa_cons ha (pa_cons p1 pa_nil (noStar_ok p2 _ _)) (noStar_ok hy _ _)) (by decide) (by decide) (noStar_ok hy _ _) (backTo_none (by simp [p2]))).weak fun σ H Q ⟨F, ρ, s, w⟩ => ?_
    refine ⟨F, ρ, s, RdR.bind back_RN w fun v ρ1 F1 H1 u e x1 r1 s1 m1 h1 => ?_⟩
    subst e1
    cases hv : tyOf v with
    | none => cases v <;> first | exact h1.elim | cases hv
    | some T =>
      have h2 : RdR X.K fnA exA O W (RN X.K fnA false) (.ok (.bl ([t1].any (isTy v))) ρ1) F1 H1 σ ρ1 Q := by cases v <;> first | exact h1 | cases hv
      exact ⟨u, .ty (tyN t1), .type T, .type (tyN t1), isTy v t1, rfl, .ty _, r1.ty hv, isTy_kit hv t1, RdR.atom (v := .bl (isTy v t1)) (by simpa using h2) s1 (.bl _) (by simp)⟩
  cases t with
  | Tuple es k tp =>
    have ht2 : tysB p nm ts es = true ∧ decide (ts.length ≤ 100) = true := Bool.and_eq_true_iff.mp ht
    refine (pe_callB call_isiT hg hm (by decide +kernel) (pa_cons ha (pa_cons (pe_tup (pa_tys xk xn ht2.1)) pa_nil rfl) (noStar_ok hy _ _)) (by decide) (by decide) (noStar_ok hy _ _) (backTo_none rfl)).weak fun σ H Q ⟨F, ρ, s, w⟩ => ?_
    refine ⟨F, ρ, s, RdR.bind back_RN w fun v ρ1 F1 H1 u e x1 r1 s1 m1 h1 => ?_⟩
    cases hv : tyOf v with
    | none => cases v <;> first | exact h1.elim | cases hv
    | some T =>
      have h2 : RdR X.K fnA exA O W (RN X.K fnA false) (.ok (.bl (ts.any (isTy v))) ρ1) F1 H1 σ ρ1 Q := by cases v <;> first | exact h1 | cases hv
      refine tTys_of (ts := ts) ⟨?_, fun tp hp => ?_⟩
      · have := of_decide_eq_true ht2.2
        rw [List.length_map, sizeLine_eq]; omega
      · have x2 : Ext M0 F1 H1 (fun a => F1 a ∨ a = tp) (upd H1 tp (.tup (ts.map fun t => V.ty (tyN t)))) := .new hp
        refine ⟨u, tp, _, .type T, _, ts.any (isTy v), rfl, upd_same, clsV_tys ts, (r1.ext x2 fun _ _ => id).ty hv, isTys_kit hv ts, ?_⟩
        exact h2.grown s1 x2 (fok_new s1.fok hp) (by unfold RN; exact .bl _)
  | _ =>
    simp only [tysE] at ht
    split at ht
    · exact one _ rfl ht
    · cases ht
/-! ### places, slices -/
theorem plain_ix {e : Expr} (h : notSlice e = true) : PlainIx e := by
  intro o i
  cases e <;> first | rfl | cases h
theorem s_itm {a i : E} {x y : Expr} {pos : Pos} (ha : PEv fnA exA X W O c a x) (hi : PEv fnA exA X W O c i y) (hn : notSlice y = true) : PEn fnA exA X W O c false (.itm a i) (.Subscript x y pos) := by
  refine (pe_ix (ix_any (fnA := fnA)) ha hi (plain_ix hn)).weak fun σ H Q ⟨F, ρ, s, q⟩ => ?_
  refine ⟨F, ρ, s, RdR.bind back_RN q fun v ρ1 F1 H1 u e x1 r1 s1 m1 h1 => ?_⟩
  refine ⟨F1, ρ1, s1, RdR.bind back_RN h1 fun v2 ρ2 F2 H2 u2 e2 x2 r2 s2 m2 h2 => ?_⟩
  exact ⟨F2, v, v2, s2.fok, r1.ext x2 s1.notMu, r2, h2.ans' s2⟩
theorem s_itv {v : Nat} {i : E} {x : Str} {y : Expr} {xp pos : Pos} (xn : XN X nm) (hv : varB nm v x = true) (hi : PEv fnA exA X W O c i y) (hn : notSlice y = true) : PEn fnA exA X W O c false (.itv v i) (.Subscript (.Name x xp) y pos) := by
  refine (pe_ix (ix_seq) (pe_varB xn hv) hi (plain_ix hn)).weak fun σ H Q ⟨F, ρ, s, w⟩ => ?_
  have w : RdR X.K fnA exA O W (RN X.K fnA false) (match getV ρ v with
    | none => .bad
    | some _ => (evE c i ρ).bind fun y ρ => .ofO ((getV ρ v).bind fun v => itemop v y) ρ) F H σ ρ Q := w
  cases e0 : getV ρ v with
  | none => rw [e0] at w; exact w.elim
  | some v0 =>
    rw [e0] at w
    have hs : ∃ u, σ[v]? = some (some u) := by
      by_cases hO : v ∈ O
      · exact let ⟨u, e, _⟩ := s.ow v v0 e0 hO; ⟨u, e⟩
      · exact let ⟨u, e, _⟩ := s.fz v v0 e0 hO; ⟨u, e⟩
    obtain ⟨u, eu⟩ := hs
    refine ⟨u, eu, F, ρ, s, RdR.bind back_RN w fun k ρ1 F1 H1 k2 e x1 r1 s1 m1 h1 => ?_⟩
    cases e1 : getV ρ1 v with
    | none => rw [e1] at h1; exact h1.elim
    | some w1 =>
      rw [e1] at h1
      simp only [Option.bind_some] at h1
      by_cases hO : v ∈ O
      · obtain ⟨u', eu', ow⟩ := s1.ow v w1 e1 hO
        rw [eu] at eu'; cases eu'
        rcases ow with ⟨vs, us, a, rfl, rfl, _, ea, rs⟩ | ⟨_, r⟩
        · obtain ⟨z, ez, A⟩ := h1.ans' s1
          cases r1 with
          | int j =>
            obtain ⟨w2, e2, f2⟩ := rs.atI ez
            exact .inl ⟨a, us, j, w2, rfl, rfl, .inl (.inl ea), e2, A F1 H1 w2 .refl s1.fok f2⟩
          | _ => cases ez
        · exact ix_parts r r1 s1.fok (h1.ans' s1)
      · obtain ⟨u', eu', r⟩ := s1.fz v w1 e1 hO
        rw [eu] at eu'; cases eu'
        exact ix_parts r r1 s1.fok (h1.ans' s1)
theorem s_lnv {v : Nat} {x y : Str} {np yp pos : Pos} (xk : XOk p n fnA exA X W) (xn : XN X nm) (hb : biB p nm .len x = true) (hv : varB nm v y = true) : PEn fnA exA X W O c false (.lnv v) (.Call (.Name x np) [.Name y yp] [] pos) := by
  unfold biB at hb
  simp only [Bool.and_eq_true, decide_eq_true_eq] at hb
  obtain ⟨⟨hx, hg⟩, hm⟩ := hb
  have hg := glB_ok xn hg
  subst hx
  have key := pe_callB (pos := pos) (p := np) (call_len_seq.or call_len_str) hg (xk.blt _ (by simpa using hm)) PySem.boot_len (pa_cons (pe_varB (pos := yp) xn hv) pa_nil rfl) (by decide) (by decide) rfl rfl
  refine key.weak fun σ H Q ⟨F, ρ, s, w⟩ => ?_
  have w : RdR X.K fnA exA O W (RN X.K fnA false) (.ofO ((getV ρ v).bind fun v => biop .len [v]) ρ) F H σ ρ Q := w
  cases e0 : getV ρ v with
  | none => rw [e0] at w; exact w.elim
  | some v0 =>
    rw [e0] at w
    simp only [Option.bind_some] at w
    have A := w.ans' s
    have big : ∀ u, FR X.K fnA F H v0 u → (∃ p ys, [u] = [V.ref p] ∧ (SqL X.K H p ys ∨ SqT X.K H p ys) ∧ Q (.int ys.length) H) ∨ (∃ z, [u] = [V.str z] ∧ z.length ≤ sizeLine ∧ Q (.int z.length) H) := fun u r => by
      obtain ⟨z, ez, A⟩ := A
      cases r with
      | tup sa ra => cases ez; exact .inl ⟨_, _, rfl, .inr sa.sq, by rw [← ra.len]; exact A F H _ .refl s.fok (.int _)⟩
      | lst sa ra => cases ez; exact .inl ⟨_, _, rfl, .inl sa.sq, by rw [← ra.len]; exact A F H _ .refl s.fok (.int _)⟩
      | str x =>
        simp only [biop] at ez
        split at ez
        · rename_i hl
          cases ez
          exact .inr ⟨_, rfl, hl, A F H _ .refl s.fok (.int _)⟩
        · cases ez
      | _ => cases ez
    by_cases hO : v ∈ O
    · obtain ⟨u, eu, ow⟩ := s.ow v v0 e0 hO
      refine ⟨u, eu, ?_⟩
      rcases ow with ⟨vs, us, a, rfl, rfl, _, ea, rs⟩ | ⟨_, r⟩
      · obtain ⟨z, ez, A⟩ := A
        cases ez
        exact .inl ⟨_, _, rfl, .inl (.inl (.inl ea)), by rw [← rs.len]; exact A F H _ .refl s.fok (.int _)⟩
      · exact big u r
    · obtain ⟨u, eu, r⟩ := s.fz v v0 e0 hO
      exact ⟨u, eu, big u r⟩
/-! slices -/
abbrev POv (fnA exA : Nat → Option Addr) (X : Cx) (W : WX) (O : List Nat) (c : Cfg) (m : Oe) (e : Option Expr) : Prop := PO X e (Rd X.K fnA exA O W REq (evO c m))
theorem s_onone : POv fnA exA X W O c .none none := po_none.weak fun σ H Q ⟨F, ρ, s, q⟩ => RdR.here (v := (none : Option Int)) q s rfl
theorem s_osome {a : E} {x : Expr} (ha : PEv fnA exA X W O c a x) : POv fnA exA X W O c (.some a) (some x) := (po_some ha).weak fun σ H Q ⟨F, ρ, s, w⟩ => by
  refine ⟨F, ρ, s, RdR.bind back_REq w fun v ρ1 F1 H1 u e x1 r1 s1 m1 h1 => ?_⟩
  cases r1 with
  | int i => exact ⟨i, rfl, h1.here s1 rfl⟩
  | _ => exact h1.elim
theorem s_slc {a : E} {lo hi : Oe} {x : Expr} {l h : Option Expr} {p2 pos : Pos} {fr : Bool} (ha : PEv fnA exA X W O c a x) (hl : POv fnA exA X W O c lo l) (hh : POv fnA exA X W O c hi h) : PEn fnA exA X W O c fr (.slc a lo hi) (.Subscript x (.Slice l h none p2) pos) := by
  refine (pe_slice (sl_any (fnA := fnA)) ha hl hh).weak fun σ H Q ⟨F, ρ, s, w⟩ => ?_
  refine ⟨F, ρ, s, RdR.bind back_RN w fun v ρ1 F1 H1 u e x1 r1 s1 m1 h1 => ?_⟩
  refine ⟨F1, ρ1, s1, RdR.bind back_RN h1 fun v2 ρ2 F2 H2 u2 e2 x2 r2 s2 m2 h2 => ?_⟩
  refine ⟨F2, ρ2, s2, RdR.bind back_RN h2 fun v3 ρ3 F3 H3 u3 e3 x3 r3 s3 m3 h3 => ?_⟩
  subst r2 r3
  exact ⟨F3, v, s3.fok, (r1.ext x2 s1.notMu).ext x3 s2.notMu, h3.ans s3⟩
theorem s_rev {a : E} {x : Expr} {k : Nat} {p1 p2 p3 pos : Pos} (ha : PEv fnA exA X W O c a x) : PEn fnA exA X W O c true (.rev a) (.Subscript x (.Slice none none (some (.UnaryOp .USub (.Constant (.int 1) k p1) p2)) p3) pos) := by
  refine (pe_revL ha).weak fun σ H Q ⟨F, ρ, s, w⟩ => ?_
  refine ⟨F, ρ, s, RdR.bind back_RN w fun v ρ1 F1 H1 u e x1 r1 s1 m1 h1 => ?_⟩
  cases r1 with
  | lst sa ra => exact ⟨_, _, rfl, sa.sq, Ans.lst (o := some (.lst _)) (RdR.ans (fr := true) h1 s1) rfl s1.fok ra.rev⟩
  | _ => exact h1.elim
theorem s_idx {a b : E} {x y : Expr} {nx : Str} {ap pos : Pos} (xk : XOk p n fnA exA X W) (hx : nx = "index") (ha : PEv fnA exA X W O c a x) (hb : PEv fnA exA X W O c b y) (hy : noStar y = true) (h0 : notCall0 x = true) (hl : (ap.endLine == pos.line) = true) : PEn fnA exA X W O c false (.idx a b) (.Call (.Attribute x nx ap) [y] [] pos) := by
  subst hx
  refine (pe_bm PySem.F.plainAttrs_list PySem.F.slot_list_index PySem.F.type_list_index (mt_idx (fnA := fnA) xk.units) ha (pa_cons hb pa_nil (noStar_ok hy _ _)) ?_ ?_ hl (noStar_ok hy _ _) (backTo_none rfl)).weak fun σ H Q ⟨F, ρ, s, w⟩ => ?_
  · unfold attributeBase
    split
    · cases h0
    · rfl
  · rw [noStar_ok hy]; rfl
  · refine ⟨F, ρ, s, RdR.bind back_RN w fun v ρ1 F1 H1 u e x1 r1 s1 m1 h1 => ?_⟩
    cases r1 with
    | lst sa ra =>
      refine ⟨.inl ⟨rfl, _, sa.sq⟩, F1, ρ1, s1, RdR.bind back_RN h1 fun v2 ρ2 F2 H2 u2 e2 x2 r2 s2 m2 h2 => ?_⟩
      exact ⟨F2, _, u2, v2, s2.fok, (FR.lst sa ra).ext x2 s1.notMu, rfl, r2, h2.ans s2⟩
    | _ => exact h1.elim
end
end Rf

set_option Elab.async false
set_option linter.all false
set_option maxRecDepth 100000
set_option maxHeartbeats 4000000
/-! The reflective layer, part L: what is walked. -/
namespace L2
open PySem PySem.Spec PyProof.Rows
/-- a list, a tuple, a text -/
def iAny (K : PySem.W.Frag) (te : TE) : TI := fun σ H R => te σ H fun x H1 => (∃ a, x = .ref a ∧ (∃ xs, SqL K H1 a xs) ∧ R (Itl K a) H1) ∨ (∃ a, x = .ref a ∧ (∃ xs, SqT K H1 a xs) ∧ R (Itt K a) H1) ∨ (∃ z, x = .str z ∧ R (Its z) H1)
theorem pi_any {X : Cx} {tg l : Expr} {tl : TE} (hl : PE X l tl) : PI X tg l (iAny X.K tl) := by
  refine ⟨fun pins s σ H R I h => ?_⟩
  refine thn (hl.run pins s σ H _ I h) fun v s1 ⟨x, H1, I1, r1, q1⟩ => ?_
  rcases q1 with ⟨a, e, ⟨xs, hq⟩, q⟩ | ⟨a, e, ⟨xs, hq⟩, q⟩ | ⟨z, e, q⟩
  · subst e
    cases r1
    obtain ⟨its, rv, p, hz⟩ := I1.list hq
    refine wpAny_pyIter_list p.isList ?_
    refine ⟨s1.heap.objs.size, [s1.heap.objs.size], _, _, H1, rfl, I1.kept (t' := s1.toks) fun b o e => Heap.get?_push_of_some _ e, turn_list a _, ⟨_, Heap.get?_push_size _ rfl, rfl, rfl⟩, fun b hb => ?_, q⟩
    have e : b = s1.heap.objs.size := by simpa using hb
    subst e
    exact I1.fpOk (Nat.le_refl _) (I1.hok.fresh (Nat.le_refl _))
  · subst e
    cases r1
    obtain ⟨its, rv, p, hz⟩ := I1.tuple hq
    refine wpAny_pyIter_tuple (show s1.heap.IsTuple a its.toArray from p) ?_
    refine ⟨s1.heap.objs.size, [s1.heap.objs.size], _, _, H1, rfl, I1.kept (t' := s1.toks) fun b o e => Heap.get?_push_of_some _ e, turn_tuple a _, ⟨_, Heap.get?_push_size _ rfl, rfl, rfl⟩, fun b hb => ?_, q⟩
    have e : b = s1.heap.objs.size := by simpa using hb
    subst e
    exact I1.fpOk (Nat.le_refl _) (I1.hok.fresh (Nat.le_refl _))
  · subst e
    obtain ⟨t, rfl⟩ := r1
    cases ha : z.cps.all (· < 128)
    · exact wpAny_pyIter_wide ha (pi_one (tk := s1.toks) I1 _ (turn_str _ z t "str_iterator" (.inr rfl)) ⟨_, Heap.get?_push_size _ rfl, rfl, rfl⟩ q)
    · exact wpAny_pyIter_ascii ha (pi_one (tk := s1.toks) I1 _ (turn_str _ z t "str_ascii_iterator" (.inl rfl)) ⟨_, Heap.get?_push_size _ rfl, rfl, rfl⟩ q)
end L2
namespace Rf
open PySem PySem.Spec PyProof.Rows L2
/-- what is frozen stands -/
def Kp (F : Addr → Prop) (H H1 : Hp) : Prop := ∀ a o, F a → H a = some o → H1 a = some o
/-- an iterator that gives xs, while what is frozen stands -/
structure JOk (K : PySem.W.Frag) (fnA : Nat → Option Addr) (H0 : Hp) (F : Addr → Prop) (H : Hp) (xs : List Val) (J : L2.It) : Prop where
  go : ∀ i H1, i < xs.length → Kp F H H1 → J.go i H1
  stop : ∀ H1, Kp F H H1 → J.stop xs.length H1
  yld : ∀ i H1 V H2 x F1, xs[i]? = some x → Kp F H H1 → (∀ a, F a → F1 a) → (∀ a, F1 a → ∃ o, H1 a = some o) → J.yld i H1 V H2 → ∃ F2, Ext M0 F1 H1 F2 H2 ∧ (∀ a, F2 a → ∃ o, H2 a = some o) ∧ FR K fnA F2 H2 x V
theorem back_J {K : PySem.W.Frag} {fnA : Nat → Option Addr} : Back (JOk K fnA) := fun _ _ _ _ _ _ _ h => ⟨h.go, h.stop, h.yld⟩
section
variable {p : Prog} {n : Nat} {fnA exA : Nat → Option Addr} {X : Cx} {W : WX} {nm : Nm} {O : List Nat} {c : Cfg}
section
variable {K : PySem.W.Frag} {F F1 : Addr → Prop} {H0 H H1 : Hp}
theorem FR.kp {v : Val} {u : V} (h : FR K fnA F H v u) (k : Kp F H H1) : FR K fnA F H1 v u := h.mono (fun _ => id) k
theorem FRs.kp {v : List Val} {u : List V} (h : FRs K fnA F H v u) (k : Kp F H H1) : FRs K fnA F H1 v u := h.mono (fun _ => id) k
theorem jok_list {a : Addr} {us : List V} {xs : List Val} (s : SLst K F H a us) (r : FRs K fnA F H xs us) : JOk K fnA H0 F H xs (Itl K a) where
  go := fun i H1 hi k => ⟨us, us[i]'(by rw [← r.len]; exact hi), (s.mono (fun _ => id) k).sq, by simp⟩
  stop := fun H1 k => ⟨us, (s.mono (fun _ => id) k).sq, by rw [← r.len]; exact Nat.le_refl _⟩
  yld := fun i H1 V H2 x F1 e k hF fo y => by
    obtain ⟨rfl, y⟩ := y
    obtain ⟨u, eu, fr⟩ := r.get e
    have := y us (s.mono (fun _ => id) k).sq
    rw [eu] at this; cases this
    exact ⟨F1, .refl, fo, (fr.kp k).mono hF fun _ _ _ e => e⟩
theorem jok_tup {a : Addr} {us : List V} {xs : List Val} (s : STup K F H a us) (r : FRs K fnA F H xs us) : JOk K fnA H0 F H xs (Itt K a) where
  go := fun i H1 hi k => ⟨us, us[i]'(by rw [← r.len]; exact hi), (s.mono (fun _ => id) k).sq, by simp⟩
  stop := fun H1 k => ⟨us, (s.mono (fun _ => id) k).sq, by rw [← r.len]; exact Nat.le_refl _⟩
  yld := fun i H1 V H2 x F1 e k hF fo y => by
    obtain ⟨rfl, y⟩ := y
    obtain ⟨u, eu, fr⟩ := r.get e
    have := y us (s.mono (fun _ => id) k).sq
    rw [eu] at this; cases this
    exact ⟨F1, .refl, fo, (fr.kp k).mono hF fun _ _ _ e => e⟩
theorem jok_str {z : Str} : JOk K fnA H0 F H (z.cps.toList.map fun c => Val.str ⟨#[c]⟩) (Its z) where
  go := fun i H1 hi k => show i < z.cps.size by simpa using hi
  stop := fun H1 k => by simp [Its]
  yld := fun i H1 V H2 x F1 e k hF fo y => by
    obtain ⟨rfl, d, ed, rfl⟩ := y
    rw [List.getElem?_map] at e
    have : z.cps.toList[i]? = some d := by simpa using ed
    rw [this] at e
    cases e
    exact ⟨F1, .refl, fo, .str _⟩
theorem rangeV_len {lo : Int} {n : Nat} {k : Int} : (rangeV lo n k).length = n := by unfold rangeV; rw [List.length_map, List.length_range]
theorem rangeV_get {lo : Int} {n i : Nat} {k : Int} {x : Val} (e : (rangeV lo n k)[i]? = some x) : x = .int (lo + (i : Nat) * k) := by
  unfold rangeV at e
  rw [List.getElem?_map] at e
  cases e2 : (List.range n)[i]? with
  | none => rw [e2] at e; cases e
  | some j =>
    rw [e2] at e
    obtain ⟨h1, h2⟩ := List.getElem?_eq_some_iff.mp e2
    rw [List.getElem_range] at h2
    subst h2
    cases e; rfl
theorem jok_rng {lo : Int} {n : Nat} : JOk K fnA H0 F H (rangeV lo n 1) (Itr lo n) where
  go := fun i H1 hi k => by rw [rangeV_len] at hi; exact hi
  stop := fun H1 k => by rw [rangeV_len]; exact Nat.le_refl _
  yld := fun i H1 V H2 x F1 e k hF fo y => by
    obtain ⟨rfl, rfl⟩ := y
    rw [rangeV_get e, Int.mul_one]
    exact ⟨F1, .refl, fo, .int _⟩
theorem jok_rngC {lo d : Int} {n : Nat} : JOk K fnA H0 F H (rangeV lo n d) (Itc lo d n) where
  go := fun i H1 hi k => by rw [rangeV_len] at hi; exact hi
  stop := fun H1 k => by rw [rangeV_len]; exact Nat.le_refl _
  yld := fun i H1 V H2 x F1 e k hF fo y => by
    obtain ⟨rfl, rfl⟩ := y
    rw [rangeV_get e]
    exact ⟨F1, .refl, fo, .int _⟩
theorem enumV_get : ∀ {xs : List Val} {k i : Nat} {x : Val}, (enumV k xs)[i]? = some x → ∃ y, xs[i]? = some y ∧ x = .tup [.int ((k + i : Nat) : Int), y]
  | [], k, i, x, e => by simp [enumV] at e
  | y :: ys, k, 0, x, e => by
    simp [enumV] at e
    exact ⟨y, rfl, e.symm⟩
  | y :: ys, k, i + 1, x, e => by
    simp only [enumV, List.getElem?_cons_succ] at e
    obtain ⟨z, h1, h2⟩ := enumV_get e
    exact ⟨z, by simpa using h1, by rw [h2, show k + 1 + i = k + (i + 1) by omega]⟩
theorem enumV_len : ∀ {xs : List Val} {k : Nat}, (enumV k xs).length = xs.length
  | [], _ => rfl
  | _ :: ys, k => congrArg Nat.succ (enumV_len (xs := ys))
theorem zipV_get : ∀ {xs ys : List Val} {i : Nat} {x : Val}, (zipV xs ys)[i]? = some x → ∃ y z, xs[i]? = some y ∧ ys[i]? = some z ∧ x = .tup [y, z]
  | [], _, i, x, e => by simp [zipV] at e
  | _ :: _, [], i, x, e => by simp [zipV] at e
  | y :: ys, z :: zs, 0, x, e => by
    simp [zipV] at e
    exact ⟨y, z, rfl, rfl, e.symm⟩
  | y :: ys, z :: zs, i + 1, x, e => by
    simp only [zipV, List.getElem?_cons_succ] at e
    obtain ⟨a, b, h1, h2, h3⟩ := zipV_get e
    exact ⟨a, b, by simpa using h1, by simpa using h2, h3⟩
theorem zipV_len : ∀ {xs ys : List Val}, (zipV xs ys).length = min xs.length ys.length
  | [], ys => by simp [zipV]
  | _ :: _, [] => by simp [zipV]
  | _ :: xs, _ :: ys => by simp only [zipV, List.length_cons, zipV_len (xs := xs) (ys := ys)]; omega
/-- a new pair -/
theorem new_pair {T : Addr} {x y : V} {a b : Val} (hT : H T = none) (fo : ∀ a, F a → ∃ o, H a = some o) (ra : FR K fnA F H a x) (rb : FR K fnA F H b y) :
    ∃ F2, Ext M0 F H F2 (upd H T (.tup [x, y])) ∧ (∀ a, F2 a → ∃ o, upd H T (.tup [x, y]) a = some o) ∧ FR K fnA F2 (upd H T (.tup [x, y])) (.tup [a, b]) (.ref T) :=
  ⟨fun c => F c ∨ c = T, .new hT, fok_new fo hT, .tup (.inl ⟨.inr rfl, .inl upd_same⟩) (.cons (ra.ext (.new hT) fun _ _ => id) (.cons (rb.ext (.new hT) fun _ _ => id) .nil))⟩
theorem jok_enum {a : Addr} {us : List V} {xs : List Val} (s : SLst K F H a us) (r : FRs K fnA F H xs us) : JOk K fnA H0 F H (enumV 0 xs) (Ite K a) where
  go := fun i H1 hi k => by
    rw [enumV_len] at hi
    exact ⟨us, us[i]'(by rw [← r.len]; exact hi), (s.mono (fun _ => id) k).sq, by simp⟩
  stop := fun H1 k => ⟨us, (s.mono (fun _ => id) k).sq, by rw [enumV_len, ← r.len]; exact Nat.le_refl _⟩
  yld := fun i H1 V H2 x F1 e k hF fo y => by
    obtain ⟨T, w, rfl, hT, rfl, y⟩ := y
    obtain ⟨v, ev, rfl⟩ := enumV_get e
    obtain ⟨u, eu, fr⟩ := r.get ev
    have := y us (s.mono (fun _ => id) k).sq
    rw [eu] at this; cases this
    rw [Nat.zero_add]
    exact new_pair hT fo (.int _) ((fr.kp k).mono hF fun _ _ _ e => e)
theorem jok_zip {a b : Addr} {us ws : List V} {xs ys : List Val} (s : SLst K F H a us) (r : FRs K fnA F H xs us) (s2 : SLst K F H b ws) (r2 : FRs K fnA F H ys ws) : JOk K fnA H0 F H (zipV xs ys) (Itz K a b) where
  go := fun i H1 hi k => by
    rw [zipV_len] at hi
    exact ⟨us, ws, us[i]'(by rw [← r.len]; omega), ws[i]'(by rw [← r2.len]; omega), (s.mono (fun _ => id) k).sq, (s2.mono (fun _ => id) k).sq, by simp, by simp⟩
  stop := fun H1 k => ⟨us, ws, (s.mono (fun _ => id) k).sq, (s2.mono (fun _ => id) k).sq, by rw [zipV_len, ← r.len, ← r2.len]; omega⟩
  yld := fun i H1 V H2 x F1 e k hF fo y => by
    obtain ⟨T, w, w2, rfl, hT, rfl, y1, y2⟩ := y
    obtain ⟨v, v2, ev, ev2, rfl⟩ := zipV_get e
    obtain ⟨u, eu, fr⟩ := r.get ev
    obtain ⟨u2, eu2, fr2⟩ := r2.get ev2
    have := y1 us (s.mono (fun _ => id) k).sq
    rw [eu] at this; cases this
    have := y2 ws (s2.mono (fun _ => id) k).sq
    rw [eu2] at this; cases this
    exact new_pair hT fo ((fr.kp k).mono hF fun _ _ _ e => e) ((fr2.kp k).mono hF fun _ _ _ e => e)
theorem jok_zipT {a b : Addr} {us ws : List V} {xs ys : List Val} (s : STup K F H a us) (r : FRs K fnA F H xs us) (s2 : STup K F H b ws) (r2 : FRs K fnA F H ys ws) : JOk K fnA H0 F H (zipV xs ys) (RZ.ItzT K a b) where
  go := fun i H1 hi k => by
    rw [zipV_len] at hi
    exact ⟨us, ws, us[i]'(by rw [← r.len]; omega), ws[i]'(by rw [← r2.len]; omega), (s.mono (fun _ => id) k).sq, (s2.mono (fun _ => id) k).sq, by simp, by simp⟩
  stop := fun H1 k => ⟨us, ws, (s.mono (fun _ => id) k).sq, (s2.mono (fun _ => id) k).sq, by rw [zipV_len, ← r.len, ← r2.len]; omega⟩
  yld := fun i H1 V H2 x F1 e k hF fo y => by
    obtain ⟨T, w, w2, rfl, hT, rfl, y1, y2⟩ := y
    obtain ⟨v, v2, ev, ev2, rfl⟩ := zipV_get e
    obtain ⟨u, eu, fr⟩ := r.get ev
    obtain ⟨u2, eu2, fr2⟩ := r2.get ev2
    have := y1 us (s.mono (fun _ => id) k).sq
    rw [eu] at this; cases this
    have := y2 ws (s2.mono (fun _ => id) k).sq
    rw [eu2] at this; cases this
    exact new_pair hT fo ((fr.kp k).mono hF fun _ _ _ e => e) ((fr2.kp k).mono hF fun _ _ _ e => e)
end
abbrev PIv (fnA exA : Nat → Option Addr) (X : Cx) (W : WX) (O : List Nat) (c : Cfg) (it : Rf.It) (tg e : Expr) : Prop := PI X tg e (Rd X.K fnA exA O W (JOk X.K fnA) (evIt c it))
theorem i_seq {a : E} {tg x : Expr} (ha : PEv fnA exA X W O c a x) : PIv fnA exA X W O c (.seq a) tg x := (pi_any ha).weak fun σ H Q ⟨F, ρ, s, w⟩ => by
  refine ⟨F, ρ, s, RdR.bind back_J w fun v ρ1 F1 H1 u e x1 r1 s1 m1 h1 => ?_⟩
  cases r1 with
  | lst sa ra => exact .inl ⟨_, rfl, ⟨_, sa.sq⟩, h1.here s1 (jok_list sa ra)⟩
  | tup sa ra => exact .inr (.inl ⟨_, rfl, ⟨_, sa.sq⟩, h1.here s1 (jok_tup sa ra)⟩)
  | str z => exact .inr (.inr ⟨z, rfl, h1.here s1 jok_str⟩)
  | _ => exact h1.elim
theorem small_ok {i : Int} (h : smallI i = true) : -(2 ^ 62) ≤ i ∧ i < 2 ^ 62 := by unfold smallI at h; exact of_decide_eq_true h
theorem i_r1 {a : E} {tg y : Expr} {x : Str} {np pos : Pos} (xk : XOk p n fnA exA X W) (xn : XN X nm) (hx : x = "range") (hb : blt p nm x = true) (ha : PEv fnA exA X W O c a y) (hy : noStar y = true) : PIv fnA exA X W O c (.r1 a) tg (.Call (.Name x np) [y] [] pos) := by
  subst hx
  obtain ⟨hg, hm⟩ := blt_ok xk xn hb
  refine (pi_range1 hg hm (pa_cons ha pa_nil (noStar_ok hy _ _)) (noStar_ok hy _ _)).weak fun σ H Q ⟨F, ρ, s, w⟩ => ?_
  refine ⟨F, ρ, s, RdR.bind back_J w fun v ρ1 F1 H1 u e x1 r1 s1 m1 h1 => ?_⟩
  cases r1 with
  | int j =>
    dsimp only at h1
    split at h1
    · rename_i hj
      obtain ⟨q1, q2⟩ := small_ok hj
      exact ⟨j, rfl, q1, q2, h1.here s1 jok_rng⟩
    · exact h1.elim
  | _ => exact h1.elim
theorem i_r2 {a b : E} {tg y z : Expr} {x : Str} {np pos : Pos} (xk : XOk p n fnA exA X W) (xn : XN X nm) (hx : x = "range") (hb : blt p nm x = true) (ha : PEv fnA exA X W O c a y) (hb2 : PEv fnA exA X W O c b z) (hy : noStar y = true) (hz : noStar z = true) : PIv fnA exA X W O c (.r2 a b) tg (.Call (.Name x np) [y, z] [] pos) := by
  subst hx
  obtain ⟨hg, hm⟩ := blt_ok xk xn hb
  refine (pi_range2 hg hm (pa_cons ha (pa_cons hb2 pa_nil (noStar_ok hz _ _)) (noStar_ok hy _ _)) (by rw [noStar_ok hy, noStar_ok hz]; rfl) (noStar_ok hz _ _)).weak fun σ H Q ⟨F, ρ, s, w⟩ => ?_
  refine ⟨F, ρ, s, RdR.bind back_J w fun v ρ1 F1 H1 u e x1 r1 s1 m1 h1 => ?_⟩
  refine ⟨F1, ρ1, s1, RdR.bind back_J h1 fun v2 ρ2 F2 H2 u2 e2 x2 r2 s2 m2 h2 => ?_⟩
  cases r1 with
  | int i =>
    cases r2 with
    | int j =>
      dsimp only at h2
      split at h2
      · rename_i hj
        rw [Bool.and_eq_true] at hj
        obtain ⟨q1, q2⟩ := small_ok hj.1
        obtain ⟨q3, q4⟩ := small_ok hj.2
        exact ⟨i, j, rfl, ⟨q1, q2, q3, q4⟩, h2.here s2 jok_rng⟩
      · exact h2.elim
    | _ => exact h2.elim
  | _ => cases r2 <;> exact h2.elim
theorem i_r3 {a b d : E} {tg y z w0 : Expr} {x : Str} {np pos : Pos} (xk : XOk p n fnA exA X W) (xn : XN X nm) (hx : x = "range") (hb : blt p nm x = true) (ha : PEv fnA exA X W O c a y) (hb2 : PEv fnA exA X W O c b z) (hd : PEv fnA exA X W O c d w0) (hy : noStar y = true) (hz : noStar z = true) (hw : noStar w0 = true) :
    PIv fnA exA X W O c (.r3 a b d) tg (.Call (.Name x np) [y, z, w0] [] pos) := by
  subst hx
  obtain ⟨hg, hm⟩ := blt_ok xk xn hb
  refine (pi_range3 hg hm (pa_cons ha (pa_cons hb2 (pa_cons hd pa_nil (noStar_ok hw _ _)) (noStar_ok hz _ _)) (noStar_ok hy _ _)) (noStar_ok hy _ _) (backTo_none (by simp [hz, hw]))).weak fun σ H Q ⟨F, ρ, s, w⟩ => ?_
  refine ⟨F, ρ, s, RdR.bind back_J w fun v ρ1 F1 H1 u e x1 r1 s1 m1 h1 => ?_⟩
  refine ⟨F1, ρ1, s1, RdR.bind back_J h1 fun v2 ρ2 F2 H2 u2 e2 x2 r2 s2 m2 h2 => ?_⟩
  refine ⟨F2, ρ2, s2, RdR.bind back_J h2 fun v3 ρ3 F3 H3 u3 e3 x3 r3 s3 m3 h3 => ?_⟩
  cases r1 with
  | int i =>
    cases r2 with
    | int j =>
      cases r3 with
      | int k =>
        dsimp only at h3
        unfold rng3 at h3
        split at h3
        · rename_i hc
          exact ⟨i, j, k, _, rfl, hc, h3.here s3 jok_rngC⟩
        · exact h3.elim
      | _ => exact h3.elim
    | _ => cases r3 <;> exact h3.elim
  | _ => cases r2 <;> cases r3 <;> exact h3.elim
theorem i_enu {a : E} {y : Expr} {es : List Expr} {kk : Nat} {tp : Pos} {x : Str} {np pos : Pos} (xk : XOk p n fnA exA X W) (xn : XN X nm) (hx : x = "enumerate") (hb : blt p nm x = true) (ha : PEv fnA exA X W O c a y) (hy : noStar y = true) : PIv fnA exA X W O c (.enu a) (.Tuple es kk tp) (.Call (.Name x np) [y] [] pos) := by
  subst hx
  obtain ⟨hg, hm⟩ := blt_ok xk xn hb
  refine (pi_enum hg hm (pa_cons ha pa_nil (noStar_ok hy _ _)) (noStar_ok hy _ _)).weak fun σ H Q ⟨F, ρ, s, w⟩ => ?_
  refine ⟨F, ρ, s, RdR.bind back_J w fun v ρ1 F1 H1 u e x1 r1 s1 m1 h1 => ?_⟩
  cases r1 with
  | lst sa ra => exact ⟨_, _, rfl, sa.sq, h1.here s1 (jok_enum sa ra)⟩
  | _ => exact h1.elim
theorem i_zip {a b : E} {y z : Expr} {es : List Expr} {kk : Nat} {tp : Pos} {x : Str} {np pos : Pos} (xk : XOk p n fnA exA X W) (xn : XN X nm) (hx : x = "zip") (hb : blt p nm x = true) (ha : PEv fnA exA X W O c a y) (hb2 : PEv fnA exA X W O c b z) (hy : noStar y = true) (hz : noStar z = true) :
    PIv fnA exA X W O c (.zip a b) (.Tuple es kk tp) (.Call (.Name x np) [y, z] [] pos) := by
  subst hx
  obtain ⟨hg, hm⟩ := blt_ok xk xn hb
  refine (RZ.pi_zipA hg hm (pa_cons ha (pa_cons hb2 pa_nil (noStar_ok hz _ _)) (noStar_ok hy _ _)) (noStar_ok hy _ _) (backTo_none (by simp [hz]))).weak fun σ H Q ⟨F, ρ, s, w⟩ => ?_
  refine ⟨F, ρ, s, RdR.bind back_J w fun v ρ1 F1 H1 u e x1 r1 s1 m1 h1 => ?_⟩
  refine ⟨F1, ρ1, s1, RdR.bind back_J h1 fun v2 ρ2 F2 H2 u2 e2 x2 r2 s2 m2 h2 => ?_⟩
  have r1 := r1.ext x2 s1.notMu
  cases r1 with
  | lst sa ra =>
    cases r2 with
    | lst sb rb => exact ⟨_, _, _, _, rfl, .inl ⟨sa.sq, sb.sq, h2.here s2 (jok_zip sa ra sb rb)⟩⟩
    | _ => exact h2.elim
  | tup sa ra =>
    cases r2 with
    | tup sb rb => exact ⟨_, _, _, _, rfl, .inr ⟨sa.sq, sb.sq, h2.here s2 (jok_zipT sa ra sb rb)⟩⟩
    | _ => exact h2.elim
  | _ => cases r2 <;> exact h2.elim
end
end Rf

set_option Elab.async false
set_option linter.all false
set_option maxRecDepth 100000
set_option maxHeartbeats 4000000
/-! The reflective layer, part M: targets, comprehensions. -/
namespace Rf
open PySem PySem.Spec PyProof.Rows L2
abbrev W0 : WX := fun _ _ _ _ => False
section
variable {p : Prog} {n : Nat} {fnA exA : Nat → Option Addr} {X : Cx} {W : WX} {nm : Nm} {O : List Nat} {c : Cfg}
/-! ### slots wiped, restored -/
theorem getV_set_ne {ρ : Env} {i j : Nat} {x : Option Val} (h : j ≠ i) : getV (ρ.set i x) j = getV ρ j := by
  unfold getV
  rw [List.getElem?_set_ne (Ne.symm h)]
theorem getV_set_none {ρ : Env} {i : Nat} : getV (ρ.set i none) i = none := by
  unfold getV
  by_cases hl : i < ρ.length
  · rw [List.getElem?_set_self hl]
  · rw [List.getElem?_eq_none (by rw [List.length_set]; omega)]
theorem wipe_get (ρ : Env) : ∀ (vs : List Nat) (i : Nat), getV (wipe ρ vs) i = if i ∈ vs then none else getV ρ i
  | [], i => by simp [wipe]
  | v :: vs, i => by
    have ih := wipe_get ρ vs i
    rw [wipe]
    by_cases h : i = v
    · subst h
      rw [getV_set_none, if_pos List.mem_cons_self]
    · rw [getV_set_ne h, ih]
      simp only [List.mem_cons, h, false_or]
theorem wipe_len (ρ : Env) : ∀ vs : List Nat, (wipe ρ vs).length = ρ.length
  | [] => rfl
  | v :: vs => by unfold wipe; rw [List.length_set, wipe_len ρ vs]
theorem restore_len (ρ ρ' : Env) : ∀ vs : List Nat, (restore ρ ρ' vs).length = ρ'.length
  | [] => rfl
  | v :: vs => by unfold restore; rw [List.length_set, restore_len ρ ρ' vs]
theorem restore_get {ρ ρ' : Env} (hl : ρ'.length = ρ.length) : ∀ (vs : List Nat) (i : Nat), getV (restore ρ ρ' vs) i = if i ∈ vs then getV ρ i else getV ρ' i
  | [], i => by simp [restore]
  | v :: vs, i => by
    have ih := restore_get hl vs i
    rw [restore]
    by_cases h : i = v
    · subst h
      rw [if_pos List.mem_cons_self]
      unfold getV
      by_cases hi : i < ρ.length
      · rw [List.getElem?_set_self (by rw [restore_len]; omega), List.getElem?_eq_getElem hi]
        rfl
      · rw [List.getElem?_eq_none (by rw [List.length_set, restore_len]; omega), List.getElem?_eq_none (by omega)]
    · rw [getV_set_ne h, ih]
      simp only [List.mem_cons, h, false_or]
theorem wipeU_get (σ : L2.St) : ∀ (vs : List Nat) (i : Nat), (L2.wipe σ vs)[i]? = if i ∈ vs then σ[i]?.map (fun _ => none) else σ[i]?
  | [], i => by simp [L2.wipe]
  | v :: vs, i => by
    have ih := wipeU_get σ vs i
    unfold L2.wipe
    by_cases h : i = v
    · subst h
      simp only [List.mem_cons, true_or, if_true]
      by_cases hl : i < σ.length
      · rw [List.getElem?_set_self (by rw [wipe_length]; exact hl), List.getElem?_eq_getElem hl]; rfl
      · rw [List.getElem?_eq_none (by rw [List.length_set, wipe_length]; omega), List.getElem?_eq_none (by omega)]; rfl
    · rw [List.getElem?_set_ne (Ne.symm h), ih]
      simp only [List.mem_cons, h, false_or]
theorem wipeU_eq {σ σ' : L2.St} {vs : List Nat} (hl : σ'.length = σ.length) (h : ∀ i, i ∉ vs → σ'[i]? = σ[i]?) : L2.wipe σ' vs = L2.wipe σ vs := by
  apply List.ext_getElem?
  intro i
  rw [wipeU_get, wipeU_get]
  by_cases hi : i ∈ vs
  · rw [if_pos hi, if_pos hi]
    by_cases hlt : i < σ.length
    · rw [List.getElem?_eq_getElem hlt, List.getElem?_eq_getElem (by omega)]; rfl
    · rw [List.getElem?_eq_none (by omega), List.getElem?_eq_none (by omega)]
  · rw [if_neg hi, if_neg hi, h i hi]
theorem disj_ok {O own : List Nat} (h : disj O own = true) : ∀ i, i ∈ own → i ∉ O := by
  unfold disj at h
  intro i hi hO
  have := List.all_eq_true.mp h i hi
  simp [hO] at this
section
variable {K : PySem.W.Frag} {F F' : Addr → Prop} {H H' : Hp} {σ : L2.St} {ρ : Env}
theorem St.wipe {own : List Nat} (s : St K fnA O F H σ ρ) (hd : ∀ i, i ∈ own → i ∉ O) : St K fnA O F H (L2.wipe σ own) (Rf.wipe ρ own) where
  fok := s.fok
  len := by rw [wipe_len, wipe_length]; exact s.len
  fz := fun i v e hi => by
    rw [wipe_get] at e
    split at e
    · cases e
    · rename_i h
      obtain ⟨u, e1, r⟩ := s.fz i v e hi
      exact ⟨u, by rw [wipeU_get, if_neg h]; exact e1, r⟩
  ow := fun i v e hi => by
    rw [wipe_get] at e
    split at e
    · cases e
    · rename_i h
      obtain ⟨u, e1, r⟩ := s.ow i v e hi
      exact ⟨u, by rw [wipeU_get, if_neg h]; exact e1, r⟩
  dj := fun i j vs ws a hi hj ei ej si sj => by
    have n1 : i ∉ own := fun h => hd i h hi
    have n2 : j ∉ own := fun h => hd j h hj
    rw [wipe_get, if_neg n1] at ei
    rw [wipe_get, if_neg n2] at ej
    rw [wipeU_get, if_neg n1] at si
    rw [wipeU_get, if_neg n2] at sj
    exact s.dj i j vs ws a hi hj ei ej si sj
theorem mu_wipe {own : List Nat} (hd : ∀ i, i ∈ own → i ∉ O) : ∀ a, Mu O (L2.wipe σ own) (Rf.wipe ρ own) a ↔ Mu O σ ρ a := fun a => by
  constructor
  · rintro ⟨i, vs, h1, h2, h3⟩
    have n1 : i ∉ own := fun h => hd i h h1
    rw [wipe_get, if_neg n1] at h2
    rw [wipeU_get, if_neg n1] at h3
    exact ⟨i, vs, h1, h2, h3⟩
  · rintro ⟨i, vs, h1, h2, h3⟩
    have n1 : i ∉ own := fun h => hd i h h1
    exact ⟨i, vs, h1, by rw [wipe_get, if_neg n1]; exact h2, by rw [wipeU_get, if_neg n1]; exact h3⟩
/-- the slots out of own as at the start, those in own as they were -/
theorem St.back {own : List Nat} {ρ' : Env} (s : St K fnA O F H σ ρ) (s' : St K fnA O F' H' (L2.wipe σ own) (Rf.wipe ρ' own)) (x : Ext (Mu O σ ρ) F H F' H') (m : Sm O (Rf.wipe ρ own) (Rf.wipe ρ' own)) (hd : ∀ i, i ∈ own → i ∉ O) :
    St K fnA O F' H' σ (restore ρ ρ' own) ∧ Sm O ρ (restore ρ ρ' own) := by
  have hl : ρ'.length = ρ.length := by have := m.len; rwa [wipe_len, wipe_len] at this
  have g := fun i => restore_get (ρ := ρ) (ρ' := ρ') hl own i
  refine ⟨⟨s'.fok, by rw [restore_len, hl]; exact s.len, fun i v e hi => ?_, fun i v e hi => ?_, fun i j vs ws a hi hj ei ej si sj => ?_⟩, ⟨by rw [restore_len]; exact hl, fun i hi => ?_, fun i vs hi e => ?_, fun i vs hi e => ?_⟩⟩
  · rw [g] at e
    by_cases h : i ∈ own
    · rw [if_pos h] at e
      obtain ⟨u, e1, r⟩ := s.fz i v e hi
      exact ⟨u, e1, r.ext x s.notMu⟩
    · rw [if_neg h] at e
      obtain ⟨u, e1, r⟩ := s'.fz i v (by rw [wipe_get, if_neg h]; exact e) hi
      rw [wipeU_get, if_neg h] at e1
      exact ⟨u, e1, r⟩
  · have h : i ∉ own := fun h => hd i h hi
    rw [g, if_neg h] at e
    obtain ⟨u, e1, r⟩ := s'.ow i v (by rw [wipe_get, if_neg h]; exact e) hi
    rw [wipeU_get, if_neg h] at e1
    exact ⟨u, e1, r⟩
  · have n1 : i ∉ own := fun h => hd i h hi
    have n2 : j ∉ own := fun h => hd j h hj
    rw [g, if_neg n1] at ei
    rw [g, if_neg n2] at ej
    exact s'.dj i j vs ws a hi hj (by rw [wipe_get, if_neg n1]; exact ei) (by rw [wipe_get, if_neg n2]; exact ej) (by rw [wipeU_get, if_neg n1]; exact si) (by rw [wipeU_get, if_neg n2]; exact sj)
  · rw [g]
    by_cases h : i ∈ own
    · rw [if_pos h]
    · rw [if_neg h]
      have := m.out i hi
      rwa [wipe_get, wipe_get, if_neg h, if_neg h] at this
  · have h : i ∉ own := fun h => hd i h hi
    rw [g, if_neg h] at e
    obtain ⟨ws, e2⟩ := m.own i vs hi (by rw [wipe_get, if_neg h]; exact e)
    rw [wipe_get, if_neg h] at e2
    exact ⟨ws, e2⟩
  · have h : i ∉ own := fun h => hd i h hi
    obtain ⟨ws, e2⟩ := m.bk i vs hi (by rw [wipe_get, if_neg h]; exact e)
    rw [wipe_get, if_neg h] at e2
    exact ⟨ws, by rw [g, if_neg h]; exact e2⟩
/-- another list of nobody's is changed -/
theorem St.other {D : Addr} {o : HO} (s : St K fnA O F H σ ρ) (hF : ¬ F D) (hM : ¬ Mu O σ ρ D) : St K fnA O F (upd H D o) σ ρ := by
  have kp : ∀ a o', F a → H a = some o' → upd H D o a = some o' := fun a o' f e => by rw [upd_ne (fun z : a = D => hF (z ▸ f))]; exact e
  refine ⟨fun a f => ?_, s.len, fun i v e hi => ?_, fun i v e hi => ?_, s.dj⟩
  · obtain ⟨u, e⟩ := s.fok a f
    exact ⟨u, kp a u f e⟩
  · obtain ⟨u, e1, r⟩ := s.fz i v e hi
    exact ⟨u, e1, r.mono (fun _ => id) kp⟩
  · obtain ⟨u, e1, r⟩ := s.ow i v e hi
    refine ⟨u, e1, ?_⟩
    rcases r with ⟨vs, us, a, rfl, rfl, hn, ea, rs⟩ | ⟨hn, r⟩
    · refine .inl ⟨vs, us, a, rfl, rfl, hn, ?_, rs.mono (fun _ => id) kp⟩
      rw [upd_ne fun z : a = D => hM (by subst z; exact ⟨i, vs, hi, e, e1⟩)]; exact ea
    · exact .inr ⟨hn, r.mono (fun _ => id) kp⟩
end
/-! ### targets -/
def gNs : List Nat → TGs
  | [] => gNil
  | i :: is => gCons (gName i) (gNs is)
def gT (K : PySem.W.Frag) : Tg → TG
  | .name i => gName i
  | .tup is => gTup K is.length (gNs is)
theorem pg_nm {i : Nat} {e : Expr} (xn : XN X nm) (nd : X.N.Nodup) (h : tgB nm i e = true) : PG X e (gName i) := by
  unfold tgB at h
  split at h
  · rw [Bool.and_eq_true, decide_eq_true_eq] at h
    obtain ⟨h1, h2⟩ := h
    split at h2
    · rename_i hl
      exact pg_name nd (by rw [xn.hN]; exact h1) (.inl (by rw [xn.hs]; exact hl)) (.inr (by rw [xn.hs]; exact hl))
    · rename_i hl
      exact pg_name nd (by rw [xn.hN]; exact h1) (.inr (by rw [xn.hs]; exact hl)) (.inl (by rw [xn.hf]; exact h2))
    · cases h2
  · cases h
theorem tgB_star {i : Nat} {e : Expr} (h : tgB nm i e = true) (es : List Expr) (env : PySem.Env) : assignEach (e :: es) env = (false, PySem.assign e env) :: assignEach es env := by
  unfold tgB at h
  split at h
  · rfl
  · cases h
theorem pgs_nms (xn : XN X nm) (nd : X.N.Nodup) : ∀ {is : List Nat} {es : List Expr}, tgsB nm is es = true → PGs X es (gNs is) ∧ (assignEach es X.env).length = is.length ∧ (assignEach es X.env).findIdx? (·.1) = none
  | [], [], _ => ⟨pgs_nil, rfl, rfl⟩
  | i :: is, e :: es, h => by
    simp only [tgsB, Bool.and_eq_true] at h
    obtain ⟨h1, h2, h3⟩ := pgs_nms xn nd h.2
    refine ⟨pgs_cons (pg_nm xn nd h.1) h1 (by rw [tgB_star h.1]; rfl), ?_, ?_⟩
    · rw [tgB_star h.1, List.length_cons, List.length_cons, h2]
    · rw [tgB_star h.1, List.findIdx?_cons]
      simp [h3]
theorem pg_T {t : Tg} {e : Expr} (xk : XOk p n fnA exA X W) (xn : XN X nm) (h : chkT nm t e = true) : PG X e (gT X.K t) := by
  unfold chkT at h
  split at h
  · exact pg_nm xn xk.nd h
  · obtain ⟨h1, h2, h3⟩ := pgs_nms xn xk.nd h
    exact pg_tup xk.calm h1 h2 h3
  · cases h
section
variable {K : PySem.W.Frag} {F F' : Addr → Prop} {H H' : Hp} {σ : L2.St} {ρ : Env}
/-- a slot that is not owned is given a value -/
theorem St.put {i : Nat} {v : Val} {u : V} (s : St K fnA O F H σ ρ) (hi : i ∉ O) (r : FR K fnA F H v u) : St K fnA O F H (σ.set i (some u)) (setV ρ i v) := by
  have g : ∀ j, getV (setV ρ i v) j = if j = i ∧ i < ρ.length then some v else getV ρ j := fun j => by
    unfold getV setV
    by_cases hj : j = i
    · subst hj
      by_cases hl : j < ρ.length
      · rw [if_pos ⟨rfl, hl⟩, List.getElem?_set_self hl]
      · rw [if_neg (fun z => hl z.2), List.getElem?_eq_none (by rw [List.length_set]; omega), List.getElem?_eq_none (by omega)]
    · rw [if_neg (fun z => hj z.1), List.getElem?_set_ne (Ne.symm hj)]
  refine ⟨s.fok, by unfold setV; rw [List.length_set, List.length_set]; exact s.len, fun j w e hj => ?_, fun j w e hj => ?_, fun j k vs ws a hj hk ej ek sj sk => ?_⟩
  · rw [g] at e
    split at e
    · rename_i h
      cases e
      refine ⟨u, ?_, r⟩
      rw [h.1, List.getElem?_set_self (by rw [← s.len]; exact h.2)]
    · rename_i h
      obtain ⟨u2, e1, r2⟩ := s.fz j w e hj
      refine ⟨u2, ?_, r2⟩
      by_cases z : j = i
      · subst z
        have : j < σ.length := (List.getElem?_eq_some_iff.mp e1).1
        exact absurd ⟨rfl, by rw [s.len]; exact this⟩ h
      · rw [List.getElem?_set_ne (Ne.symm z)]; exact e1
  · have z : j ≠ i := fun z => hi (z ▸ hj)
    rw [g, if_neg fun h => z h.1] at e
    obtain ⟨u2, e1, r2⟩ := s.ow j w e hj
    exact ⟨u2, by rw [List.getElem?_set_ne (Ne.symm z)]; exact e1, r2⟩
  · have z : j ≠ i := fun z => hi (z ▸ hj)
    have z2 : k ≠ i := fun z => hi (z ▸ hk)
    rw [g, if_neg fun h => z h.1] at ej
    rw [g, if_neg fun h => z2 h.1] at ek
    rw [List.getElem?_set_ne (Ne.symm z)] at sj
    rw [List.getElem?_set_ne (Ne.symm z2)] at sk
    exact s.dj j k vs ws a hj hk ej ek sj sk
theorem St.putAll : ∀ {is : List Nat} {vs : List Val} {us : List V} {σ : L2.St} {ρ ρ' : Env}, St K fnA O F H σ ρ → (∀ i ∈ is, i ∉ O) → FRs K fnA F H vs us → setAll is vs ρ = some ρ' →
    ∃ σ', St K fnA O F H σ' ρ' ∧ σ'.length = σ.length ∧ (∀ j, j ∉ is → σ'[j]? = σ[j]?) ∧ (∀ j, j ∉ is → getV ρ' j = getV ρ j) ∧ ρ'.length = ρ.length ∧ ∀ Q : L2.St → Hp → Prop, Q σ' H → gNs is us σ H Q
  | [], [], _, σ, ρ, ρ', s, _, r, e => by
    cases r
    cases e
    exact ⟨σ, s, rfl, fun _ _ => rfl, fun _ _ => rfl, rfl, fun Q q => ⟨rfl, q⟩⟩
  | [], _ :: _, _, _, _, _, _, _, _, e => by cases e
  | _ :: _, [], _, _, _, _, _, _, _, e => by cases e
  | i :: is, v :: vs, _, σ, ρ, ρ', s, hi, .cons r rs, e => by
    obtain ⟨σ', s', h1, h2, h3, h4, h5⟩ := St.putAll (s.put (hi i List.mem_cons_self) r) (fun j hj => hi j (List.mem_cons_of_mem _ hj)) rs e
    refine ⟨σ', s', by rw [h1, List.length_set], fun j hj => ?_, fun j hj => ?_, by rw [h4]; unfold setV; rw [List.length_set], fun Q q => ⟨_, _, rfl, h5 Q q⟩⟩
    · simp only [List.mem_cons, not_or] at hj
      rw [h2 j hj.2, List.getElem?_set_ne (Ne.symm hj.1)]
    · simp only [List.mem_cons, not_or] at hj
      rw [h3 j hj.2]
      unfold getV setV
      rw [List.getElem?_set_ne (Ne.symm hj.1)]
theorem St.assign {t : Tg} {v : Val} {u : V} {ρ' : Env} (s : St K fnA O F H σ ρ) (hi : ∀ i ∈ tgS t, i ∉ O) (r : FR K fnA F H v u) (e : Rf.assign t v ρ = some ρ') :
    ∃ σ', St K fnA O F H σ' ρ' ∧ σ'.length = σ.length ∧ (∀ j, j ∉ tgS t → σ'[j]? = σ[j]?) ∧ (∀ j, j ∉ tgS t → getV ρ' j = getV ρ j) ∧ ρ'.length = ρ.length ∧ ∀ Q : L2.St → Hp → Prop, Q σ' H → gT K t u σ H Q := by
  cases t with
  | name i =>
    cases e
    refine ⟨σ.set i (some u), s.put (hi i (by simp [tgS])) r, by rw [List.length_set], fun j hj => ?_, fun j hj => ?_, by unfold setV; rw [List.length_set], fun Q q => q⟩
    · have : j ≠ i := by simpa [tgS] using hj
      rw [List.getElem?_set_ne (Ne.symm this)]
    · have : j ≠ i := by simpa [tgS] using hj
      unfold getV setV
      rw [List.getElem?_set_ne (Ne.symm this)]
  | tup is =>
    cases r with
    | @tup a us vs sq rs =>
      have e : setAll is vs ρ = some ρ' := e
      obtain ⟨σ', h⟩ := St.putAll s hi rs e
      obtain ⟨s', h1, h2, h3, h4, h5⟩ := h
      refine ⟨σ', s', h1, h2, h3, h4, fun Q q => ⟨a, us, rfl, sq.sq, ?_, h5 Q q⟩⟩
      rw [← rs.len]
      have : ∀ {is : List Nat} {vs : List Val} {ρ ρ' : Env}, setAll is vs ρ = some ρ' → vs.length = is.length := fun {is} => by
        induction is with
        | nil => intro vs ρ ρ' e; cases vs with
          | nil => rfl
          | cons a b => cases e
        | cons i is ih => intro vs ρ ρ' e; cases vs with
          | nil => cases e
          | cons a b => exact congrArg Nat.succ (ih e)
      exact this e
    | _ => cases e
end
/-! ### blocks -/
theorem XOk.blk (xk : XOk p n fnA exA X W) {s : Shared} {H : Hp} {scope : Scope} {env : PySem.Env} {fp : List Addr} : XOk p n fnA exA (X.blk s H scope env fp) W0 where
  calm := xk.calm
  nd := xk.nd
  room := xk.room
  tk := fun u s' x => by
    obtain ⟨_, _, _, _, _, _, _, _, _, _, _, _, _, _, _, _, w⟩ := x
    exact w
  po := PassesOwn.never
  fns := fun f fd e => let ⟨fa, dt, h⟩ := xk.fns f fd e; ⟨fa, dt, ⟨h.at_, h.mg, h.kp, h.ok, h.bd, h.kb⟩⟩
  vals := xk.vals
  blt := xk.blt
  gcd := xk.gcd
theorem XN.blk (xn : XN X nm) {s : Shared} {H : Hp} {scope : Scope} {fp : List Addr} {C : Addr} {cl : List (Str × Addr)} (hk : scope.kind = .function) : XN (X.blk s H scope (compEnvC scope cl C X.env) fp) (inNm nm scope) where
  hN := xn.hN
  hs := by
    show (relabel scope X.env).names = _
    unfold relabel inNm
    simp only
    congr 1
    funext ⟨m, k⟩
    have e1 : (X.env.scope.kind == ScopeKind.function) = true := by rw [xn.hk]; rfl
    have e2 : X.env.kindOf m = nm.nms.lookup m := by show X.env.scope.names.lookup m = _; rw [xn.hs]
    rw [e1, e2, Bool.and_true]
  hk := hk
  hf := by
    funext x
    rfl
theorem blkB_ok {scope : Scope} {own : List Nat} (xn : XN X nm) (h : blkB nm scope own = true) : BlkOk X.N X.env.scope scope (ownP nm own) ∧ (ownP nm own).map (·.2) = own ∧ scope.kind = .function := by
  unfold blkB at h
  rw [Bool.and_eq_true, decide_eq_true_eq] at h
  have b := blkOk_by h.1
  refine ⟨⟨b.kind, b.uniq, fun q hq => by rw [xn.hN]; exact b.ix q hq, fun y hy e => ?_, fun y hy e => ?_⟩, h.2, b.kind⟩
  · have := b.free y hy e
    rw [xn.hs]; exact this
  · rw [xn.hN]; exact b.own y hy e
/-- tests of a comprehension -/
abbrev PTsv (fnA exA : Nat → Option Addr) (X : Cx) (W : WX) (O : List Nat) (c : Cfg) (m : Es) (e : List Expr) : Prop := PTs X e (Rd X.K fnA exA O W REq (evIf c m))
theorem s_ifs0 : PTsv fnA exA X W O c .nil [] := by
  refine ⟨fun pins s σ H Q I ⟨F, ρ, st, w⟩ => pts_nil.run pins s σ H Q I ?_⟩
  exact RdR.here (v := true) w st rfl
theorem s_ifs1 {a : E} {x : Expr} (ha : PTv fnA exA X W O c a x) : PTsv fnA exA X W O c (.cons a .nil) [x] := by
  refine ⟨fun pins s σ H Q I ⟨F, ρ, st, w⟩ => (pts_one ha).run pins s σ H Q I ⟨F, ρ, st, ?_⟩⟩
  have w : RdR X.K fnA exA O W REq ((evE c a ρ).bind fun v ρ => match truthy v with
    | some true => .ok true ρ
    | some false => .ok false ρ
    | none => .bad) F H σ ρ Q := w
  unfold evB
  revert w
  cases evE c a ρ with
  | bad => exact id
  | exc x => exact id
  | ok v ρ1 =>
    simp only [Rs.bind]
    cases truthy v with
    | none => exact id
    | some k => cases k <;> exact id
end
end Rf

set_option Elab.async false
set_option linter.all false
set_option maxRecDepth 100000
set_option maxHeartbeats 4000000
/-! The reflective layer, part N: comprehensions. -/
namespace Rf
open PySem PySem.Spec PyProof.Rows L2
section
variable {K : PySem.W.Frag} {fnA exA : Nat → Option Addr} {O : List Nat} {c : Cfg}
/-- the new list at D holds done -/
structure BD (K : PySem.W.Frag) (fnA : Nat → Option Addr) (D : Addr) (F : Addr → Prop) (H : Hp) (dn : List Val) : Prop where
  nF : ¬ F D
  at_ : ∃ us, H D = some (.lst us) ∧ FRs K fnA F H dn us
theorem Rs.bind_ok {α β : Type} {r : Rs α} {f : α → Env → Rs β} {v : β} {ρ : Env} (h : r.bind f = .ok v ρ) : ∃ u ρ1, r = .ok u ρ1 ∧ f u ρ1 = .ok v ρ := by
  cases r with
  | bad => cases h
  | exc x => cases h
  | ok u ρ1 => exact ⟨u, ρ1, rfl, h⟩
theorem loop {own : List Nat} {tg : Tg} {step : Val → Env → Rs (List Val)} {body : Env → Rs (List Val)} {D : Addr} {B : L2.St → Hp → (Hp → Prop) → Prop} {σb : L2.St} {J : L2.It} {xs : List Val} {H0 : Hp} {FJ : Addr → Prop} {HJ : Hp}
    (hstep : ∀ x ρ, step x ρ = match assign tg x (wipe ρ own) with | none => .bad | some ρ => body ρ) (hJ : JOk K fnA H0 FJ HJ xs J) (hd : ∀ i, i ∈ own → i ∉ O) (ht : ∀ i, i ∈ tgS tg → i ∈ own)
    (hB : ∀ σ2 F2 H2 ρ2 dn vs ρ3, St K fnA O F2 H2 σ2 ρ2 → BD K fnA D F2 H2 dn → ¬ Mu O σ2 ρ2 D → body ρ2 = .ok vs ρ3 → dn.length + vs.length ≤ sizeLine → ∀ Nx : Hp → Prop,
      (∀ F3 H3, Ext (fun a => Mu O σ2 ρ2 a ∨ a = D) F2 H2 F3 H3 → St K fnA O F3 H3 (L2.wipe σ2 own) (wipe ρ3 own) → Sm O (wipe ρ2 own) (wipe ρ3 own) → BD K fnA D F3 H3 (dn ++ vs) → Nx H3) → B σ2 H2 Nx)
    {F : Addr → Prop} {H : Hp} {ρ ρ' : Env} {vs dn : List Val} (he : forC step xs ρ = .ok vs ρ') (s : St K fnA O F H (L2.wipe σb own) (wipe ρ own)) (bd : BD K fnA D F H dn) (hM : ¬ Mu O (L2.wipe σb own) (wipe ρ own) D) (hl : dn.length + vs.length ≤ sizeLine)
    (kF : ∀ a, FJ a → F a) (kp : Kp FJ HJ H) {Fin : Hp → Prop}
    (fin : ∀ F' H', Ext (fun a => Mu O (L2.wipe σb own) (wipe ρ own) a ∨ a = D) F H F' H' → St K fnA O F' H' (L2.wipe σb own) (wipe ρ' own) → Sm O (wipe ρ own) (wipe ρ' own) → BD K fnA D F' H' (dn ++ vs) → Fin H') :
    ∃ Wv : Nat → Nat → Hp → Prop, (∃ m, Wv 0 m H) ∧ ∀ i m H, Wv i m H → (J.stop i H ∧ Fin H) ∨ (J.go i H ∧ ∃ Nx : Hp → Prop, (∀ H', Nx H' → ∃ m', m' < m ∧ Wv (i + 1) m' H') ∧
      ∀ x H', J.yld i H x H' → gT K tg x (L2.wipe σb own) H' fun σ2 H2 => L2.wipe σ2 own = L2.wipe σb own ∧ B σ2 H2 Nx) := by
  refine ⟨fun j k H' => k = xs.length - j ∧ j ≤ xs.length ∧ ∃ F' ρj vs1 vs2, forC step (xs.drop j) ρj = .ok vs2 ρ' ∧ vs = vs1 ++ vs2 ∧ St K fnA O F' H' (L2.wipe σb own) (wipe ρj own) ∧
      Ext (fun a => Mu O (L2.wipe σb own) (wipe ρ own) a ∨ a = D) F H F' H' ∧ Sm O (wipe ρ own) (wipe ρj own) ∧ BD K fnA D F' H' (dn ++ vs1),
    ⟨xs.length, by simp, Nat.zero_le _, F, ρ, [], vs, by simpa using he, rfl, s, .refl, .refl, by simpa using bd⟩, ?_⟩
  rintro j k H1 ⟨rfl, hj, F1, ρj, vs1, vs2, e1, e2, s1, x1, m1, b1⟩
  have kp1 : Kp FJ HJ H1 := fun a o f e => by
    have fa := kF a f
    refine x1.kp a o (kp a o f e) fun z => ?_
    rcases z with z | z
    · exact s.notMu a fa z
    · subst z; exact bd.nF fa
  by_cases hlt : j < xs.length
  · right
    have ed : xs.drop j = xs[j] :: xs.drop (j + 1) := List.drop_eq_getElem_cons hlt
    rw [ed] at e1
    simp only [forC] at e1
    obtain ⟨ys, ρ2, e3, e4⟩ := Rs.bind_ok e1
    obtain ⟨zs, ρ3, e5, e6⟩ := Rs.bind_ok e4
    cases e6
    rw [hstep] at e3
    cases ea : assign tg xs[j] (wipe ρj own) with
    | none => rw [ea] at e3; cases e3
    | some ρa =>
      rw [ea] at e3
      dsimp only at e3
      have dnot : ¬ Mu O (L2.wipe σb own) (wipe ρj own) D := fun z => hM (m1.mu D z)
      refine ⟨hJ.go j H1 hlt kp1, fun H' => xs.length - (j + 1) < xs.length - j ∧ ∃ F' ρj' vs1 vs2, forC step (xs.drop (j + 1)) ρj' = .ok vs2 ρ' ∧ vs = vs1 ++ vs2 ∧ St K fnA O F' H' (L2.wipe σb own) (wipe ρj' own) ∧
        Ext (fun a => Mu O (L2.wipe σb own) (wipe ρ own) a ∨ a = D) F H F' H' ∧ Sm O (wipe ρ own) (wipe ρj' own) ∧ BD K fnA D F' H' (dn ++ vs1), fun H' h => ⟨xs.length - (j + 1), h.1, rfl, hlt, h.2⟩, fun V H2 hy => ?_⟩
      obtain ⟨F2, x2, fo2, r2⟩ := hJ.yld j H1 V H2 xs[j] F1 (List.getElem?_eq_getElem hlt) kp1 (fun a f => x1.fs a (kF a f)) s1.fok hy
      have s2 := s1.ext x2 fo2
      obtain ⟨σ', s', h1, h2, h3, h4, h5⟩ := s2.assign (fun i hi => hd i (ht i hi)) r2 ea
      have b2 : BD K fnA D F2 H2 (dn ++ vs1) := by
        obtain ⟨us, eu, ru⟩ := b1.at_
        refine ⟨fun f => ?_, us, x2.kp D _ eu id, ru.ext x2 fun _ _ => id⟩
        rcases x2.nw D f with f | f
        · exact b1.nF f
        · rw [eu] at f; cases f
      have own' : ∀ i, i ∈ O → i ∉ tgS tg := fun i hi z => hd i (ht i z) hi
      have muA : ∀ a, Mu O σ' ρa a → Mu O (L2.wipe σb own) (wipe ρj own) a := fun a ⟨i, ws, q1, q2, q3⟩ => ⟨i, ws, q1, by rw [← h3 i (own' i q1)]; exact q2, by rw [← h2 i (own' i q1)]; exact q3⟩
      refine h5 _ ⟨?_, ?_⟩
      · refine (wipeU_eq (vs := own) (by rw [h1]) fun i hi => h2 i fun z => hi (ht i z)).trans ?_
        exact wipeU_eq (by rw [wipe_length]) fun i hi => by rw [wipeU_get, if_neg hi]
      · have hlen2 : (dn ++ vs1).length + ys.length ≤ sizeLine := by
          have : vs.length = vs1.length + (ys.length + zs.length) := by rw [e2]; simp
          simp only [List.length_append]; omega
        refine hB σ' F2 H2 ρa (dn ++ vs1) ys ρ2 s' b2 (fun z => dnot (muA D z)) e3 hlen2 _ fun F3 H3 x3 s3 m3 b3 => ?_
        have x13 : Ext (fun a => Mu O (L2.wipe σb own) (wipe ρ own) a ∨ a = D) F H F3 H3 := by
          refine (x1.trans (x2.wider fun _ => False.elim) (M1 := M0) fun a z => z.elim).trans x3 fun a z => ?_
          rcases z with z | z
          · exact .inl (.inl (m1.mu a (muA a z)))
          · exact .inl (.inr z)
        have hsig : L2.wipe σ' own = L2.wipe σb own := (wipeU_eq (vs := own) (by rw [h1]) fun i hi => h2 i fun z => hi (ht i z)).trans (wipeU_eq (by rw [wipe_length]) fun i hi => by rw [wipeU_get, if_neg hi])
        refine ⟨by omega, F3, ρ2, vs1 ++ ys, zs, e5, by rw [e2]; simp, ?_, x13, ?_, by rw [← List.append_assoc]; exact b3⟩
        · rw [← hsig]; exact s3
        · refine (m1.trans (ρ1 := wipe ρj own) (ρ2 := wipe ρa own) ⟨by rw [wipe_len, wipe_len, h4, wipe_len], fun i hi => ?_, fun i ws hi q => ?_, fun i ws hi q => ?_⟩).trans m3
          · rw [wipe_get, wipe_get]
            by_cases z : i ∈ own
            · rw [if_pos z, if_pos z]
            · rw [if_neg z, if_neg z, h3 i fun q => z (ht i q), wipe_get, if_neg z]
          · have z : i ∉ own := fun z => hd i z hi
            rw [wipe_get, if_neg z, h3 i (own' i hi)] at q
            exact ⟨ws, q⟩
          · have z : i ∉ own := fun z => hd i z hi
            exact ⟨ws, by rw [wipe_get, if_neg z, h3 i (own' i hi)]; exact q⟩
  · left
    have e : j = xs.length := by omega
    subst e
    rw [List.drop_length] at e1
    cases e1
    rw [List.append_nil] at e2
    subst e2
    exact ⟨hJ.stop H1 kp1, fin F1 H1 x1 s1 m1 b1⟩
theorem Sm.wipe {own : List Nat} {ρ ρ' : Env} (m : Sm O ρ ρ') (hd : ∀ i, i ∈ own → i ∉ O) : Sm O (Rf.wipe ρ own) (Rf.wipe ρ' own) := by
  refine ⟨by rw [wipe_len, wipe_len, m.len], fun i hi => ?_, fun i ws hi q => ?_, fun i ws hi q => ?_⟩
  · rw [wipe_get, wipe_get]
    by_cases z : i ∈ own
    · rw [if_pos z, if_pos z]
    · rw [if_neg z, if_neg z, m.out i hi]
  · have z : i ∉ own := fun z => hd i z hi
    rw [wipe_get, if_neg z] at q
    obtain ⟨w, e⟩ := m.own i ws hi q
    exact ⟨w, by rw [wipe_get, if_neg z]; exact e⟩
  · have z : i ∉ own := fun z => hd i z hi
    rw [wipe_get, if_neg z] at q
    obtain ⟨w, e⟩ := m.bk i ws hi q
    exact ⟨w, by rw [wipe_get, if_neg z]; exact e⟩
/-- a turn that tests, then appends -/
theorem turn1 {elt : E} {ifs : Es} {D : Addr} {σ2 : L2.St} {F2 : Addr → Prop} {H2 : Hp} {ρ2 ρ3 : Env} {dn vs : List Val} (s : St K fnA O F2 H2 σ2 ρ2) (bd : BD K fnA D F2 H2 dn) (hM : ¬ Mu O σ2 ρ2 D)
    (e : ((evIf c ifs ρ2).bind fun k ρ => if k then (evE c elt ρ).bind fun v ρ => .ok [v] ρ else .ok [] ρ) = .ok vs ρ3) (hl : dn.length + vs.length ≤ sizeLine) {Nx : Hp → Prop}
    (h : ∀ F3 H3, Ext (fun a => Mu O σ2 ρ2 a ∨ a = D) F2 H2 F3 H3 → St K fnA O F3 H3 σ2 ρ3 → Sm O ρ2 ρ3 → BD K fnA D F3 H3 (dn ++ vs) → Nx H3) :
    Rd K fnA exA O W0 REq (evIf c ifs) σ2 H2 fun b H3 => if b = true then Rd K fnA exA O W0 (RV K fnA) (evE c elt) σ2 H3 fun y H4 => ∃ acc, H4 D = some (.lst acc) ∧ acc.length < sizeLine ∧ Nx (upd H4 D (.lst (acc ++ [y]))) else Nx H3 := by
  obtain ⟨us, eu, ru⟩ := bd.at_
  obtain ⟨k, ρa, e1, e2⟩ := Rs.bind_ok e
  refine ⟨F2, ρ2, s, ?_⟩
  rw [e1]
  intro F3 H3 b x3 hb s3 m3
  subst hb
  have nF3 : ¬ F3 D := fun f => by
    rcases x3.nw D f with f | f
    · exact bd.nF f
    · rw [eu] at f; cases f
  cases k with
  | false =>
    rw [if_neg (by decide)] at e2 ⊢
    cases e2
    exact h F3 H3 (x3.wider fun _ => .inl) s3 m3 (by rw [List.append_nil]; exact ⟨nF3, us, x3.kp D _ eu hM, ru.ext x3 s.notMu⟩)
  | true =>
    rw [if_pos rfl] at e2 ⊢
    obtain ⟨v, ρb, e3, e4⟩ := Rs.bind_ok e2
    cases e4
    refine ⟨F3, ρa, s3, ?_⟩
    rw [e3]
    intro F4 H4 y x4 r4 s4 m4
    have eD3 := x3.kp D _ eu hM
    have hM3 : ¬ Mu O σ2 ρa D := fun z => hM (m3.mu D z)
    have eD4 := x4.kp D _ eD3 hM3
    have nF4 : ¬ F4 D := fun f => by
      rcases x4.nw D f with f | f
      · exact nF3 f
      · rw [eD3] at f; cases f
    have r04 := (ru.ext x3 s.notMu).ext x4 s3.notMu
    have kp : ∀ a o, F4 a → H4 a = some o → upd H4 D (.lst (us ++ [y])) a = some o := fun a o f q => by rw [upd_ne fun z : a = D => nF4 (z ▸ f)]; exact q
    refine ⟨us, eD4, ?_, h F4 _ ?_ ?_ (m3.trans m4) ⟨nF4, us ++ [y], upd_same, ?_⟩⟩
    · have := r04.len
      simp only [List.length_singleton] at hl
      omega
    · refine ((x3.wider fun _ => .inl).trans x4 fun a z => .inl (.inl (m3.mu a z))).trans (F2 := F4) (M1 := fun a => a = D) ⟨fun _ => id, fun a f => .inl f, fun a o q hn => by rw [upd_ne hn]; exact q, fun a o q => ?_⟩ fun a z => .inl (.inr z)
      by_cases z : a = D
      · subst z; exact ⟨_, upd_same⟩
      · exact ⟨o, by rw [upd_ne z]; exact q⟩
    · exact s4.other nF4 fun z => hM3 (m4.mu D z)
    · exact (r04.mono (fun _ => id) kp).app (.cons (r4.mono (fun _ => id) kp) .nil)
end
section
variable {p : Prog} {n : Nat} {fnA exA : Nat → Option Addr} {X : Cx} {W : WX} {nm : Nm} {O : List Nat} {c : Cfg}
/-- what a comprehension's rule asks -/
theorem lc_of {own : List Nat} {elt : E} {tg : Tg} {it : Rf.It} {ifs : Es} (hd : ∀ i, i ∈ own → i ∉ O) (ht : ∀ i, i ∈ tgS tg → i ∈ own) {σ : L2.St} {H : Hp} {Q : VK} (h : Rd X.K fnA exA O W (RN X.K fnA true) (evE c (.comp own elt tg it ifs)) σ H Q) :
    tLc (Rd X.K fnA exA O W (JOk X.K fnA) (evIt c it)) (gT X.K tg) (Rd X.K fnA exA O W0 REq (evIf c ifs)) (Rd X.K fnA exA O W0 (RV X.K fnA) (evE c elt)) own σ H Q := by
  obtain ⟨F, ρ, s, w⟩ := h
  refine ⟨F, ρ, s, RdR.bind back_RN w fun xs ρ1 F1 H1 J e x1 r1 s1 m1 h1 => fun D hD => ?_⟩
  generalize hst : (fun x ρ => match assign tg x (wipe ρ own) with | none => Rs.bad | some ρ => (evIf c ifs ρ).bind fun k ρ => if k then (evE c elt ρ).bind fun v ρ => Rs.ok [v] ρ else Rs.ok [] ρ) = step at h1
  cases e2 : forC step xs ρ1 with
  | bad => rw [e2] at h1; exact h1.elim
  | exc x => rw [e2] at h1; exact h1.elim
  | ok vs ρ' =>
    rw [e2] at h1
    simp only [Rs.calm, Rs.bind] at h1
    split at h1
    · rename_i hlen
      have nD : ¬ F1 D := fun f => by obtain ⟨o, z⟩ := s1.fok D f; rw [hD] at z; cases z
      have x2 : Ext M0 F1 H1 F1 (upd H1 D (.lst [])) := .new' hD
      have s2 : St X.K fnA O F1 (upd H1 D (.lst [])) (L2.wipe σ own) (wipe ρ1 own) := (s1.ext x2 (fok_new' s1.fok hD)).wipe hd
      have hM : ¬ Mu O (L2.wipe σ own) (wipe ρ1 own) D := fun z => by
        obtain ⟨us, z⟩ := s1.muSome D ((mu_wipe hd D).mp z)
        rw [hD] at z; cases z
      refine loop (step := step) (body := fun ρ => (evIf c ifs ρ).bind fun k ρ => if k then (evE c elt ρ).bind fun v ρ => Rs.ok [v] ρ else Rs.ok [] ρ) (B := fun σ2 H2 Nx => Rd X.K fnA exA O W0 REq (evIf c ifs) σ2 H2 fun b H3 => if b = true then Rd X.K fnA exA O W0 (RV X.K fnA) (evE c elt) σ2 H3 fun y H4 => ∃ acc, H4 D = some (.lst acc) ∧ acc.length < sizeLine ∧ Nx (upd H4 D (.lst (acc ++ [y]))) else Nx H3)
        (fun x ρ => by rw [← hst]) r1 hd ht (fun σ2 F2 H2 ρ2 dn vs ρ3 s bd hM e hl Nx h => turn1 s bd hM e hl fun F3 H3 x s m b => h F3 H3 x (s.wipe hd) (m.wipe hd) b) (dn := []) e2 s2 ⟨nD, [], upd_same, .nil⟩ hM (by simpa using hlen) (fun _ => id) (fun a o f q => x2.kp a o q id) fun F' H' x3 s3 m3 b3 => ?_
      have x13 : Ext (Mu O σ ρ1) F1 H1 F' H' := (x2.wider fun _ => False.elim).trans x3 fun a z => by
        rcases z with z | z
        · exact .inl ((mu_wipe hd a).mp z)
        · exact .inr (by rw [z]; exact hD)
      obtain ⟨s4, m4⟩ := s1.back s3 x13 m3 hd
      obtain ⟨us, eu, ru⟩ := b3.at_
      rw [List.nil_append] at ru
      refine h1 F' H' (.ref D) x13 ?_ s4 m4
      unfold RN
      rw [if_pos rfl]
      exact ⟨.inl ⟨vs, us, D, rfl, rfl, b3.nF, eu, ru⟩, fun a _ _ q => by cases q; exact hD⟩
    · exact h1.elim
theorem wipeV_eq {ρ ρ' : Env} {vs : List Nat} (hl : ρ'.length = ρ.length) (h : ∀ i, i ∉ vs → ρ'[i]? = ρ[i]?) : wipe ρ' vs = wipe ρ vs := by
  have g : ∀ (ρ : Env) (vs : List Nat) (i : Nat), (wipe ρ vs)[i]? = if i ∈ vs then ρ[i]?.map (fun _ => none) else ρ[i]? := fun ρ vs => by
    induction vs with
    | nil => intro i; simp [wipe]
    | cons v vs ih =>
      intro i
      rw [wipe]
      by_cases h : i = v
      · subst h
        simp only [List.mem_cons, true_or, if_true]
        by_cases hl : i < ρ.length
        · rw [List.getElem?_set_self (by rw [wipe_len]; exact hl), List.getElem?_eq_getElem hl]; rfl
        · rw [List.getElem?_eq_none (by rw [List.length_set, wipe_len]; omega), List.getElem?_eq_none (by omega)]; rfl
      · rw [List.getElem?_set_ne (Ne.symm h), ih]
        simp only [List.mem_cons, h, false_or]
  apply List.ext_getElem?
  intro i
  rw [g, g]
  by_cases hi : i ∈ vs
  · rw [if_pos hi, if_pos hi]
    by_cases hlt : i < ρ.length
    · rw [List.getElem?_eq_getElem hlt, List.getElem?_eq_getElem (by omega)]; rfl
    · rw [List.getElem?_eq_none (by omega), List.getElem?_eq_none (by omega)]
  · rw [if_neg hi, if_neg hi, h i hi]
theorem wipe_in {own own1 : List Nat} {ρ : Env} (hs : ∀ i, i ∈ own1 → i ∈ own) : wipe (wipe ρ own1) own = wipe ρ own := by
  have g : ∀ (ρ : Env) (vs : List Nat) (i : Nat), i ∉ vs → (wipe ρ vs)[i]? = ρ[i]? := fun ρ vs => by
    induction vs with
    | nil => intro i _; rfl
    | cons v vs ih =>
      intro i hi
      simp only [List.mem_cons, not_or] at hi
      rw [wipe, List.getElem?_set_ne (Ne.symm hi.1), ih i hi.2]
  exact wipeV_eq (by rw [wipe_len]) fun i hi => g ρ own1 i fun z => hi (hs i z)
theorem wipeU_in {own own1 : List Nat} {σ : L2.St} (hs : ∀ i, i ∈ own1 → i ∈ own) : L2.wipe (L2.wipe σ own1) own = L2.wipe σ own :=
  wipeU_eq (by rw [wipe_length]) fun i hi => by rw [wipeU_get, if_neg fun z => hi (hs i z)]
theorem lc2_of {own own1 : List Nat} {elt : E} {tg tg1 : Tg} {it it1 : Rf.It} {ifs ifs1 : Es} (hd : ∀ i, i ∈ own → i ∉ O) (ht : ∀ i, i ∈ tgS tg → i ∈ own) (ht1 : ∀ i, i ∈ tgS tg1 → i ∈ own1) (hs : ∀ i, i ∈ own1 → i ∈ own) {σ : L2.St} {H : Hp} {Q : VK}
    (h : Rd X.K fnA exA O W (RN X.K fnA true) (evE c (.comp2 own own1 elt tg it ifs tg1 it1 ifs1)) σ H Q) :
    tLc2 (Rd X.K fnA exA O W (JOk X.K fnA) (evIt c it)) (gT X.K tg) (Rd X.K fnA exA O W0 REq (evIf c ifs)) (Rd X.K fnA exA O W0 (JOk X.K fnA) (evIt c it1)) (gT X.K tg1) (Rd X.K fnA exA O W0 REq (evIf c ifs1)) (Rd X.K fnA exA O W0 (RV X.K fnA) (evE c elt)) own own1 σ H Q := by
  have hd1 : ∀ i, i ∈ own1 → i ∉ O := fun i hi => hd i (hs i hi)
  obtain ⟨F, ρ, s, w⟩ := h
  refine ⟨F, ρ, s, RdR.bind back_RN w fun xs ρ1 F1 H1 J e x1 r1 s1 m1 h1 => fun D hD => ?_⟩
  generalize hst1 : (fun y ρ => match assign tg1 y (wipe ρ own1) with | none => Rs.bad | some ρ => (evIf c ifs1 ρ).bind fun k ρ => if k then (evE c elt ρ).bind fun v ρ => Rs.ok [v] ρ else Rs.ok [] ρ) = step1 at h1
  generalize hst : (fun x ρ => match assign tg x (wipe ρ own) with | none => Rs.bad | some ρ => (evIf c ifs ρ).bind fun k ρ => if k then (evIt c it1 ρ).bind fun ys ρ => forC step1 ys ρ else Rs.ok [] ρ) = step at h1
  cases e2 : forC step xs ρ1 with
  | bad => rw [e2] at h1; exact h1.elim
  | exc x => rw [e2] at h1; exact h1.elim
  | ok vs ρ' =>
    rw [e2] at h1
    simp only [Rs.calm, Rs.bind] at h1
    split at h1
    · rename_i hlen
      have nD : ¬ F1 D := fun f => by obtain ⟨o, z⟩ := s1.fok D f; rw [hD] at z; cases z
      have x2 : Ext M0 F1 H1 F1 (upd H1 D (.lst [])) := .new' hD
      have s2 : St X.K fnA O F1 (upd H1 D (.lst [])) (L2.wipe σ own) (wipe ρ1 own) := (s1.ext x2 (fok_new' s1.fok hD)).wipe hd
      have hM : ¬ Mu O (L2.wipe σ own) (wipe ρ1 own) D := fun z => by
        obtain ⟨us, z⟩ := s1.muSome D ((mu_wipe hd D).mp z)
        rw [hD] at z; cases z
      refine loop (step := step) (body := fun ρ => (evIf c ifs ρ).bind fun k ρ => if k then (evIt c it1 ρ).bind fun ys ρ => forC step1 ys ρ else Rs.ok [] ρ)
        (B := fun σ2 H2 Nx => Rd X.K fnA exA O W0 REq (evIf c ifs) σ2 H2 fun b H3 => if b = true then Rd X.K fnA exA O W0 (JOk X.K fnA) (evIt c it1) σ2 H3 fun J1 H4 => ∃ W1 : Nat → Nat → Hp → Prop, (∃ m, W1 0 m H4) ∧ ∀ j k H, W1 j k H →
          (J1.stop j H ∧ Nx H) ∨ (J1.go j H ∧ ∃ Nx1 : Hp → Prop, (∀ H', Nx1 H' → ∃ k', k' < k ∧ W1 (j + 1) k' H') ∧ ∀ x H', J1.yld j H x H' → gT X.K tg1 x (L2.wipe σ2 own1) H' fun σ3 H5 => L2.wipe σ3 own1 = L2.wipe σ2 own1 ∧ Rd X.K fnA exA O W0 REq (evIf c ifs1) σ3 H5 fun b H6 =>
            if b = true then Rd X.K fnA exA O W0 (RV X.K fnA) (evE c elt) σ3 H6 fun y H7 => ∃ acc, H7 D = some (.lst acc) ∧ acc.length < sizeLine ∧ Nx1 (upd H7 D (.lst (acc ++ [y]))) else Nx1 H6) else Nx H3)
        (fun x ρ => by rw [← hst]) r1 hd ht (fun σ2 F2 H2 ρ2 dn vs ρ3 s bd hM e hl Nx h => ?_) (dn := []) e2 s2 ⟨nD, [], upd_same, .nil⟩ hM (by simpa using hlen) (fun _ => id) (fun a o f q => x2.kp a o q id) fun F' H' x3 s3 m3 b3 => ?_
      · obtain ⟨us, eu, ru⟩ := bd.at_
        obtain ⟨k, ρa, e3, e4⟩ := Rs.bind_ok e
        refine ⟨F2, ρ2, s, ?_⟩
        rw [e3]
        intro F3 H3 b x3 hb s3 m3
        subst hb
        have nF3 : ¬ F3 D := fun f => by
          rcases x3.nw D f with f | f
          · exact bd.nF f
          · rw [eu] at f; cases f
        cases k with
        | false =>
          rw [if_neg (by decide)] at e4 ⊢
          cases e4
          exact h F3 H3 (x3.wider fun _ => .inl) (s3.wipe hd) (m3.wipe hd) (by rw [List.append_nil]; exact ⟨nF3, us, x3.kp D _ eu hM, ru.ext x3 s.notMu⟩)
        | true =>
          rw [if_pos rfl] at e4 ⊢
          obtain ⟨ys, ρb, e5, e6⟩ := Rs.bind_ok e4
          refine ⟨F3, ρa, s3, ?_⟩
          rw [e5]
          intro F4 H4 J1 x4 r4 s4 m4
          have eD3 := x3.kp D _ eu hM
          have hM3 : ¬ Mu O σ2 ρa D := fun z => hM (m3.mu D z)
          have eD4 := x4.kp D _ eD3 hM3
          have nF4 : ¬ F4 D := fun f => by
            rcases x4.nw D f with f | f
            · exact nF3 f
            · rw [eD3] at f; cases f
          have r04 := (ru.ext x3 s.notMu).ext x4 s3.notMu
          have hM4 : ¬ Mu O (L2.wipe σ2 own1) (wipe ρb own1) D := fun z => hM3 (m4.mu D ((mu_wipe hd1 D).mp z))
          refine loop (step := step1) (body := fun ρ => (evIf c ifs1 ρ).bind fun k ρ => if k then (evE c elt ρ).bind fun v ρ => Rs.ok [v] ρ else Rs.ok [] ρ) (B := fun σ2 H2 Nx => Rd X.K fnA exA O W0 REq (evIf c ifs1) σ2 H2 fun b H3 => if b = true then Rd X.K fnA exA O W0 (RV X.K fnA) (evE c elt) σ2 H3 fun y H4 => ∃ acc, H4 D = some (.lst acc) ∧ acc.length < sizeLine ∧ Nx (upd H4 D (.lst (acc ++ [y]))) else Nx H3)
            (fun x ρ => by rw [← hst1]) r4 hd1 ht1 (fun σ2 F2 H2 ρ2 dn vs ρ3 s bd hM e hl Nx h => turn1 s bd hM e hl fun F3 H3 x s m b => h F3 H3 x (s.wipe hd1) (m.wipe hd1) b) (dn := dn) e6 (s4.wipe hd1) ⟨nF4, us, eD4, r04⟩ hM4 hl (fun _ => id) (fun a o f q => q) fun F' H' x5 s5 m5 b5 => ?_
          refine h F' H' ?_ ?_ ?_ b5
          · refine ((x3.wider fun _ => .inl).trans x4 fun a z => .inl (.inl (m3.mu a z))).trans x5 fun a z => ?_
            rcases z with z | z
            · exact .inl (.inl (m3.mu a (m4.mu a ((mu_wipe hd1 a).mp z))))
            · exact .inl (.inr z)
          · have z := s5.wipe hd
            rwa [wipeU_in hs, wipe_in hs] at z
          · have z := m5.wipe hd
            rw [wipe_in hs, wipe_in hs] at z
            exact ((m3.trans m4).wipe hd).trans z
      · have x13 : Ext (Mu O σ ρ1) F1 H1 F' H' := (x2.wider fun _ => False.elim).trans x3 fun a z => by
          rcases z with z | z
          · exact .inl ((mu_wipe hd a).mp z)
          · exact .inr (by rw [z]; exact hD)
        obtain ⟨s4, m4⟩ := s1.back s3 x13 m3 hd
        obtain ⟨us, eu, ru⟩ := b3.at_
        rw [List.nil_append] at ru
        refine h1 F' H' (.ref D) x13 ?_ s4 m4
        unfold RN
        rw [if_pos rfl]
        exact ⟨.inl ⟨vs, us, D, rfl, rfl, b3.nF, eu, ru⟩, fun a _ _ q => by cases q; exact hD⟩
    · exact h1.elim
end
end Rf

set_option Elab.async false
set_option linter.all false
set_option maxRecDepth 100000
set_option maxHeartbeats 4000000
/-! The reflective layer, part O: every expression of the language. -/
namespace Rf
open PySem PySem.Spec PyProof.Rows L2
section
variable {p : Prog} {n : Nat} {fnA exA : Nat → Option Addr} {X : Cx} {W : WX} {nm : Nm} {O : List Nat} {c : Cfg}
theorem rng_FRs {K : PySem.W.Frag} {F : Addr → Prop} {H : Hp} (a b : Int) : FRs K fnA F H (rangeV a (b - a).toNat 1) (rgV a b) := by
  unfold rangeV rgV
  generalize List.range (b - a).toNat = l
  induction l with
  | nil => exact .nil
  | cons x l ih =>
    rw [List.map_cons, List.map_cons, Int.mul_one]
    exact .cons (.int _) ih
theorem s_rngL {it : Rf.It} {x : Str} {y : Expr} {np pos : Pos} (xk : XOk p n fnA exA X W) (xn : XN X nm) (hx : x = "list") (hb : blt p nm x = true)
    {te : L2.St → Hp → (Int → Int → Hp → Prop) → Prop} (hr : PRg X y te) (hy : noStar y = true)
    (hte : ∀ σ H Q, Rd X.K fnA exA O W (RN X.K fnA true) (evE c (.rngL it)) σ H Q → te σ H fun a b H1 => RgOk a b ∧ ∀ q, H1 q = none → Q (.ref q) (upd H1 q (.lst (rgV a b)))) : PEn fnA exA X W O c true (.rngL it) (.Call (.Name x np) [y] [] pos) := by
  subst hx
  obtain ⟨hg, hm⟩ := blt_ok xk xn hb
  exact (pe_listRg xk.calm hg hm hr (noStar_ok hy _ _)).weak fun σ H Q h => hte σ H Q h
theorem s_rngT {it : Rf.It} {x : Str} {y : Expr} {np pos : Pos} (xk : XOk p n fnA exA X W) (xn : XN X nm) (hx : x = "tuple") (hb : blt p nm x = true)
    {te : L2.St → Hp → (Int → Int → Hp → Prop) → Prop} (hr : PRg X y te) (hy : noStar y = true)
    (hte : ∀ σ H Q, Rd X.K fnA exA O W (RN X.K fnA false) (evE c (.rngT it)) σ H Q → te σ H fun a b H1 => RgOk a b ∧ ∀ q, H1 q = none → Q (.ref q) (upd H1 q (.tup (rgV a b)))) : PEn fnA exA X W O c false (.rngT it) (.Call (.Name x np) [y] [] pos) := by
  subst hx
  obtain ⟨hg, hm⟩ := blt_ok xk xn hb
  exact (pe_tupRg xk.calm hg hm hr (noStar_ok hy _ _)).weak fun σ H Q h => hte σ H Q h
theorem rgOk {a b : Int} (ha : smallI a = true) (hb : smallI b = true) (h : (rangeV a (b - a).toNat 1).length ≤ sizeLine) : RgOk a b := by
  obtain ⟨h1, h2⟩ := small_ok ha
  obtain ⟨h3, h4⟩ := small_ok hb
  rw [rangeV_len, sizeLine_eq] at h
  exact ⟨h1, h2, h3, h4, by omega⟩
/-- range's own ends, list and tuple at once -/
theorem rng1_of {a : E} {fr : Bool} {mk : List Val → Val} {R : Int → Int → Hp → Prop} {σ : L2.St} {H : Hp} {Q : VK}
    (h : Rd X.K fnA exA O W (RN X.K fnA fr) (fun ρ => (evIt c (.r1 a) ρ).bind fun vs ρ => if vs.length ≤ sizeLine then .ok (mk vs) ρ else .bad) σ H Q)
    (k : ∀ F1 H1 ρ1 (i j : Int), St X.K fnA O F1 H1 σ ρ1 → RgOk i j → RdR X.K fnA exA O W (RN X.K fnA fr) (.ok (mk (rangeV i (j - i).toNat 1)) ρ1) F1 H1 σ ρ1 Q → R i j H1) : tRg1 (Rd X.K fnA exA O W (RV X.K fnA) (evE c a)) σ H R := by
  obtain ⟨F, ρ, s, w⟩ := h
  have w2 : RdR X.K fnA exA O W (RN X.K fnA fr) ((evE c a ρ).bind fun v ρ => (match v with
    | .int j => if smallI j then .ok (rangeV 0 j.toNat 1) ρ else .bad
    | _ => .bad : Rs (List Val)).bind fun vs ρ => if vs.length ≤ sizeLine then .ok (mk vs) ρ else .bad) F H σ ρ Q := by
    revert w
    simp only [evIt]
    cases evE c a ρ with
    | bad => exact id
    | exc x => exact id
    | ok v ρ1 => exact id
  refine ⟨F, ρ, s, RdR.bind back_RN w2 fun v ρ1 F1 H1 u e x1 r1 s1 m1 h1 => ?_⟩
  cases r1 with
  | int j =>
    dsimp only at h1
    split at h1
    · rename_i hj
      simp only [Rs.bind] at h1
      split at h1
      · rename_i hl
        exact ⟨j, rfl, k F1 H1 ρ1 0 j s1 (rgOk (by decide) hj (by rw [Int.sub_zero]; exact hl)) (by rw [Int.sub_zero]; exact h1)⟩
      · exact h1.elim
    · exact h1.elim
  | _ => exact h1.elim
theorem rng2_of {a b : E} {fr : Bool} {mk : List Val → Val} {R : Int → Int → Hp → Prop} {σ : L2.St} {H : Hp} {Q : VK}
    (h : Rd X.K fnA exA O W (RN X.K fnA fr) (fun ρ => (evIt c (.r2 a b) ρ).bind fun vs ρ => if vs.length ≤ sizeLine then .ok (mk vs) ρ else .bad) σ H Q)
    (k : ∀ F1 H1 ρ1 (i j : Int), St X.K fnA O F1 H1 σ ρ1 → RgOk i j → RdR X.K fnA exA O W (RN X.K fnA fr) (.ok (mk (rangeV i (j - i).toNat 1)) ρ1) F1 H1 σ ρ1 Q → R i j H1) : tRg2 (Rd X.K fnA exA O W (RV X.K fnA) (evE c a)) (Rd X.K fnA exA O W (RV X.K fnA) (evE c b)) σ H R := by
  obtain ⟨F, ρ, s, w⟩ := h
  have w2 : RdR X.K fnA exA O W (RN X.K fnA fr) ((evE c a ρ).bind fun v ρ => (evE c b ρ).bind fun u ρ => (match v, u with
    | .int i, .int j => if smallI i && smallI j then .ok (rangeV i (j - i).toNat 1) ρ else .bad
    | _, _ => .bad : Rs (List Val)).bind fun vs ρ => if vs.length ≤ sizeLine then .ok (mk vs) ρ else .bad) F H σ ρ Q := by
    revert w
    simp only [evIt]
    cases evE c a ρ with
    | bad => exact id
    | exc x => exact id
    | ok v ρ1 =>
      simp only [Rs.bind]
      cases evE c b ρ1 with
      | bad => exact id
      | exc x => exact id
      | ok v ρ1 => exact id
  refine ⟨F, ρ, s, RdR.bind back_RN w2 fun v ρ1 F1 H1 u e x1 r1 s1 m1 h1 => ?_⟩
  refine ⟨F1, ρ1, s1, RdR.bind back_RN h1 fun v2 ρ2 F2 H2 u2 e2 x2 r2 s2 m2 h2 => ?_⟩
  cases r1 with
  | int i =>
    cases r2 with
    | int j =>
      dsimp only at h2
      split at h2
      · rename_i hj
        rw [Bool.and_eq_true] at hj
        simp only [Rs.bind] at h2
        split at h2
        · rename_i hl
          exact ⟨i, j, rfl, rfl, k F2 H2 ρ2 i j s2 (rgOk hj.1 hj.2 hl) h2⟩
        · exact h2.elim
      · exact h2.elim
    | _ => exact h2.elim
  | _ => cases r2 <;> exact h2.elim

/-! ### the dispatch -/
def plainE : Expr → Bool
  | .UnaryOp .Not _ _ | .BoolOp .. | .IfExp .. | .Compare .. => false
  | _ => true
theorem plain_he {e : Expr} (h : plainE e = true) (env : PySem.Env) : ∀ whole, PySem.isTrue e env whole = (do let v ← whole; standAt e.pos; holding [v] (PySem.truthy v)) := by
  intro whole
  cases e <;> first
    | rfl
    | (cases h)
    | (rename_i o _ _; cases o <;> first | rfl | cases h)
abbrev cfg (p : Prog) (n : Nat) : Cfg := ⟨callN p n, fun x => p.vals.lookup x, p.wh⟩
theorem frE_call {f : Nat} {fd : Fd} (ef : p.fns[f]? = some fd) : (match p.fns[f]? with | some fd => fd.fresh | none => false) = fd.fresh := by rw [ef]
theorem chkEs_noStar : ∀ {es : Es} {xs : List Expr}, chkEs p nm es xs = true → xs.all noStar = true ∧ (xs = [] → es = .nil)
  | .nil, [], _ => ⟨rfl, fun _ => rfl⟩
  | .nil, _ :: _, h => by simp [chkEs] at h
  | .cons e es, [], h => by simp [chkEs] at h
  | .cons e es, x :: xs, h => by
    simp only [chkEs, Bool.and_eq_true] at h
    refine ⟨by rw [List.all_cons, h.1.2, (chkEs_noStar h.2).1]; rfl, fun e => by cases e⟩
theorem fnB_get {f : Nat} {lent : Bool} {x : Str} (h : fnB p nm f lent x = true) : ∃ fd, p.fns[f]? = some fd := by
  unfold fnB at h
  rw [Bool.and_eq_true] at h
  have := h.2
  split at this
  · exact ⟨_, by assumption⟩
  · cases this
/-- both: as a value, as a test -/
structure Snd (fnA exA : Nat → Option Addr) (X : Cx) (W : WX) (O : List Nat) (c : Cfg) (fr : Bool) (m : E) (e : Expr) : Prop where
  n : PEn fnA exA X W O c fr m e
  t : PTv fnA exA X W O c m e
theorem Snd.v {fr : Bool} {m : E} {e : Expr} (h : Snd fnA exA X W O c fr m e) : PEv fnA exA X W O c m e := h.n.v
theorem Snd.pl {fr : Bool} {m : E} {e : Expr} (h : PEn fnA exA X W O c fr m e) (hp : plainE e = true) : Snd fnA exA X W O c fr m e := ⟨h, t_plain h.v (plain_he hp X.env)⟩
theorem PEn.ff {fr : Bool} {m : E} {e : Expr} (h : PEn fnA exA X W O c true m e) : PEn fnA exA X W O c fr m e := by
  cases fr with
  | true => exact h
  | false => exact h.weak fun σ H Q q => q.weaken
theorem PEn.fw {fr : Bool} {m : E} {e : Expr} (h : PEn fnA exA X W O c fr m e) : PEn fnA exA X W O c false m e := by
  cases fr with
  | false => exact h
  | true => exact h.weak fun σ H Q q => q.weaken
theorem all_in {xs own : List Nat} (h : xs.all own.contains = true) : ∀ i, i ∈ xs → i ∈ own := fun i hi => by
  have := List.all_eq_true.mp h i hi
  simpa using this
theorem d_or {f1 f2 : Bool} {a b : E} {x y : Expr} {r : List Expr} {pos : Pos} (ha : PEn fnA exA X W O c f1 a x) (hb : PEn fnA exA X W O c f2 b (restB .Or y r pos)) : PEn fnA exA X W O c (f1 && f2) (.or a b) (.BoolOp .Or (x :: y :: r) pos) := by
  cases f1 with
  | false => exact s_or ha hb.fw
  | true => cases f2 with
    | false => exact s_or ha.fw hb
    | true => exact s_or ha hb
theorem d_ite {f1 f2 : Bool} {t a b : E} {x y z : Expr} {pos : Pos} (ht : PTv fnA exA X W O c t x) (ha : PEn fnA exA X W O c f1 a y) (hb : PEn fnA exA X W O c f2 b z) : PEn fnA exA X W O c (f1 && f2) (.ite t a b) (.IfExp x y z pos) := by
  cases f1 with
  | false => exact s_ite ht ha hb.fw
  | true => cases f2 with
    | false => exact s_ite ht ha.fw hb
    | true => exact s_ite ht ha hb
theorem d_comp {own : List Nat} {elt : E} {tg : Tg} {it : Rf.It} {ifs : Es} {x t i : Expr} {fs : List Expr} {scope : Scope} {pos : Pos} (xk : XOk p n fnA exA X W) (xn : XN X nm) (hb : blkB nm scope own = true) (hi : PIv fnA exA X W O c it t i) (hs : notSet i = true) (ht : chkT (inNm nm scope) tg t = true)
    (hf : ∀ (s : Shared) (H : Hp) (C : Addr) (cl : List (Str × Addr)) (fp : List Addr), PTsv fnA exA (X.blk s H scope (compEnvC scope cl C X.env) fp) W0 O c ifs fs) (he : ∀ (s : Shared) (H : Hp) (C : Addr) (cl : List (Str × Addr)) (fp : List Addr), PEv fnA exA (X.blk s H scope (compEnvC scope cl C X.env) fp) W0 O c elt x)
    (hd : disj O own = true) (hw : (tgS tg).all own.contains = true) : PEn fnA exA X W O c true (.comp own elt tg it ifs) (.ListComp x [⟨t, i, fs, 0⟩] scope pos) := by
  obtain ⟨b1, b2, b3⟩ := blkB_ok xn hb
  refine (pe_lc (g := gT X.K tg) (tt := Rd X.K fnA exA O W0 REq (evIf c ifs)) (te := Rd X.K fnA exA O W0 (RV X.K fnA) (evE c elt)) xk.calm xk.nd hi b1 (fun s H C cl fp => pg_T (xk.blk) (xn.blk b3) ht) hf he (fun _ => by cases i <;> first | rfl | cases hs)).weak fun σ H Q h => ?_
  rw [b2]
  exact lc_of (disj_ok hd) (all_in hw) h
theorem d_comp2 {own own1 : List Nat} {elt : E} {tg tg1 : Tg} {it it1 : Rf.It} {ifs ifs1 : Es} {x t i t1 i1 : Expr} {fs fs1 : List Expr} {scope : Scope} {pos : Pos} (xk : XOk p n fnA exA X W) (xn : XN X nm) (hb : blkB nm scope own = true) (hi : PIv fnA exA X W O c it t i) (hs : notSet i = true) (ht : chkT (inNm nm scope) tg t = true)
    (hf : ∀ (s : Shared) (H : Hp) (C : Addr) (cl : List (Str × Addr)) (fp : List Addr), PTsv fnA exA (X.blk s H scope (compEnvC scope cl C X.env) fp) W0 O c ifs fs) (hi1 : ∀ (s : Shared) (H : Hp) (C : Addr) (cl : List (Str × Addr)) (fp : List Addr), PIv fnA exA (X.blk s H scope (compEnvC scope cl C X.env) fp) W0 O c it1 t1 i1)
    (hs1 : notSet i1 = true) (ht1 : chkT (inNm nm scope) tg1 t1 = true) (hf1 : ∀ (s : Shared) (H : Hp) (C : Addr) (cl : List (Str × Addr)) (fp : List Addr), PTsv fnA exA (X.blk s H scope (compEnvC scope cl C X.env) fp) W0 O c ifs1 fs1)
    (he : ∀ (s : Shared) (H : Hp) (C : Addr) (cl : List (Str × Addr)) (fp : List Addr), PEv fnA exA (X.blk s H scope (compEnvC scope cl C X.env) fp) W0 O c elt x)
    (hd : disj O own = true) (hw : (tgS tg).all own.contains = true) (hw1 : (tgS tg1).all own1.contains = true) (hin : own1.all own.contains = true) : PEn fnA exA X W O c true (.comp2 own own1 elt tg it ifs tg1 it1 ifs1) (.ListComp x [⟨t, i, fs, 0⟩, ⟨t1, i1, fs1, 0⟩] scope pos) := by
  obtain ⟨b1, b2, b3⟩ := blkB_ok xn hb
  refine (pe_lc2 (vs1 := own1) (g := gT X.K tg) (tt := Rd X.K fnA exA O W0 REq (evIf c ifs)) (wi1 := Rd X.K fnA exA O W0 (JOk X.K fnA) (evIt c it1)) (g1 := gT X.K tg1) (tt1 := Rd X.K fnA exA O W0 REq (evIf c ifs1)) (te := Rd X.K fnA exA O W0 (RV X.K fnA) (evE c elt)) xk.calm xk.nd hi b1 (fun j hj => by rw [b2]; exact all_in hin j hj) (fun s H C cl fp => pg_T (xk.blk) (xn.blk b3) ht) hf hi1 (fun s H C cl fp => pg_T (xk.blk) (xn.blk b3) ht1) hf1 he (fun _ => by cases i <;> first | rfl | cases hs) (fun _ _ => by cases i1 <;> first | rfl | cases hs1)).weak fun σ H Q h => ?_
  rw [b2]
  exact lc2_of (disj_ok hd) (all_in hw) (all_in hw1) (all_in hin) h
theorem d_call {f : Nat} {es : Es} {x : Str} {xs : List Expr} {np pos : Pos} (xk : XOk p n fnA exA X W) (xn : XN X nm) (hf : fnB p nm f false x = true) (hc : chkEs p nm es xs = true) (hs : PAv fnA exA X W O (cfg p n) es xs) : Snd fnA exA X W O (cfg p n) (frE p (.call f es)) (.call f es) (.Call (.Name x np) xs [] pos) := by
  obtain ⟨fd, ef⟩ := fnB_get hf
  obtain ⟨h1, h2⟩ := chkEs_noStar hc
  refine .pl ?_ rfl
  simp only [frE, ef]
  exact s_call xk xn hf ef hs h1 h2 rfl
theorem d_callk {f : Nat} {ks : List Nat} {es : Es} {x : Str} {kws : List Keyword} {np pos : Pos} (xk : XOk p n fnA exA X W) (xn : XN X nm) (hf : fnB p nm f false x = true) (hk : kwB p f ks kws = true) (hc : chkK p nm es kws = true) (hs : PKv fnA exA X W O (cfg p n) es kws) :
    Snd fnA exA X W O (cfg p n) (frE p (.callk f ks es)) (.callk f ks es) (.Call (.Name x np) [] kws pos) := by
  obtain ⟨fd, ef⟩ := fnB_get hf
  refine .pl ?_ rfl
  simp only [frE, ef]
  exact s_callk xk xn hf ef hk hs hc rfl
theorem d_calll {f i : Nat} {es : Es} {x y : Str} {xs : List Expr} {np yp pos : Pos} (xk : XOk p n fnA exA X W) (xn : XN X nm) (hf : fnB p nm f true x = true) (hv : varB nm i y = true) (hi : O.contains i = true) (hc : chkEs p nm es xs = true) (hs : PAv fnA exA X W O (cfg p n) es xs) :
    Snd fnA exA X W O (cfg p n) (frE p (.calll f i es)) (.calll f i es) (.Call (.Name x np) (.Name y yp :: xs) [] pos) := by
  obtain ⟨fd, ef⟩ := fnB_get hf
  refine .pl ?_ rfl
  simp only [frE, ef]
  exact s_calll xk xn hf ef hv (by simpa using hi) hs (chkEs_noStar hc).1 rfl
/-! ### inversions of the looks -/
theorem chk_isi {a : E} {ts : List Ty} {e : Expr} (h : chkE p nm (.isi a ts) e = true) : ∃ np y t pos, e = .Call (.Name "isinstance" np) [y, t] [] pos ∧ blt p nm "isinstance" = true ∧ chkE p nm a y = true ∧ noStar y = true ∧ tysE p nm ts t = true := by
  unfold chkE at h
  split at h
  all_goals first
    | (rename_i q; cases q; done)
    | (cases h; done)
    | skip
  rename_i hm
  cases hm
  simp only [Bool.and_eq_true, decide_eq_true_eq] at h
  obtain ⟨⟨⟨⟨rfl, c1⟩, c2⟩, c3⟩, c4⟩ := h
  exact ⟨_, _, _, _, rfl, c1, c2, c3, c4⟩
theorem chk_idx {a b : E} {e : Expr} (h : chkE p nm (.idx a b) e = true) : ∃ x ap y ps, e = .Call (.Attribute x "index" ap) [y] [] ps ∧ chkE p nm a x = true ∧ chkE p nm b y = true ∧ noStar y = true ∧ notCall0 x = true ∧ (ap.endLine == ps.line) = true := by
  unfold chkE at h
  split at h
  all_goals first
    | (rename_i q; cases q; done)
    | (cases h; done)
    | skip
  rename_i hm
  cases hm
  simp only [Bool.and_eq_true, decide_eq_true_eq] at h
  obtain ⟨⟨⟨⟨⟨rfl, c1⟩, c2⟩, c3⟩, c4⟩, c5⟩ := h
  exact ⟨_, _, _, _, rfl, c1, c2, c3, c4, c5⟩
theorem chk_rngL {it : Rf.It} {e : Expr} (h : chkE p nm (.rngL it) e = true) : ∃ np y pos, e = .Call (.Name "list" np) [y] [] pos ∧ blt p nm "list" = true ∧ chkR p nm it y = true := by
  unfold chkE at h
  split at h
  all_goals first
    | (rename_i q; cases q; done)
    | (cases h; done)
    | skip
  rename_i hm
  cases hm
  simp only [Bool.and_eq_true, decide_eq_true_eq] at h
  obtain ⟨⟨rfl, c1⟩, c2⟩ := h
  exact ⟨_, _, _, rfl, c1, c2⟩
theorem chk_rngT {it : Rf.It} {e : Expr} (h : chkE p nm (.rngT it) e = true) : ∃ np y pos, e = .Call (.Name "tuple" np) [y] [] pos ∧ blt p nm "tuple" = true ∧ chkR p nm it y = true := by
  unfold chkE at h
  split at h
  all_goals first
    | (rename_i q; cases q; done)
    | (cases h; done)
    | skip
  rename_i hm
  cases hm
  simp only [Bool.and_eq_true, decide_eq_true_eq] at h
  obtain ⟨⟨rfl, c1⟩, c2⟩ := h
  exact ⟨_, _, _, rfl, c1, c2⟩
theorem chk_comp {own : List Nat} {elt : E} {tg : Tg} {it : Rf.It} {ifs : Es} {e : Expr} (h : chkE p nm (.comp own elt tg it ifs) e = true) : ∃ x t i fs scope pos, e = .ListComp x [⟨t, i, fs, 0⟩] scope pos ∧ blkB nm scope own = true ∧ chkIt p nm it t i = true ∧ notSet i = true ∧ chkT (inNm nm scope) tg t = true ∧ chkEs p (inNm nm scope) ifs fs = true ∧ chkE p (inNm nm scope) elt x = true := by
  unfold chkE at h
  split at h
  all_goals first
    | (rename_i q; cases q; done)
    | (cases h; done)
    | skip
  rename_i hm
  cases hm
  simp only [Bool.and_eq_true] at h
  obtain ⟨⟨⟨⟨⟨c1, c2⟩, c3⟩, c4⟩, c5⟩, c6⟩ := h
  exact ⟨_, _, _, _, _, _, rfl, c1, c2, c3, c4, c5, c6⟩
theorem chk_comp2 {own own1 : List Nat} {elt : E} {tg tg1 : Tg} {it it1 : Rf.It} {ifs ifs1 : Es} {e : Expr} (h : chkE p nm (.comp2 own own1 elt tg it ifs tg1 it1 ifs1) e = true) : ∃ x t i fs t1 i1 fs1 scope pos, e = .ListComp x [⟨t, i, fs, 0⟩, ⟨t1, i1, fs1, 0⟩] scope pos ∧ blkB nm scope own = true ∧ chkIt p nm it t i = true ∧ notSet i = true ∧ chkT (inNm nm scope) tg t = true ∧ chkEs p (inNm nm scope) ifs fs = true ∧ own1.all own.contains = true ∧
    chkIt p (inNm nm scope) it1 t1 i1 = true ∧ notSet i1 = true ∧ chkT (inNm nm scope) tg1 t1 = true ∧ chkEs p (inNm nm scope) ifs1 fs1 = true ∧ chkE p (inNm nm scope) elt x = true := by
  unfold chkE at h
  split at h
  all_goals first
    | (rename_i q; cases q; done)
    | (cases h; done)
    | skip
  rename_i hm
  cases hm
  simp only [Bool.and_eq_true] at h
  obtain ⟨⟨⟨⟨⟨⟨⟨⟨⟨⟨c1, c2⟩, c3⟩, c4⟩, c5⟩, c6⟩, c7⟩, c8⟩, c9⟩, c10⟩, c11⟩ := h
  exact ⟨_, _, _, _, _, _, _, _, _, rfl, c1, c2, c3, c4, c5, c6, c7, c8, c9, c10, c11⟩
theorem chk_r1 {a : E} {e : Expr} (h : chkR p nm (.r1 a) e = true) : ∃ np y pos, e = .Call (.Name "range" np) [y] [] pos ∧ blt p nm "range" = true ∧ chkE p nm a y = true ∧ noStar y = true := by
  unfold chkR at h
  split at h
  all_goals first
    | (rename_i q; cases q; done)
    | (cases h; done)
    | skip
  rename_i hm
  cases hm
  simp only [Bool.and_eq_true, decide_eq_true_eq] at h
  obtain ⟨⟨⟨rfl, c1⟩, c2⟩, c3⟩ := h
  exact ⟨_, _, _, rfl, c1, c2, c3⟩
theorem chk_r2 {a b : E} {e : Expr} (h : chkR p nm (.r2 a b) e = true) : ∃ np y z pos, e = .Call (.Name "range" np) [y, z] [] pos ∧ blt p nm "range" = true ∧ chkE p nm a y = true ∧ chkE p nm b z = true ∧ noStar y = true ∧ noStar z = true := by
  unfold chkR at h
  split at h
  all_goals first
    | (rename_i q; cases q; done)
    | (cases h; done)
    | skip
  rename_i hm
  cases hm
  simp only [Bool.and_eq_true, decide_eq_true_eq] at h
  obtain ⟨⟨⟨⟨⟨rfl, c1⟩, c2⟩, c3⟩, c4⟩, c5⟩ := h
  exact ⟨_, _, _, _, rfl, c1, c2, c3, c4, c5⟩
theorem chk_i1 {a : E} {t e : Expr} (h : chkIt p nm (.r1 a) t e = true) : ∃ np y pos, e = .Call (.Name "range" np) [y] [] pos ∧ blt p nm "range" = true ∧ chkE p nm a y = true ∧ noStar y = true := by
  unfold chkIt at h
  split at h
  all_goals first
    | (rename_i q; cases q; done)
    | (cases h; done)
    | skip
  rename_i hm
  cases hm
  simp only [Bool.and_eq_true, decide_eq_true_eq] at h
  obtain ⟨⟨⟨rfl, c1⟩, c2⟩, c3⟩ := h
  exact ⟨_, _, _, rfl, c1, c2, c3⟩
theorem chk_i2 {a b : E} {t e : Expr} (h : chkIt p nm (.r2 a b) t e = true) : ∃ np y z pos, e = .Call (.Name "range" np) [y, z] [] pos ∧ blt p nm "range" = true ∧ chkE p nm a y = true ∧ chkE p nm b z = true ∧ noStar y = true ∧ noStar z = true := by
  unfold chkIt at h
  split at h
  all_goals first
    | (rename_i q; cases q; done)
    | (cases h; done)
    | skip
  rename_i hm
  cases hm
  simp only [Bool.and_eq_true, decide_eq_true_eq] at h
  obtain ⟨⟨⟨⟨⟨rfl, c1⟩, c2⟩, c3⟩, c4⟩, c5⟩ := h
  exact ⟨_, _, _, _, rfl, c1, c2, c3, c4, c5⟩
theorem chk_i3 {a b d : E} {t e : Expr} (h : chkIt p nm (.r3 a b d) t e = true) : ∃ np y z w pos, e = .Call (.Name "range" np) [y, z, w] [] pos ∧ blt p nm "range" = true ∧ chkE p nm a y = true ∧ chkE p nm b z = true ∧ chkE p nm d w = true ∧ noStar y = true ∧ noStar z = true ∧ noStar w = true := by
  unfold chkIt at h
  split at h
  all_goals first
    | (rename_i q; cases q; done)
    | (cases h; done)
    | skip
  rename_i hm
  cases hm
  simp only [Bool.and_eq_true, decide_eq_true_eq] at h
  obtain ⟨⟨⟨⟨⟨⟨⟨rfl, c1⟩, c2⟩, c3⟩, c4⟩, c5⟩, c6⟩, c7⟩ := h
  exact ⟨_, _, _, _, _, rfl, c1, c2, c3, c4, c5, c6, c7⟩
theorem chk_ie {a : E} {t e : Expr} (h : chkIt p nm (.enu a) t e = true) : ∃ ts tk tp np y pos, t = .Tuple ts tk tp ∧ e = .Call (.Name "enumerate" np) [y] [] pos ∧ blt p nm "enumerate" = true ∧ chkE p nm a y = true ∧ noStar y = true := by
  unfold chkIt at h
  split at h
  all_goals first
    | (rename_i q; cases q; done)
    | (cases h; done)
    | skip
  rename_i hm
  cases hm
  simp only [Bool.and_eq_true, decide_eq_true_eq] at h
  obtain ⟨⟨⟨rfl, c1⟩, c2⟩, c3⟩ := h
  exact ⟨_, _, _, _, _, _, rfl, rfl, c1, c2, c3⟩
theorem chk_iz {a b : E} {t e : Expr} (h : chkIt p nm (.zip a b) t e = true) : ∃ ts tk tp np y z pos, t = .Tuple ts tk tp ∧ e = .Call (.Name "zip" np) [y, z] [] pos ∧ blt p nm "zip" = true ∧ chkE p nm a y = true ∧ chkE p nm b z = true ∧ noStar y = true ∧ noStar z = true := by
  unfold chkIt at h
  split at h
  all_goals first
    | (rename_i q; cases q; done)
    | (cases h; done)
    | skip
  rename_i hm
  cases hm
  simp only [Bool.and_eq_true, decide_eq_true_eq] at h
  obtain ⟨⟨⟨⟨⟨rfl, c1⟩, c2⟩, c3⟩, c4⟩, c5⟩ := h
  exact ⟨_, _, _, _, _, _, _, rfl, rfl, c1, c2, c3, c4, c5⟩
mutual
theorem soundE : ∀ (m : E) {X : Cx} {W : WX} {nm : Nm} {O : List Nat} {e : Expr}, XOk p n fnA exA X W → XN X nm → chkE p nm m e = true → okE O m = true → Snd fnA exA X W O (cfg p n) (frE p m) m e
  | .var i, X, W, nm, O, e, xk, xn, hc, ho => by
    cases e <;> first | (cases hc; done) | skip
    exact .pl (s_var xn (by simpa [chkE] using hc) (by simpa [okE] using ho)) rfl
  | .con k, X, W, nm, O, e, xk, xn, hc, ho => by
    cases e <;> first | (cases hc; done) | skip
    exact .pl (s_con (by simpa [chkE] using hc)) rfl
  | .glo x, X, W, nm, O, e, xk, xn, hc, ho => by
    cases e <;> first | (cases hc; done) | skip
    simp only [chkE, Bool.and_eq_true, decide_eq_true_eq] at hc
    exact .pl (s_glo xk xn hc.1.1.1 hc.1.1.2 hc.1.2 hc.2 fun _ => rfl) rfl
  | .tup es, X, W, nm, O, e, xk, xn, hc, ho => by
    cases e <;> first | (cases hc; done) | skip
    exact .pl (s_tup (soundEs es xk xn (by simpa [chkE] using hc) (by simpa [okE] using ho))) rfl
  | .lst es, X, W, nm, O, e, xk, xn, hc, ho => by
    cases e <;> first | (cases hc; done) | skip
    exact .pl (s_lst (soundEs es xk xn (by simpa [chkE] using hc) (by simpa [okE] using ho))) rfl
  | .bin o a b, X, W, nm, O, e, xk, xn, hc, ho => by
    cases e <;> first | (cases hc; done) | skip
    simp only [chkE, okE, Bool.and_eq_true] at hc ho
    have e1 := isBop_eq hc.1.1
    subst e1
    exact .pl (s_bin (soundE a xk xn hc.1.2 ho.1).v (soundE b xk xn hc.2 ho.2).v) rfl
  | .neg a, X, W, nm, O, e, xk, xn, hc, ho => by
    cases e <;> first | (cases hc; done) | skip
    rename_i op x pos
    cases op <;> first | (cases hc; done) | skip
    simp only [chkE, okE] at hc ho
    exact .pl (s_neg (soundE a xk xn hc ho).v) rfl
  | .cmp o a b, X, W, nm, O, e, xk, xn, hc, ho => by
    cases e <;> first | (cases hc; done) | skip
    rename_i l ops cs pos
    match ops, cs, hc with
    | [q], [y], hc =>
      simp only [chkE, okE, Bool.and_eq_true] at hc ho
      have e1 := isCop_eq hc.1.1.1
      subst e1
      have ha := (soundE a xk xn hc.1.1.2 ho.1).v
      have hb := (soundE b xk xn hc.1.2 ho.2).v
      exact ⟨s_cmp xk ha hb hc.2, t_cmp xk ha hb hc.2⟩
    | [], _, hc => cases hc
    | [_], [], hc => cases hc
    | [_], _ :: _ :: _, hc => cases hc
    | _ :: _ :: _, _, hc => cases hc
  | .chn o q a b d, X, W, nm, O, e, xk, xn, hc, ho => by
    cases e <;> first | (cases hc; done) | skip
    rename_i l ops cs pos
    match ops, cs, hc with
    | [o', q'], [y, z], hc =>
      simp only [chkE, okE, Bool.and_eq_true] at hc ho
      obtain ⟨⟨⟨⟨⟨h1, h2⟩, h3⟩, h4⟩, h5⟩, h6⟩ := hc
      have e1 := isCop_eq h1
      have e2 := isCop_eq h2
      subst e1 e2
      have ha := (soundE a xk xn h3 ho.1.1).v
      have hb := (soundE b xk xn h4 ho.1.2).v
      have hd := (soundE d xk xn h5 ho.2).v
      exact ⟨s_chn xk ha hb hd h6, t_chn xk ha hb hd h6⟩
    | [], _, hc => cases hc
    | [_], _, hc => cases hc
    | [_, _], [], hc => cases hc
    | [_, _], [_], hc => cases hc
    | [_, _], _ :: _ :: _ :: _, hc => cases hc
    | _ :: _ :: _ :: _, _, hc => cases hc
  | .and a b, X, W, nm, O, e, xk, xn, hc, ho => by
    cases e <;> first | (cases hc; done) | skip
    rename_i op vs pos
    cases op <;> first | (cases hc; done) | skip
    match vs, hc with
    | x :: y :: r, hc =>
      simp only [chkE, okE, Bool.and_eq_true] at hc ho
      have ha := soundE a xk xn hc.1 ho.1
      have hb := soundE b xk xn hc.2 ho.2
      exact ⟨s_and ha.v hb.n.fw rfl, t_and ha.t hb.t⟩
    | [], hc => cases hc
    | [_], hc => cases hc
  | .or a b, X, W, nm, O, e, xk, xn, hc, ho => by
    cases e <;> first | (cases hc; done) | skip
    rename_i op vs pos
    cases op <;> first | (cases hc; done) | skip
    match vs, hc with
    | x :: y :: r, hc =>
      simp only [chkE, okE, Bool.and_eq_true] at hc ho
      have ha := soundE a xk xn hc.1 ho.1
      have hb := soundE b xk xn hc.2 ho.2
      refine ⟨?_, t_or ha.t hb.t⟩
      have z := d_or (pos := pos) ha.n hb.n
      simp only [frE]
      exact z
    | [], hc => cases hc
    | [_], hc => cases hc
  | .not a, X, W, nm, O, e, xk, xn, hc, ho => by
    cases e <;> first | (cases hc; done) | skip
    rename_i op x pos
    cases op <;> first | (cases hc; done) | skip
    simp only [chkE, okE] at hc ho
    have ha := soundE a xk xn hc ho
    exact ⟨s_not ha.v, t_not ha.t⟩
  | .ite t a b, X, W, nm, O, e, xk, xn, hc, ho => by
    cases e <;> first | (cases hc; done) | skip
    simp only [chkE, okE, Bool.and_eq_true] at hc ho
    have ht := soundE t xk xn hc.1.1 ho.1.1
    have ha := soundE a xk xn hc.1.2 ho.1.2
    have hb := soundE b xk xn hc.2 ho.2
    refine ⟨?_, t_ite ht.t ha.t hb.t⟩
    exact d_ite ht.t ha.n hb.n
  | .call f es, X, W, nm, O, e, xk, xn, hc, ho => by
    cases e <;> first | (cases hc; done) | skip
    rename_i fe xs kws pos
    cases fe <;> first | (cases hc; done) | skip
    cases kws <;> first | (cases hc; done) | skip
    simp only [chkE, okE, Bool.and_eq_true] at hc ho
    exact d_call xk xn hc.1 hc.2 (soundEs es xk xn hc.2 ho)
  | .callk f ks es, X, W, nm, O, e, xk, xn, hc, ho => by
    cases e <;> first | (cases hc; done) | skip
    rename_i fe xs kws pos
    cases fe <;> first | (cases hc; done) | skip
    cases xs <;> first | (cases hc; done) | skip
    simp only [chkE, okE, Bool.and_eq_true] at hc ho
    exact d_callk xk xn hc.1.1 hc.1.2 hc.2 (soundK es xk xn hc.2 ho)
  | .calll f i es, X, W, nm, O, e, xk, xn, hc, ho => by
    cases e <;> first | (cases hc; done) | skip
    rename_i fe xs kws pos
    cases fe <;> first | (cases hc; done) | skip
    cases xs <;> first | (cases hc; done) | skip
    rename_i y ys
    cases y <;> first | (cases hc; done) | skip
    cases kws <;> first | (cases hc; done) | skip
    simp only [chkE, okE, Bool.and_eq_true] at hc ho
    exact d_calll xk xn hc.1.1 hc.1.2 ho.1 hc.2 (soundEs es xk xn hc.2 ho.2)
  | .bi b es, X, W, nm, O, e, xk, xn, hc, ho => by
    cases e <;> first | (cases hc; done) | skip
    rename_i fe xs kws pos
    cases fe <;> first | (cases hc; done) | skip
    cases kws <;> first | (cases hc; done) | skip
    cases xs with
    | nil => simp [chkE] at hc
    | cons y ys =>
      simp only [chkE, okE, Bool.and_eq_true] at hc ho
      exact .pl (s_bi xk xn hc.1.1 (soundEs es xk xn hc.2 ho) (chkEs_noStar hc.2).1) rfl
  | .isi a ts, X, W, nm, O, e, xk, xn, hc, ho => by
    obtain ⟨np, y, t, pos, rfl, c1, c2, c3, c4⟩ := chk_isi hc
    simp only [okE] at ho
    exact .pl (s_isi xk xn rfl c1 (soundE a xk xn c2 ho).v c3 c4) rfl
  | .itm a i, X, W, nm, O, e, xk, xn, hc, ho => by
    cases e <;> first | (cases hc; done) | skip
    simp only [chkE, okE, Bool.and_eq_true] at hc ho
    exact .pl (s_itm (soundE a xk xn hc.1.1 ho.1).v (soundE i xk xn hc.1.2 ho.2).v hc.2) rfl
  | .itv v i, X, W, nm, O, e, xk, xn, hc, ho => by
    cases e <;> first | (cases hc; done) | skip
    rename_i b s pos
    cases b <;> first | (cases hc; done) | skip
    simp only [chkE, okE, Bool.and_eq_true] at hc ho
    exact .pl (s_itv xn hc.1.1 (soundE i xk xn hc.1.2 ho).v hc.2) rfl
  | .lnv v, X, W, nm, O, e, xk, xn, hc, ho => by
    cases e <;> first | (cases hc; done) | skip
    rename_i f as kws pos
    cases f <;> first | (cases hc; done) | skip
    rename_i x np
    match as, kws, hc with
    | [.Name y yp], [], hc =>
      simp only [chkE, Bool.and_eq_true] at hc
      exact .pl (s_lnv xk xn hc.1 hc.2) rfl
  | .slc a lo hi, X, W, nm, O, e, xk, xn, hc, ho => by
    cases e <;> first | (cases hc; done) | skip
    rename_i b s pos
    cases s <;> first | (cases hc; done) | skip
    rename_i l h st p2
    cases st <;> first | (cases hc; done) | skip
    simp only [chkE, okE, Bool.and_eq_true] at hc ho
    exact .pl (s_slc (soundE a xk xn hc.1.1 ho.1.1).v (soundO lo xk xn hc.1.2 ho.1.2) (soundO hi xk xn hc.2 ho.2)) rfl
  | .rev a, X, W, nm, O, e, xk, xn, hc, ho => by
    unfold chkE at hc
    split at hc <;> first | (cases hc; done) | (rename_i h; cases h; done) | skip
    all_goals first
      | (rename_i hm; cases hm; simp only [okE] at ho; exact .pl (s_rev (soundE a xk xn hc ho).v) rfl)
      | (simp at hc)
  | .idx a b, X, W, nm, O, e, xk, xn, hc, ho => by
    obtain ⟨x, ap, y, ps, rfl, c1, c2, c3, c4, c5⟩ := chk_idx hc
    simp only [okE, Bool.and_eq_true] at ho
    exact .pl (s_idx xk rfl (soundE a xk xn c1 ho.1).v (soundE b xk xn c2 ho.2).v c3 c4 c5) rfl
  | .rngL it, X, W, nm, O, e, xk, xn, hc, ho => by
    obtain ⟨np, y, pos, rfl, c1, c2⟩ := chk_rngL hc
    simp only [okE] at ho
    obtain ⟨te, h1, h2, h3⟩ := soundR it xk xn c2 ho
    exact .pl (s_rngL xk xn rfl c1 h1 h2 fun σ H Q h => h3 .lst true σ H Q _ h fun F1 H1 ρ1 i j s ok w => ⟨ok, Ans.lst (o := some (.lst _)) (RdR.ans (fr := true) w s) rfl s.fok (rng_FRs i j)⟩) rfl
  | .rngT it, X, W, nm, O, e, xk, xn, hc, ho => by
    obtain ⟨np, y, pos, rfl, c1, c2⟩ := chk_rngT hc
    simp only [okE] at ho
    obtain ⟨te, h1, h2, h3⟩ := soundR it xk xn c2 ho
    exact .pl (s_rngT xk xn rfl c1 h1 h2 fun σ H Q h => h3 .tup false σ H Q _ h fun F1 H1 ρ1 i j s ok w => ⟨ok, fun q hq => w.grown s (.new hq) (fok_new s.fok hq) (by unfold RN; exact .tup (.inl ⟨.inr rfl, .inl upd_same⟩) ((rng_FRs i j).ext (.new hq) fun _ _ => id))⟩) rfl
  | .comp own elt tg it ifs, X, W, nm, O, e, xk, xn, hc, ho => by
    obtain ⟨x, t, i, fs, scope, pos, rfl, c1, c2, c3, c4, c5, c6⟩ := chk_comp hc
    simp only [okE, Bool.and_eq_true] at ho
    obtain ⟨⟨⟨⟨o1, o2⟩, o3⟩, o4⟩, o5⟩ := ho
    have b3 := (blkB_ok xn c1).2.2
    exact .pl (d_comp xk xn c1 (soundIt it xk xn c2 o2) c3 c4 (fun s H C cl fp => soundIf ifs xk.blk (xn.blk b3) c5 o3) (fun s H C cl fp => (soundE elt xk.blk (xn.blk b3) c6 o4).v) o1 o5) rfl
  | .comp2 own own1 elt tg it ifs tg1 it1 ifs1, X, W, nm, O, e, xk, xn, hc, ho => by
    obtain ⟨x, t, i, fs, t1, i1, fs1, scope, pos, rfl, c1, c2, c3, c4, c5, c6, c7, c8, c9, c10, c11⟩ := chk_comp2 hc
    simp only [okE, Bool.and_eq_true] at ho
    obtain ⟨⟨⟨⟨⟨⟨⟨⟨⟨o1, o2⟩, o3⟩, o4⟩, o5⟩, o6⟩, o7⟩, o8⟩, o9⟩, o10⟩ := ho
    have b3 := (blkB_ok xn c1).2.2
    exact .pl (d_comp2 xk xn c1 (soundIt it xk xn c2 o2) c3 c4 (fun s H C cl fp => soundIf ifs xk.blk (xn.blk b3) c5 o3) (fun s H C cl fp => soundIt it1 xk.blk (xn.blk b3) c7 o4) c8 c9 (fun s H C cl fp => soundIf ifs1 xk.blk (xn.blk b3) c10 o5) (fun s H C cl fp => (soundE elt xk.blk (xn.blk b3) c11 o6).v) o1 o7 o8 o9) rfl
/-- a range as an argument -/
theorem soundR : ∀ (m : Rf.It) {X : Cx} {W : WX} {nm : Nm} {O : List Nat} {e : Expr}, XOk p n fnA exA X W → XN X nm → chkR p nm m e = true → okIt O m = true →
    ∃ te : L2.St → Hp → (Int → Int → Hp → Prop) → Prop, PRg X e te ∧ noStar e = true ∧ ∀ (mk : List Val → Val) (fr : Bool) (σ : L2.St) (H : Hp) (Q : VK) (R : Int → Int → Hp → Prop), Rd X.K fnA exA O W (RN X.K fnA fr) (fun ρ => (evIt (cfg p n) m ρ).bind fun vs ρ => if vs.length ≤ sizeLine then .ok (mk vs) ρ else .bad) σ H Q →
      (∀ F1 H1 ρ1 (i j : Int), St X.K fnA O F1 H1 σ ρ1 → RgOk i j → RdR X.K fnA exA O W (RN X.K fnA fr) (.ok (mk (rangeV i (j - i).toNat 1)) ρ1) F1 H1 σ ρ1 Q → R i j H1) → te σ H R
  | .r1 a, X, W, nm, O, e, xk, xn, hc, ho => by
    obtain ⟨np, y, pos, rfl, c1, c2, c3⟩ := chk_r1 hc
    simp only [okIt] at ho
    obtain ⟨hg, hm⟩ := blt_ok xk xn c1
    exact ⟨_, prg_1 hg hm (soundE a xk xn c2 ho).v (noStar_ok c3 _ _), rfl, fun mk fr σ H Q R h k => rng1_of h k⟩
  | .r2 a b, X, W, nm, O, e, xk, xn, hc, ho => by
    obtain ⟨np, y, z, pos, rfl, c1, c2, c3, c4, c5⟩ := chk_r2 hc
    simp only [okIt, Bool.and_eq_true] at ho
    obtain ⟨hg, hm⟩ := blt_ok xk xn c1
    exact ⟨_, prg_2 hg hm (soundE a xk xn c2 ho.1).v (soundE b xk xn c3 ho.2).v (noStar_ok c4 _ _) (noStar_ok c5 _ _) (backTo_none (by simp [c5])), rfl, fun mk fr σ H Q R h k => rng2_of h k⟩
  | .seq _, X, W, nm, O, e, xk, xn, hc, ho => by cases e <;> cases hc
  | .r3 _ _ _, X, W, nm, O, e, xk, xn, hc, ho => by cases e <;> cases hc
  | .enu _, X, W, nm, O, e, xk, xn, hc, ho => by cases e <;> cases hc
  | .zip _ _, X, W, nm, O, e, xk, xn, hc, ho => by cases e <;> cases hc
theorem soundIf : ∀ (m : Es) {X : Cx} {W : WX} {nm : Nm} {O : List Nat} {e : List Expr}, XOk p n fnA exA X W → XN X nm → chkEs p nm m e = true → okIf O m = true → PTsv fnA exA X W O (cfg p n) m e
  | .nil, X, W, nm, O, [], xk, xn, hc, ho => s_ifs0
  | .nil, X, W, nm, O, _ :: _, xk, xn, hc, ho => by cases hc
  | .cons a as, X, W, nm, O, [], xk, xn, hc, ho => by cases hc
  | .cons a .nil, X, W, nm, O, [x], xk, xn, hc, ho => by
    simp only [chkEs, okIf, Bool.and_eq_true] at hc ho
    exact s_ifs1 (soundE a xk xn hc.1.1 ho).t
  | .cons a .nil, X, W, nm, O, _ :: _ :: _, xk, xn, hc, ho => by simp [chkEs] at hc
  | .cons a (.cons b as), X, W, nm, O, [_], xk, xn, hc, ho => by simp [chkEs] at hc
  | .cons a (.cons b as), X, W, nm, O, x :: y :: xs, xk, xn, hc, ho => by cases ho
theorem soundIt : ∀ (m : Rf.It) {X : Cx} {W : WX} {nm : Nm} {O : List Nat} {t e : Expr}, XOk p n fnA exA X W → XN X nm → chkIt p nm m t e = true → okIt O m = true → PIv fnA exA X W O (cfg p n) m t e
  | .seq a, X, W, nm, O, t, e, xk, xn, hc, ho => by
    simp only [chkIt, okIt] at hc ho
    exact i_seq (soundE a xk xn hc ho).v
  | .r1 a, X, W, nm, O, t, e, xk, xn, hc, ho => by
    obtain ⟨np, y, pos, rfl, c1, c2, c3⟩ := chk_i1 hc
    simp only [okIt] at ho
    exact i_r1 xk xn rfl c1 (soundE a xk xn c2 ho).v c3
  | .r2 a b, X, W, nm, O, t, e, xk, xn, hc, ho => by
    obtain ⟨np, y, z, pos, rfl, c1, c2, c3, c4, c5⟩ := chk_i2 hc
    simp only [okIt, Bool.and_eq_true] at ho
    exact i_r2 xk xn rfl c1 (soundE a xk xn c2 ho.1).v (soundE b xk xn c3 ho.2).v c4 c5
  | .r3 a b d, X, W, nm, O, t, e, xk, xn, hc, ho => by
    obtain ⟨np, y, z, w, pos, rfl, c1, c2, c3, c4, c5, c6, c7⟩ := chk_i3 hc
    simp only [okIt, Bool.and_eq_true] at ho
    exact i_r3 xk xn rfl c1 (soundE a xk xn c2 ho.1.1).v (soundE b xk xn c3 ho.1.2).v (soundE d xk xn c4 ho.2).v c5 c6 c7
  | .enu a, X, W, nm, O, t, e, xk, xn, hc, ho => by
    obtain ⟨ts, tk, tp, np, y, pos, rfl, rfl, c1, c2, c3⟩ := chk_ie hc
    simp only [okIt] at ho
    exact i_enu xk xn rfl c1 (soundE a xk xn c2 ho).v c3
  | .zip a b, X, W, nm, O, t, e, xk, xn, hc, ho => by
    obtain ⟨ts, tk, tp, np, y, z, pos, rfl, rfl, c1, c2, c3, c4, c5⟩ := chk_iz hc
    simp only [okIt, Bool.and_eq_true] at ho
    exact i_zip xk xn rfl c1 (soundE a xk xn c2 ho.1).v (soundE b xk xn c3 ho.2).v c4 c5
theorem soundEs : ∀ (m : Es) {X : Cx} {W : WX} {nm : Nm} {O : List Nat} {e : List Expr}, XOk p n fnA exA X W → XN X nm → chkEs p nm m e = true → okEs O m = true → PAv fnA exA X W O (cfg p n) m e
  | .nil, X, W, nm, O, [], xk, xn, hc, ho => s_nil
  | .nil, X, W, nm, O, _ :: _, xk, xn, hc, ho => by cases hc
  | .cons a as, X, W, nm, O, [], xk, xn, hc, ho => by cases hc
  | .cons a as, X, W, nm, O, x :: xs, xk, xn, hc, ho => by
    simp only [chkEs, okEs, Bool.and_eq_true] at hc ho
    exact s_cons (soundE a xk xn hc.1.1 ho.1).v (soundEs as xk xn hc.2 ho.2) hc.1.2
theorem soundK : ∀ (m : Es) {X : Cx} {W : WX} {nm : Nm} {O : List Nat} {e : List Keyword}, XOk p n fnA exA X W → XN X nm → chkK p nm m e = true → okEs O m = true → PKv fnA exA X W O (cfg p n) m e
  | .nil, X, W, nm, O, [], xk, xn, hc, ho => s_knil
  | .nil, X, W, nm, O, _ :: _, xk, xn, hc, ho => by cases hc
  | .cons a as, X, W, nm, O, [], xk, xn, hc, ho => by cases hc
  | .cons a as, X, W, nm, O, ⟨nk, x, kp⟩ :: xs, xk, xn, hc, ho => by
    simp only [chkK, okEs, Bool.and_eq_true] at hc ho
    exact s_kcons (soundE a xk xn hc.1 ho.1).v (soundK as xk xn hc.2 ho.2)
theorem soundO : ∀ (m : Oe) {X : Cx} {W : WX} {nm : Nm} {O : List Nat} {e : Option Expr}, XOk p n fnA exA X W → XN X nm → chkO p nm m e = true → okO O m = true → POv fnA exA X W O (cfg p n) m e
  | .none, X, W, nm, O, none, xk, xn, hc, ho => s_onone
  | .none, X, W, nm, O, some _, xk, xn, hc, ho => by cases hc
  | .some a, X, W, nm, O, none, xk, xn, hc, ho => by cases hc
  | .some a, X, W, nm, O, some x, xk, xn, hc, ho => by
    simp only [chkO, okO] at hc ho
    exact s_osome (soundE a xk xn hc ho).v
end
end
end Rf

set_option Elab.async false
set_option linter.all false
set_option maxRecDepth 100000
set_option maxHeartbeats 4000000
/-! The reflective layer, part P: the slots relative to a def's entry; readings of statements. -/
namespace Rf
open PySem PySem.Spec PyProof.Rows L2

/-- how a def was entered -/
structure En where
  lent : Bool
  fresh : Bool
  as : List Val
  vs : List V
  F : Addr → Prop
  H : Hp
abbrev En.Mu (en : En) : Addr → Prop := MuA en.lent en.as en.vs
section
variable (K : PySem.W.Frag) (fnA exA : Nat → Option Addr)
structure StF (en : En) (O : List Nat) (F : Addr → Prop) (H : Hp) (σ : L2.St) (ρ : Env) : Prop where
  st : St K fnA O F H σ ρ
  x : Ext en.Mu en.F en.H F H
  nw : ∀ i vs a, i ∈ O → getV ρ i = some (.lst vs) → σ[i]? = some (some (.ref a)) → en.H a = none ∨ (en.lent = true ∧ i = 0)
  l0 : en.lent = true → 0 ∈ O ∧ ∃ a0 r u0 s, en.as = a0 :: r ∧ en.vs = u0 :: s ∧ σ[0]? = some (some u0) ∧ ((∃ xs, a0 = .lst xs) ↔ ∃ xs, getV ρ 0 = some (.lst xs))
end
/-- how the lent list lies behind -/
def OutS (K : PySem.W.Frag) (fnA : Nat → Option Addr) (en : En) (F' : Addr → Prop) (H' : Hp) (ρ' : Env) : Prop := en.lent = true → ∀ v0, getV ρ' 0 = some v0 → ∀ a r u s, en.as = a :: r → en.vs = u :: s → Own K fnA F' H' v0 u ∧ ((∃ xs, a = .lst xs) ↔ ∃ xs, v0 = .lst xs)
/-- what was frozen stays -/
structure Fz (F : Addr → Prop) (H : Hp) (F' : Addr → Prop) (H' : Hp) : Prop where
  fs : ∀ a, F a → F' a
  kp : Kp F H H'
theorem Fz.refl {F : Addr → Prop} {H : Hp} : Fz F H F H := ⟨fun _ h => h, fun _ _ _ h => h⟩
theorem Fz.trans {F F1 F2 : Addr → Prop} {H H1 H2 : Hp} (a : Fz F H F1 H1) (b : Fz F1 H1 F2 H2) : Fz F H F2 H2 := ⟨fun x h => b.fs x (a.fs x h), fun x o f e => b.kp x o (a.fs x f) (a.kp x o f e)⟩
section
variable (K : PySem.W.Frag) (fnA exA : Nat → Option Addr)
/-- what a run of statements asks; r: the slots owned behind it (none: it never comes there) -/
def RdT (en : En) (r : Option (List Nat)) (W : WX) (t : Rt) (F : Addr → Prop) (H : Hp) (D : Ends) : Prop := match t with
  | .nx ρ' => ∀ O', r = some O' → ∀ F' H' σ', Fz F H F' H' → StF K fnA en O' F' H' σ' ρ' → D.nx σ' H'
  | .ret v ρ' => ∀ F' H' u, Ext en.Mu en.F en.H F' H' → (∀ a, F' a → ∃ o, H' a = some o) → RN K fnA en.fresh en.H F' H' v u → OutS K fnA en F' H' ρ' → D.rt u H'
  | .exc x => ∀ F' H' C d σ', Ext en.Mu en.F en.H F' H' → exA x = some C → W (.ref C) d σ' H'
  | .bad => False
def RdS (en : En) (O : List Nat) (r : Option (List Nat)) (W : WX) (ev : Env → Rt) : TS := fun D σ H => ∃ F ρ, StF K fnA en O F H σ ρ ∧ RdT K fnA exA en r W (ev ρ) F H D
end
section
variable {K : PySem.W.Frag} {fnA exA : Nat → Option Addr} {en : En} {O : List Nat} {W : WX} {F : Addr → Prop} {H : Hp} {σ : L2.St} {ρ : Env} {r : Option (List Nat)} {D : Ends}
theorem RdT.later {t : Rt} (h : RdT K fnA exA en r W t F H D) {F1 : Addr → Prop} {H1 : Hp} (z : Fz F H F1 H1) : RdT K fnA exA en r W t F1 H1 D := by
  cases t with
  | nx ρ => exact fun O' e F' H' σ' z' s => h O' e F' H' σ' (z.trans z') s
  | ret v ρ => exact h
  | exc x => exact h
  | bad => exact h
theorem StF.muE (s : StF K fnA en O F H σ ρ) : ∀ a, Mu O σ ρ a → en.Mu a ∨ en.H a = none := fun a ⟨i, vs, hi, e1, e2⟩ => by
  rcases s.nw i vs a hi e1 e2 with z | ⟨z1, rfl⟩
  · exact .inr z
  · left
    obtain ⟨h0, a0, r, u0, s0, ea, ev, eσ, hl⟩ := s.l0 z1
    obtain ⟨xs, rfl⟩ := hl.mpr ⟨_, e1⟩
    rw [e2] at eσ; cases eσ
    exact ⟨z1, xs, r, s0, ea, ev⟩
/-- some of the owned lists are frozen -/
def Dr (O O' : List Nat) (σ : L2.St) (ρ : Env) : Addr → Prop := fun a => ∃ i vs, i ∈ O ∧ i ∉ O' ∧ getV ρ i = some (.lst vs) ∧ σ[i]? = some (some (.ref a))
theorem St.drop (s : St K fnA O F H σ ρ) {O' : List Nat} (h : ∀ i, i ∈ O' → i ∈ O) : St K fnA O' (fun a => F a ∨ Dr O O' σ ρ a) H σ ρ where
  fok := fun a f => by
    rcases f with f | ⟨i, vs, h1, h2, h3, h4⟩
    · exact s.fok a f
    · obtain ⟨us, e⟩ := s.muSome a ⟨i, vs, h1, h3, h4⟩
      exact ⟨_, e⟩
  len := s.len
  fz := fun i v e hi => by
    by_cases hO : i ∈ O
    · obtain ⟨u, eu, ow⟩ := s.ow i v e hO
      refine ⟨u, eu, ?_⟩
      rcases ow with ⟨vs, us, a, rfl, rfl, hn, ea, rs⟩ | ⟨hn, r⟩
      · exact .lst (.inl ⟨.inr ⟨i, vs, hO, hi, e, eu⟩, .inl ea⟩) (rs.mono (fun _ => .inl) fun _ _ _ e => e)
      · exact r.mono (fun _ => .inl) fun _ _ _ e => e
    · obtain ⟨u, eu, r⟩ := s.fz i v e hO
      exact ⟨u, eu, r.mono (fun _ => .inl) fun _ _ _ e => e⟩
  ow := fun i v e hi => by
    obtain ⟨u, eu, ow⟩ := s.ow i v e (h i hi)
    refine ⟨u, eu, ?_⟩
    rcases ow with ⟨vs, us, a, rfl, rfl, hn, ea, rs⟩ | ⟨hn, r⟩
    · refine .inl ⟨vs, us, a, rfl, rfl, fun f => ?_, ea, rs.mono (fun _ => .inl) fun _ _ _ e => e⟩
      rcases f with f | ⟨j, ws, h1, h2, h3, h4⟩
      · exact hn f
      · have := s.dj i j vs ws a (h i hi) h1 e h3 eu h4
        subst this
        exact h2 hi
    · exact .inr ⟨hn, r.mono (fun _ => .inl) fun _ _ _ e => e⟩
  dj := fun i j vs ws a hi hj => s.dj i j vs ws a (h i hi) (h j hj)
theorem StF.drop (s : StF K fnA en O F H σ ρ) {O' : List Nat} (h : ∀ i, i ∈ O' → i ∈ O) (h0 : en.lent = true → 0 ∈ O') : StF K fnA en O' (fun a => F a ∨ Dr O O' σ ρ a) H σ ρ where
  st := s.st.drop h
  x := ⟨fun a f => .inl (s.x.fs a f), fun a f => by
    rcases f with f | ⟨i, vs, h1, h2, h3, h4⟩
    · exact s.x.nw a f
    · rcases s.nw i vs a h1 h3 h4 with z | ⟨z, rfl⟩
      · exact .inr z
      · exact absurd (h0 z) h2, s.x.kp, s.x.dm⟩
  nw := fun i vs a hi => s.nw i vs a (h i hi)
  l0 := fun z => ⟨h0 z, (s.l0 z).2⟩
theorem fz_drop {O' : List Nat} : Fz F H (fun a => F a ∨ Dr O O' σ ρ a) H := ⟨fun _ => .inl, fun _ _ _ e => e⟩
/-- the entry sees a step -/
theorem StF.step (s : StF K fnA en O F H σ ρ) {F' : Addr → Prop} {H' : Hp} {ρ' : Env} (x : Ext (Mu O σ ρ) F H F' H') (s' : St K fnA O F' H' σ ρ') (m : Sm O ρ ρ') : StF K fnA en O F' H' σ ρ' where
  st := s'
  x := s.x.trans x s.muE
  nw := fun i vs a hi e1 e2 => by
    obtain ⟨ws, e⟩ := m.own i vs hi e1
    exact s.nw i ws a hi e e2
  l0 := fun z => by
    obtain ⟨h0, a0, r, u0, s0, ea, ev, eσ, hl⟩ := s.l0 z
    exact ⟨h0, a0, r, u0, s0, ea, ev, eσ, hl.trans ⟨fun ⟨xs, e⟩ => m.bk 0 xs h0 e, fun ⟨xs, e⟩ => m.own 0 xs h0 e⟩⟩
theorem StF.out (s : StF K fnA en O F H σ ρ) : OutS K fnA en F H ρ := fun z v0 e0 a r u s2 ea ev => by
  obtain ⟨h0, a0, r', u0, s0, ea', ev', eσ, hl⟩ := s.l0 z
  rw [ea] at ea'; cases ea'
  rw [ev] at ev'; cases ev'
  obtain ⟨u', eu, ow⟩ := s.st.ow 0 v0 e0 h0
  rw [eσ] at eu; cases eu
  refine ⟨ow, hl.trans ⟨fun ⟨xs, e⟩ => ?_, fun ⟨xs, e⟩ => ⟨xs, e ▸ e0⟩⟩⟩
  rw [e0] at e; cases e
  exact ⟨xs, rfl⟩
/-! ### reading with some lists frozen for a while -/
theorem FR.scal {F F' : Addr → Prop} {H H' : Hp} : ∀ {v : Val} {u : V}, scalar v = true → FR K fnA F H v u → FR K fnA F' H' v u
  | _, _, _, .non => .non
  | _, _, _, .bl b => .bl b
  | _, _, _, .int i => .int i
  | _, _, _, .str x => .str x
  | _, _, h, .tup _ _ => by cases h
  | _, _, h, .lst _ _ => by cases h
  | _, _, h, .fn _ => by cases h
theorem FRs.scal {F F' : Addr → Prop} {H H' : Hp} : ∀ {v : List Val} {u : List V}, v.all scalar = true → FRs K fnA F H v u → FRs K fnA F' H' v u
  | _, _, _, .nil => .nil
  | _, _, h, .cons a b => by
    rw [List.all_cons, Bool.and_eq_true] at h
    exact .cons (a.scal h.1) (b.scal h.2)
/-- what stays frozen behind it -/
def Fk (F F' : Addr → Prop) (H : Hp) : Addr → Prop := fun a => F' a ∧ (F a ∨ H a = none)
theorem StF.thawX (s : StF K fnA en O F H σ ρ) {Oe : List Nat} (h : ∀ i, i ∈ Oe → i ∈ O) {F2 F' : Addr → Prop} {H' : Hp} (hF : ∀ a, F a → F2 a) (x : Ext (Mu Oe σ ρ) F2 H F' H') : Ext en.Mu en.F en.H (Fk F F' H) H' where
  fs := fun a f => ⟨x.fs a (hF a (s.x.fs a f)), .inl (s.x.fs a f)⟩
  nw := fun a f => by
    rcases f.2 with f | f
    · exact s.x.nw a f
    · right
      cases e : en.H a with
      | none => rfl
      | some o =>
        obtain ⟨o', e'⟩ := s.x.dm a o e
        rw [f] at e'; cases e'
  kp := fun a o e hn => x.kp a o (s.x.kp a o e hn) fun ⟨i, vs, hi, e1, e2⟩ => by
    rcases s.muE a ⟨i, vs, h i hi, e1, e2⟩ with z | z
    · exact hn z
    · rw [e] at z; cases z
  dm := fun a o e => let ⟨o', e'⟩ := s.x.dm a o e; x.dm a o' e'
theorem StF.thaw (s : StF K fnA en O F H σ ρ) {Oe : List Nat} (h : ∀ i, i ∈ Oe → i ∈ O) {F2 F' : Addr → Prop} {H' : Hp} {ρ' : Env} (hF : ∀ a, F a → F2 a) (s2 : St K fnA Oe F2 H σ ρ) (x : Ext (Mu Oe σ ρ) F2 H F' H') (s' : St K fnA Oe F' H' σ ρ') (m : Sm Oe ρ ρ')
    (l : ∀ i, i ∈ Oe → ∀ v, getV ρ' i = some v → scalarL v = true) : StF K fnA en O (Fk F F' H) H' σ ρ' ∧ Fz F H (Fk F F' H) H' := by
  have kF : ∀ a o, F a → H a = some o → H' a = some o := fun a o f e => x.kp a o e (s2.notMu a (hF a f))
  have sF : ∀ a, F a → Fk F F' H a := fun a f => ⟨x.fs a (hF a f), .inl f⟩
  refine ⟨⟨⟨fun a f => s'.fok a f.1, s'.len, fun i v e hi => ?_, fun i v e hi => ?_, fun i j vs ws a hi hj ei ej si sj => ?_⟩, s.thawX h hF x, fun i vs a hi e1 e2 => ?_, fun z => ?_⟩, sF, kF⟩
  · rw [m.out i fun z => hi (h i z)] at e
    obtain ⟨u, eu, r⟩ := s.st.fz i v e hi
    exact ⟨u, eu, r.mono sF kF⟩
  · by_cases hO : i ∈ Oe
    · obtain ⟨u, eu, ow⟩ := s'.ow i v e hO
      refine ⟨u, eu, ?_⟩
      have hl := l i hO v e
      rcases ow with ⟨vs, us, a, rfl, rfl, hn, ea, rs⟩ | ⟨hn, r⟩
      · exact .inl ⟨vs, us, a, rfl, rfl, fun f => hn f.1, ea, rs.scal hl⟩
      · refine .inr ⟨hn, r.scal ?_⟩
        cases v with
        | lst vs => exact absurd rfl (hn vs)
        | _ => exact hl
    · rw [m.out i hO] at e
      obtain ⟨u, eu, ow⟩ := s.st.ow i v e hi
      refine ⟨u, eu, ?_⟩
      rcases ow with ⟨vs, us, a, rfl, rfl, hn, ea, rs⟩ | ⟨hn, r⟩
      · refine .inl ⟨vs, us, a, rfl, rfl, fun f => ?_, x.kp a _ ea fun ⟨j, ws, hj, e1, e2⟩ => ?_, rs.mono sF kF⟩
        · rcases f.2 with f | f
          · exact hn f
          · rw [ea] at f; cases f
        · have := s.st.dj i j vs ws a hi (h j hj) e e1 eu e2
          subst this
          exact hO hj
      · exact .inr ⟨hn, r.mono sF kF⟩
  · have g : ∀ k zs, k ∈ O → getV ρ' k = some (.lst zs) → ∃ ys, getV ρ k = some (.lst ys) := fun k zs hk e => by
      by_cases hO : k ∈ Oe
      · exact m.own k zs hO e
      · exact ⟨zs, by rw [← m.out k hO]; exact e⟩
    obtain ⟨y1, g1⟩ := g i vs hi ei
    obtain ⟨y2, g2⟩ := g j ws hj ej
    exact s.st.dj i j y1 y2 a hi hj g1 g2 si sj
  · by_cases hO : i ∈ Oe
    · obtain ⟨ws, e⟩ := m.own i vs hO e1
      exact s.nw i ws a hi e e2
    · rw [m.out i hO] at e1
      exact s.nw i vs a hi e1 e2
  · obtain ⟨h0, a0, r, u0, s0, ea, ev, eσ, hl⟩ := s.l0 z
    refine ⟨h0, a0, r, u0, s0, ea, ev, eσ, hl.trans ?_⟩
    by_cases hO : 0 ∈ Oe
    · exact ⟨fun ⟨xs, e⟩ => m.bk 0 xs hO e, fun ⟨xs, e⟩ => m.own 0 xs hO e⟩
    · rw [m.out 0 hO]
/-! ### from a run to what its first expression is asked -/
theorem lentOk_at {is : List Nat} (h : lentOk is ρ = true) {i : Nat} (hi : i ∈ is) {v : Val} (e : getV ρ i = some v) : scalarL v = true := by
  unfold lentOk at h
  have := List.all_eq_true.mp h i hi
  rwa [e] at this
/-- an expression whose answer is kept -/
theorem StF.val {α β : Type} {R : Hp → (Addr → Prop) → Hp → α → β → Prop} {q : Rs α} {f : α → Env → Rt} {Q : β → Hp → Prop} (s : StF K fnA en O F H σ ρ) (h : RdT K fnA exA en r W (q.toRt f) F H D)
    (k : ∀ v ρ1 F1 H1 u, q = .ok v ρ1 → Ext (Mu O σ ρ) F H F1 H1 → R H F1 H1 v u → StF K fnA en O F1 H1 σ ρ1 → Sm O ρ ρ1 → RdT K fnA exA en r W (f v ρ1) F1 H1 D → Q u H1) : RdR K fnA exA O W R q F H σ ρ Q := by
  cases q with
  | bad => exact h
  | exc x => exact fun F' H' C d x2 e => h F' H' C d σ (s.x.trans x2 s.muE) e
  | ok v ρ1 => exact fun F' H' u x2 hr s2 m => k v ρ1 F' H' u rfl x2 hr (s.step x2 s2 m) m (RdT.later h ⟨x2.fs, fun a o f e => x2.kp a o e (s.st.notMu a f)⟩)
/-- an expression whose answer is no reference -/
theorem StF.scal {α β : Type} {R : Hp → (Addr → Prop) → Hp → α → β → Prop} {q : Rs α} {f : α → Env → Rt} {Q : β → Hp → Prop} {Oe : List Nat} {l : List Nat} (s : StF K fnA en O F H σ ρ) (hs : ∀ i, i ∈ Oe → i ∈ O) (hl : ∀ i, i ∈ Oe → i ∈ l) (h : RdT K fnA exA en r W (q.toRt f) F H D)
    (lo : ∀ v ρ1, q = .ok v ρ1 → ∀ F H, RdT K fnA exA en r W (f v ρ1) F H D → lentOk l ρ1 = true)
    (k : ∀ v ρ1 F' F1 H1 u, q = .ok v ρ1 → R H F' H1 v u → StF K fnA en O F1 H1 σ ρ1 → Fz F H F1 H1 → RdT K fnA exA en r W (f v ρ1) F1 H1 D → Q u H1) :
    ∃ F2, St K fnA Oe F2 H σ ρ ∧ RdR K fnA exA Oe W R q F2 H σ ρ Q := by
  refine ⟨_, s.st.drop hs, ?_⟩
  cases q with
  | bad => exact h
  | exc x => exact fun F' H' C d x2 e => h _ H' C d σ (s.thawX hs (fun _ => .inl) x2) e
  | ok v ρ1 =>
    intro F' H' u x2 hr s2 m
    obtain ⟨s3, z⟩ := s.thaw hs (fun _ => .inl) (s.st.drop hs) x2 s2 m fun i hi v' e => lentOk_at (lo v ρ1 rfl F H h) (hl i hi) e
    exact k v ρ1 F' _ H' u rfl hr s3 z (RdT.later h z)
end
end Rf

set_option Elab.async false
set_option linter.all false
set_option maxRecDepth 100000
set_option maxHeartbeats 4000000
/-! The reflective layer, part Q: what is owned through statements; the look of statements. -/
namespace Rf
open PySem PySem.Spec PyProof.Rows L2

/-! ### the names that an expression reads, as values -/
mutual
def varsE : E → List Nat
  | .var i => [i]
  | .con _ | .glo _ | .lnv _ => []
  | .tup es | .lst es | .call _ es | .callk _ _ es | .bi _ es | .calll _ _ es => varsEs es
  | .bin _ a b | .cmp _ a b | .and a b | .or a b | .itm a b | .idx a b => varsE a ++ varsE b
  | .neg a | .not a | .isi a _ | .rev a | .itv _ a => varsE a
  | .chn _ _ a b d | .ite a b d => varsE a ++ varsE b ++ varsE d
  | .slc a lo hi => varsE a ++ varsO lo ++ varsO hi
  | .rngL it | .rngT it => varsIt it
  | .comp own elt _ it ifs => own ++ varsIt it ++ varsEs ifs ++ varsE elt
  | .comp2 own _ elt _ it ifs _ it1 ifs1 => own ++ varsIt it ++ varsEs ifs ++ varsIt it1 ++ varsEs ifs1 ++ varsE elt
def varsEs : Es → List Nat
  | .nil => []
  | .cons e es => varsE e ++ varsEs es
def varsO : Oe → List Nat
  | .none => []
  | .some e => varsE e
def varsIt : It → List Nat
  | .seq e | .r1 e | .enu e => varsE e
  | .r2 a b | .zip a b => varsE a ++ varsE b
  | .r3 a b d => varsE a ++ varsE b ++ varsE d
end
mutual
def killS : S → List Nat
  | .expr e => varsE e
  | .set t m e => match m with
    | .scal => []
    | .val => varsE e ++ tgS t
    | .frsh => varsE e
  | .par is _ es => varsEs es ++ is
  | .setI _ m _ e => match m with
    | .scal => []
    | _ => varsE e
  | .app _ e | .ext _ e => varsE e
  | .ife _ a b => killSs a ++ killSs b
  | .whl _ b => killSs b
  | .fr t it b => varsIt it ++ tgS t ++ killSs b
  | .ret _ _ | .nev => []
def killSs : Ss → List Nat
  | .nil => []
  | .cons s r => killS s ++ killSs r
end
def rst (O vs : List Nat) : List Nat := O.filter fun i => !vs.contains i
def lof (O l : List Nat) : List Nat := O.filter l.contains
def keep0 (lent : Bool) (O : List Nat) : Bool := !lent || O.contains 0
def sub (A B : List Nat) : Bool := A.all B.contains
def join : Option (List Nat) → Option (List Nat) → Option (List Nat)
  | none, r => r
  | r, none => r
  | some a, some b => some (lof a b)
def keepJ (lent : Bool) : Option (List Nat) → Bool
  | none => true
  | some O => keep0 lent O
def okLoop (O : List Nat) : Option (Option (List Nat)) → Bool
  | some none => true
  | some (some O2) => sub O O2
  | none => false
/-- a def's new answer that is a name's list, or no list at all -/
def retB (p : Prog) (lent : Bool) (O : List Nat) : E → Bool
  | .var i => O.contains i && !(lent && i == 0)
  | .con _ => true
  | e => let O1 := rst O (varsE e)
         okE O1 e && frE p e && keep0 lent O1
mutual
/-- the slots owned behind a statement -/
def gvS (p : Prog) (lent fresh : Bool) (O : List Nat) : S → Option (Option (List Nat))
  | .expr e => let O1 := rst O (varsE e)
               if okE O1 e && keep0 lent O1 then some (some O1) else none
  | .set t .scal e => (match t with
    | .name i => if okE (lof O (lentE e)) e && (!lent || i != 0) then some (some O) else none
    | _ => none)
  | .set t .val e => let O1 := rst O (varsE e)
                     let O2 := rst O1 (tgS t)
                     if okE O1 e && keep0 lent O2 then some (some O2) else none
  | .set t .frsh e => let O1 := rst O (varsE e)
                      (match t with
                      | .name i => if okE O1 e && frE p e && keep0 lent (rst O1 [i]) then some (some (i :: rst O1 [i])) else none
                      | _ => none)
  | .par is _ es => let O1 := rst O (varsEs es)
                    let O2 := rst O1 is
                    if okEs O1 es && keep0 lent O2 then some (some O2) else none
  | .setI x .scal i e => if okE (lof O (lentE e)) e && okE (lof O (lentE i)) i && O.contains x then some (some O) else none
  | .setI x .val i e => let O1 := rst O (varsE e)
                        if okE O1 e && okE (lof O1 (lentE i)) i && O1.contains x && keep0 lent O1 then some (some O1) else none
  | .setI _ .frsh _ _ => none
  | .app x e => let O1 := rst O (varsE e)
                if okE O1 e && O1.contains x && keep0 lent O1 then some (some O1) else none
  | .ext x e => let O1 := rst O (varsE e)
                if okE O1 e && frE p e && O1.contains x && keep0 lent O1 then some (some O1) else none
  | .ife t a b => if okE (lof O (lentE t)) t then (match gvSs p lent fresh O a, gvSs p lent fresh O b with
      | some ra, some rb => if keepJ lent (join ra rb) then some (join ra rb) else none
      | _, _ => none) else none
  | .whl t b => let O1 := rst O (killSs b)
                if okE (lof O1 (lentE t)) t && keep0 lent O1 && okLoop O1 (gvSs p lent fresh O1 b) then some (some O1) else none
  | .fr t it b => let O1 := rst O (varsIt it)
                  let O2 := rst (rst O1 (tgS t)) (killSs b)
                  if okIt O1 it && keep0 lent O2 && okLoop O2 (gvSs p lent fresh O2 b) then some (some O2) else none
  | .ret _ e => let O1 := rst O (varsE e)
                if (if fresh then retB p lent O e else okE O1 e && keep0 lent O1) then some none else none
  | .nev => some none
def gvSs (p : Prog) (lent fresh : Bool) (O : List Nat) : Ss → Option (Option (List Nat))
  | .nil => some (some O)
  | .cons s r => match gvS p lent fresh O s with
    | none => none
    | some none => some none
    | some (some O1) => gvSs p lent fresh O1 r
end

/-! ### the look of statements -/
def notComp : Expr → Bool
  | .ListComp .. | .SetComp .. | .DictComp .. => false
  | _ => true
/-- target = value is an assignment of the plain kind -/
def swOk (tg v : Expr) : Bool := match tg, v with
  | .Name _ _, .ListComp .. => true
  | .Tuple .., .ListComp .. => true
  | _, .SetComp .. | _, .DictComp .. => false
  | .Tuple ts _ _, .Tuple vs _ _ => vs.all (foldedForSure 8) || !(ts.length == 2 || ts.length == 3)
  | .Name _ _, _ => true
  | .Tuple .., _ => true
  | _, _ => false
def locB (nm : Nm) (i : Nat) (x : Str) : Bool := decide (nm.N[i]? = some x) && (nm.nms.lookup x == some .local)
def parB (nm : Nm) : List Nat → List Expr → List Expr → Bool
  | [i, j], [.Name x px, .Name y py], [a, b] => locB nm i x && locB nm j y && decide (i ≠ j) && decide (x ≠ y) && (px.line == py.line) && noStar a && noStar b && !([a, b].all (foldedForSure 8)) && !([a, b].all (constantsAlone 8))
  | [i, j, k], [.Name x px, .Name y py, .Name z pz], [a, b, d] => locB nm i x && locB nm j y && locB nm k z && decide (i ≠ j) && decide (i ≠ k) && decide (j ≠ k) && decide (x ≠ y) && decide (x ≠ z) && decide (y ≠ z) && (px.line == py.line) && (px.line == pz.line) && noStar a && noStar b && noStar d && !([a, b, d].all (foldedForSure 8)) && !([a, b, d].all (constantsAlone 8))
  | _, _, _ => false
mutual
def chkS (p : Prog) (nm : Nm) : S → Stmt → Bool
  | .expr e, .Expr x _ => chkE p nm e x && notComp x
  | .set t _ e, .Assign [tg] x _ => chkT nm t tg && chkE p nm e x && swOk tg x
  | .par is _ es, .Assign [.Tuple ts _ _] (.Tuple xs _ _) _ => parB nm is ts xs && chkEs p nm es xs
  | .setI v _ i e, .Assign [.Subscript (.Name x _) y _] z _ => varB nm v x && chkE p nm i y && notSlice y && chkE p nm e z
  | .app v e, .Expr (.Call (.Attribute (.Name x _) n ap) [y] [] ps) _ => decide (n = "append") && varB nm v x && chkE p nm e y && noStar y && (ap.endLine == ps.line)
  | .ext v e, .Expr (.Call (.Attribute (.Name x _) n ap) [y] [] ps) _ => decide (n = "extend") && varB nm v x && chkE p nm e y && noStar y && (ap.endLine == ps.line)
  | .ife t a b, .If x ys zs _ => chkE p nm t x && chkSs p nm a ys && chkSs p nm b zs
  | .whl t b, .While x ys [] _ => chkE p nm t x && chkSs p nm b ys
  | .fr t it b, .For tg x ys [] _ => chkT nm t tg && chkIt p nm it tg x && notSet x && chkSs p nm b ys
  | .ret _ e, .Return (some x) _ => chkE p nm e x
  | .nev, _ => true
  | _, _ => false
def chkSs (p : Prog) (nm : Nm) : Ss → List Stmt → Bool
  | .nil, [] => true
  | .cons s r, x :: xs => chkS p nm s x && chkSs p nm r xs
  | _, _ => false
end
section
variable {p : Prog} {n : Nat} {fnA exA : Nat → Option Addr} {X : Cx} {W : WX} {nm : Nm} {O : List Nat}
theorem sw_plain {v : Expr} {t : Option Expr} {l : Nat} {env : PySem.Env} (h : notComp v = true) : swapsWith v t l env = pure false := by
  cases v <;> first | rfl | cases h
theorem sw_tup {v : Expr} {ts : List Expr} {k : Nat} {tp : Pos} {l : Nat} {env : PySem.Env} : swapsWith v (some (.Tuple ts k tp)) l env = pure false := by
  cases v <;> rfl
theorem sw_sub {v o i : Expr} {tp : Pos} {l : Nat} {env : PySem.Env} : swapsWith v (some (.Subscript o i tp)) l env = pure false := by
  cases v <;> rfl
theorem sw_lc {elt : Expr} {gs : List Comprehension} {scope : Scope} {pos tp : Pos} {x : Str} {l : Nat} {env : PySem.Env} : swapsWith (.ListComp elt gs scope pos) (some (.Name x tp)) l env = pure true ∨ swapsWith (.ListComp elt gs scope pos) (some (.Name x tp)) l env = pure false := by
  have z : ∀ b : Bool, (pure b : Sem Bool) = pure true ∨ (pure b : Sem Bool) = pure false := fun b => by
    cases b
    · right; rfl
    · left; rfl
  exact z _
theorem ss_none {ts vs : List Expr} {k k2 : Nat} {tp vp : Pos} {env : PySem.Env} (h : (vs.all (foldedForSure 8) || !(ts.length == 2 || ts.length == 3)) = true) : swappedStores [.Tuple ts k tp] (.Tuple vs k2 vp) env = pure none := by
  unfold swappedStores
  dsimp only
  split
  · rfl
  · rename_i h1
    split
    · rfl
    · split
      · rfl
      · split
        · rfl
        · rename_i h2
          rw [Bool.or_eq_true] at h
          rcases h with h | h
          · exact absurd h h2
          · simp only [h, Bool.true_or] at h1
            exact absurd trivial h1
end
end Rf

set_option Elab.async false
set_option linter.all false
set_option maxRecDepth 100000
set_option maxHeartbeats 4000000
/-! The reflective layer, part R: statements. -/
namespace Rf
open PySem PySem.Spec PyProof.Rows L2

theorem mem_rst {O vs : List Nat} {i : Nat} : i ∈ rst O vs ↔ i ∈ O ∧ i ∉ vs := by unfold rst; simp
theorem mem_lof {O l : List Nat} {i : Nat} : i ∈ lof O l ↔ i ∈ O ∧ i ∈ l := by unfold lof; simp
theorem keep0_ok {lent : Bool} {O : List Nat} (h : keep0 lent O = true) : lent = true → 0 ∈ O := fun e => by
  subst e
  unfold keep0 at h
  simpa using h
theorem sub_ok {A B : List Nat} (h : sub A B = true) : ∀ i, i ∈ A → i ∈ B := all_in h
section
variable {K : PySem.W.Frag} {fnA exA : Nat → Option Addr} {en : En} {O : List Nat} {W : WX} {F : Addr → Prop} {H : Hp} {σ : L2.St} {ρ : Env} {r : Option (List Nat)} {D : Ends}
theorem RdT.thn {t : Rt} {f : Env → Rt} {r1 : Option (List Nat)} {D1 : Ends} (h : RdT K fnA exA en r W (t.then f) F H D) (e : D1.rt = D.rt)
    (k : ∀ ρ' O' F' H' σ', r1 = some O' → t = .nx ρ' → Fz F H F' H' → StF K fnA en O' F' H' σ' ρ' → RdT K fnA exA en r W (f ρ') F' H' D → D1.nx σ' H') : RdT K fnA exA en r1 W t F H D1 := by
  cases t with
  | nx ρ => exact fun O' e F' H' σ' z s => k ρ O' F' H' σ' e rfl z s (RdT.later h z)
  | ret v ρ => intro F' H' u x fo rn o; rw [e]; exact h F' H' u x fo rn o
  | exc x => exact h
  | bad => exact h
theorem RdT.wider {t : Rt} {r1 : Option (List Nat)} (h : RdT K fnA exA en r W t F H D) (k : ∀ O1, r1 = some O1 → ∃ O2, r = some O2 ∧ (∀ i, i ∈ O2 → i ∈ O1) ∧ (en.lent = true → 0 ∈ O2)) : RdT K fnA exA en r1 W t F H D := by
  cases t with
  | nx ρ =>
    intro O1 e F' H' σ' z s
    obtain ⟨O2, e2, hs, h0⟩ := k O1 e
    exact h O2 e2 _ H' σ' (z.trans fz_drop) (s.drop hs h0)
  | ret v ρ => exact h
  | exc x => exact h
  | bad => exact h
theorem StF.same (s : StF K fnA en O F H σ ρ) {F' : Addr → Prop} {H' : Hp} (x : Ext M0 F H F' H') (fo : ∀ a, F' a → ∃ o, H' a = some o) : StF K fnA en O F' H' σ ρ := s.step (x.wider fun _ => False.elim) (s.st.ext x fo) .refl
theorem StF.assign {t : Tg} {v : Val} {u : V} {ρ' : Env} (s : StF K fnA en O F H σ ρ) (hi : ∀ i, i ∈ tgS t → i ∉ O) (q : FR K fnA F H v u) (e : Rf.assign t v ρ = some ρ') :
    ∃ σ', StF K fnA en O F H σ' ρ' ∧ ∀ Q : L2.St → Hp → Prop, Q σ' H → gT K t u σ H Q := by
  obtain ⟨σ', s', h1, h2, h3, h4, h5⟩ := s.st.assign hi q e
  have out : ∀ i, i ∈ O → i ∉ tgS t := fun i h z => hi i z h
  refine ⟨σ', ⟨s', s.x, fun i vs a hO e1 e2 => ?_, fun z => ?_⟩, h5⟩
  · rw [h3 i (out i hO)] at e1
    rw [h2 i (out i hO)] at e2
    exact s.nw i vs a hO e1 e2
  · obtain ⟨h0, a0, r, u0, s0, ea, ev, eσ, hl⟩ := s.l0 z
    refine ⟨h0, a0, r, u0, s0, ea, ev, ?_, ?_⟩
    · rw [h2 0 (out 0 h0)]; exact eσ
    · rw [h3 0 (out 0 h0)]; exact hl
theorem setV_get {i j : Nat} {v : Val} {ρ : Env} : getV (setV ρ i v) j = if j = i ∧ i < ρ.length then some v else getV ρ j := by
  unfold getV setV
  by_cases hj : j = i
  · subst hj
    by_cases hl : j < ρ.length
    · rw [if_pos ⟨rfl, hl⟩, List.getElem?_set_self hl]
    · rw [if_neg (fun z => hl z.2), List.getElem?_eq_none (by rw [List.length_set]; omega), List.getElem?_eq_none (by omega)]
  · rw [if_neg (fun z => hj z.1), List.getElem?_set_ne (Ne.symm hj)]
/-- a name is given a value, that it owns or not -/
theorem St.putG {O' : List Nat} {i : Nat} {v : Val} {u : V} (s : St K fnA O F H σ ρ) (h : ∀ j, j ≠ i → (j ∈ O' ↔ j ∈ O)) (own : i ∈ O' → Own K fnA F H v u) (frz : i ∉ O' → FR K fnA F H v u)
    (new : i ∈ O' → ∀ vs a, v = .lst vs → u = .ref a → ∀ j ws, j ≠ i → j ∈ O → getV ρ j = some (.lst ws) → σ[j]? = some (some (.ref a)) → False) : St K fnA O' F H (σ.set i (some u)) (setV ρ i v) := by
  have at_ : ∀ j w, getV (setV ρ i v) j = some w → (j = i ∧ w = v ∧ (σ.set i (some u))[j]? = some (some u)) ∨ (j ≠ i ∧ getV ρ j = some w ∧ (σ.set i (some u))[j]? = σ[j]?) := fun j w e => by
    rw [setV_get] at e
    by_cases hj : j = i
    · by_cases hl : i < ρ.length
      · rw [if_pos ⟨hj, hl⟩] at e
        cases e
        refine .inl ⟨hj, rfl, ?_⟩
        rw [hj, List.getElem?_set_self (by rw [← s.len]; exact hl)]
      · rw [if_neg fun z => hl z.2, hj] at e
        unfold getV at e
        rw [List.getElem?_eq_none (by omega)] at e
        cases e
    · rw [if_neg fun z => hj z.1] at e
      exact .inr ⟨hj, e, List.getElem?_set_ne (Ne.symm hj)⟩
  refine ⟨s.fok, by unfold setV; rw [List.length_set, List.length_set]; exact s.len, fun j w e hj => ?_, fun j w e hj => ?_, fun j k vs ws a hj hk ej ek sj sk => ?_⟩
  · rcases at_ j w e with ⟨z, rfl, eu⟩ | ⟨z, e, eu⟩
    · exact ⟨u, eu, frz (z ▸ hj)⟩
    · rw [eu]; exact s.fz j w e fun q => hj ((h j z).mpr q)
  · rcases at_ j w e with ⟨z, rfl, eu⟩ | ⟨z, e, eu⟩
    · exact ⟨u, eu, own (z ▸ hj)⟩
    · rw [eu]; exact s.ow j w e ((h j z).mp hj)
  · rcases at_ j _ ej with ⟨z, ev, eu⟩ | ⟨z, ej', eu⟩
    · rcases at_ k _ ek with ⟨z2, _, _⟩ | ⟨z2, ek', eu2⟩
      · rw [z, z2]
      · rw [eu] at sj; cases sj
        rw [eu2] at sk
        exact (new (z ▸ hj) vs a ev.symm rfl k ws z2 ((h k z2).mp hk) ek' sk).elim
    · rcases at_ k _ ek with ⟨z2, ev2, eu2⟩ | ⟨z2, ek', eu2⟩
      · rw [eu2] at sk; cases sk
        rw [eu] at sj
        exact (new (z2 ▸ hk) ws a ev2.symm rfl j vs z ((h j z).mp hj) ej' sj).elim
      · rw [eu] at sj; rw [eu2] at sk
        exact s.dj j k vs ws a ((h j z).mp hj) ((h k z2).mp hk) ej' ek' sj sk
theorem StF.putG {O' : List Nat} {i : Nat} {v : Val} {u : V} (s : StF K fnA en O F H σ ρ) (h : ∀ j, j ≠ i → (j ∈ O' ↔ j ∈ O)) (own : i ∈ O' → Own K fnA F H v u) (frz : i ∉ O' → FR K fnA F H v u)
    (new : i ∈ O' → ∀ vs a, v = .lst vs → u = .ref a → ∀ j ws, j ≠ i → j ∈ O → getV ρ j = some (.lst ws) → σ[j]? = some (some (.ref a)) → False) (h0 : en.lent = true → i ≠ 0) (nw : i ∈ O' → ∀ vs a, v = .lst vs → u = .ref a → en.H a = none) :
    StF K fnA en O' F H (σ.set i (some u)) (setV ρ i v) := by
  refine ⟨s.st.putG h own frz new, s.x, fun j vs a hj e1 e2 => ?_, fun z => ?_⟩
  · by_cases hji : j = i
    · subst hji
      rw [setV_get] at e1
      by_cases hl : j < ρ.length
      · rw [if_pos ⟨rfl, hl⟩] at e1
        cases e1
        rw [List.getElem?_set_self (by rw [← s.st.len]; exact hl)] at e2
        cases e2
        exact .inl (nw hj vs a rfl rfl)
      · rw [List.getElem?_eq_none (by rw [List.length_set, ← s.st.len]; omega)] at e2
        cases e2
    · rw [setV_get, if_neg fun z => hji z.1] at e1
      rw [List.getElem?_set_ne (Ne.symm hji)] at e2
      exact s.nw j vs a ((h j hji).mp hj) e1 e2
  · obtain ⟨g0, a0, r, u0, s0, ea, ev, eσ, hl⟩ := s.l0 z
    have ne : (0 : Nat) ≠ i := Ne.symm (h0 z)
    refine ⟨(h 0 ne).mpr g0, a0, r, u0, s0, ea, ev, ?_, ?_⟩
    · rw [List.getElem?_set_ne (Ne.symm ne)]; exact eσ
    · rw [setV_get, if_neg fun z => ne z.1]; exact hl
end
section
variable {p : Prog} {n : Nat} {fnA exA : Nat → Option Addr} {X : Cx} {W : WX} {nm : Nm} {O O1 : List Nat} {en : En}
theorem toRt_evT {c : Cfg} {e : E} {ρ : Env} {f : Bool → Env → Rt} : (evT c e ρ).toRt f = (evB c e ρ).toRt fun k ρ => if lentOk (lentE e) ρ then f k ρ else .bad := by
  unfold evT evB
  cases evE c e ρ with
  | bad => rfl
  | exc x => rfl
  | ok v ρ1 =>
    simp only [Rs.bind]
    cases h : lentOk (lentE e) ρ1 <;> cases truthy v <;> simp [Rs.toRt, Rs.ofO, h]
theorem toRt_scal {c : Cfg} {e : E} {ρ : Env} {f : Val → Env → Rt} : (evM c .scal e ρ).toRt f = (evE c e ρ).toRt fun v ρ => if scalar v && lentOk (lentE e) ρ then f v ρ else .bad := by
  unfold evM
  dsimp only
  cases evE c e ρ with
  | bad => rfl
  | exc x => rfl
  | ok v ρ1 =>
    simp only [Rs.bind]
    cases h : scalar v && lentOk (lentE e) ρ1 <;> simp [Rs.toRt, h]
theorem sw_lc' {elt : Expr} {gs : List Comprehension} {scope : Scope} {pos tp : Pos} {x : Str} {l : Nat} {env : PySem.Env} : ∃ b : Bool, swapsWith (.ListComp elt gs scope pos) (some (.Name x tp)) l env = pure b ∧ (b = true → env.kindOf x = some .local) := by
  refine ⟨_, rfl, fun h => ?_⟩
  simp only [Bool.and_eq_true, beq_iff_eq] at h
  exact h.1.1.2
theorem asgEach_T {t : Tg} {tg : Expr} {env : PySem.Env} (h : chkT nm t tg = true) : (assignEach [tg] env).map (·.2) = [PySem.assign tg env] := by
  cases tg <;> first | rfl | (cases t <;> cases h)
/-- an assignment of the plain kind -/
theorem asg_of {t : Tg} {m : E} {tg v : Expr} {pos : Pos} (xk : XOk p n fnA exA X W) (xn : XN X nm) (ht : chkT nm t tg = true) (hc : chkE p nm m v = true) (hs : swOk tg v = true) (ho : okE O m = true) :
    PS X (.Assign [tg] v pos) (tAsg (Rd X.K fnA exA O W (RN X.K fnA (frE p m)) (evE (cfg p n) m)) (gT X.K t)) := by
  have plain : swapsWith v (some tg) pos.line X.env = pure false → swappedStores [tg] v X.env = pure none → PS X (.Assign [tg] v pos) (tAsg (Rd X.K fnA exA O W (RN X.K fnA (frE p m)) (evE (cfg p n) m)) (gT X.K t)) := fun h1 h2 =>
    ps_asg (soundE m xk xn hc ho).n (pg_T xk xn ht) h1 h2 (asgEach_T ht)
  cases tg with
  | Name x tp =>
    have e2 : swappedStores [.Name x tp] v X.env = pure none := by cases v <;> rfl
    by_cases hv : notComp v = true
    · exact plain (sw_plain hv) e2
    · cases v <;> first | (exact absurd rfl hv) | (cases hs; done) | skip
      rename_i elt gs scope pos2
      obtain ⟨b, eb, hl⟩ := sw_lc' (elt := elt) (gs := gs) (scope := scope) (pos := pos2) (tp := tp) (x := x) (l := pos.line) (env := X.env)
      cases b with
      | false => exact plain eb e2
      | true =>
        have hl := hl rfl
        cases t with
        | tup is => cases ht
        | name i =>
          have hN : X.N[i]? = some x := by
            have ht : tgB nm i (.Name x tp) = true := ht
            unfold tgB at ht
            rw [Bool.and_eq_true, decide_eq_true_eq] at ht
            rw [xn.hN]; exact ht.1
          cases m <;> first | (cases hc; done) | skip
          · rename_i own elt' tg' it ifs
            obtain ⟨x', t, i', fs, scope', pos', ee, c1, c2, c3, c4, c5, c6⟩ := chk_comp hc
            cases ee
            simp only [okE, Bool.and_eq_true] at ho
            obtain ⟨⟨⟨⟨o1, o2⟩, o3⟩, o4⟩, o5⟩ := ho
            obtain ⟨b1, b2, b3⟩ := blkB_ok xn c1
            refine (ps_setLc (g := gT X.K tg') (tt := Rd X.K fnA exA O W0 REq (evIf (cfg p n) ifs)) (te := Rd X.K fnA exA O W0 (RV X.K fnA) (evE (cfg p n) elt')) xk.calm xk.nd hN hl eb (soundIt it xk xn c2 o2) b1 (fun s H C cl fp => pg_T (xk.blk) (xn.blk b3) c4) (fun s H C cl fp => soundIf ifs xk.blk (xn.blk b3) c5 o3) (fun s H C cl fp => (soundE elt' xk.blk (xn.blk b3) c6 o4).v) (fun _ => by cases i' <;> first | rfl | cases c3)).weak fun D σ H h => ?_
            rw [b2]
            exact lc_of (disj_ok o1) (all_in o5) h
          · rename_i own own1 elt' tg' it ifs tg1 it1 ifs1
            obtain ⟨x', t, i', fs, t1, i1, fs1, scope', pos', ee, c1, c2, c3, c4, c5, c6, c7, c8, c9, c10, c11⟩ := chk_comp2 hc
            cases ee
            simp only [okE, Bool.and_eq_true] at ho
            obtain ⟨⟨⟨⟨⟨⟨⟨⟨⟨o1, o2⟩, o3⟩, o4⟩, o5⟩, o6⟩, o7⟩, o8⟩, o9⟩, o10⟩ := ho
            obtain ⟨b1, b2, b3⟩ := blkB_ok xn c1
            refine (ps_setLc2 (vs1 := own1) (g := gT X.K tg') (tt := Rd X.K fnA exA O W0 REq (evIf (cfg p n) ifs)) (wi1 := Rd X.K fnA exA O W0 (JOk X.K fnA) (evIt (cfg p n) it1)) (g1 := gT X.K tg1) (tt1 := Rd X.K fnA exA O W0 REq (evIf (cfg p n) ifs1)) (te := Rd X.K fnA exA O W0 (RV X.K fnA) (evE (cfg p n) elt')) xk.calm xk.nd hN hl eb (soundIt it xk xn c2 o2) b1 (fun j hj => by rw [b2]; exact all_in o9 j hj) (fun s H C cl fp => pg_T (xk.blk) (xn.blk b3) c4) (fun s H C cl fp => soundIf ifs xk.blk (xn.blk b3) c5 o3) (fun s H C cl fp => soundIt it1 xk.blk (xn.blk b3) c7 o4) (fun s H C cl fp => pg_T (xk.blk) (xn.blk b3) c9) (fun s H C cl fp => soundIf ifs1 xk.blk (xn.blk b3) c10 o5) (fun s H C cl fp => (soundE elt' xk.blk (xn.blk b3) c11 o6).v) (fun _ => by cases i' <;> first | rfl | cases c3) (fun _ _ => by cases i1 <;> first | rfl | cases c8)).weak fun D σ H h => ?_
            rw [b2]
            exact lc2_of (disj_ok o1) (all_in o7) (all_in o8) (all_in o9) h
  | Tuple ts k tp =>
    refine plain sw_tup ?_
    cases v <;> first | rfl | skip
    exact ss_none hs
  | _ => cases t <;> cases ht
end
end Rf

set_option Elab.async false
set_option linter.all false
set_option maxRecDepth 100000
set_option maxHeartbeats 4000000
/-! The reflective layer, part S: every statement of the language. -/
namespace Rf
open PySem PySem.Spec PyProof.Rows L2
section
variable {p : Prog} {n : Nat} {fnA exA : Nat → Option Addr} {X : Cx} {W : WX} {nm : Nm} {O O1 : List Nat} {en : En}
abbrev PSv (p : Prog) (n : Nat) (fnA exA : Nat → Option Addr) (X : Cx) (en : En) (O : List Nat) (r : Option (List Nat)) (W : WX) (m : S) (e : Stmt) : Prop := PS X e (RdS X.K fnA exA en O r W (evS (cfg p n) m))
abbrev PSsv (p : Prog) (n : Nat) (fnA exA : Nat → Option Addr) (X : Cx) (en : En) (O : List Nat) (r : Option (List Nat)) (W : WX) (m : Ss) (e : List Stmt) : Prop := PSs X e (RdS X.K fnA exA en O r W (evSs (cfg p n) m))
theorem rst_sub {O vs : List Nat} : ∀ i, i ∈ rst O vs → i ∈ O := fun i h => (mem_rst.mp h).1
theorem lof_sub {O vs : List Nat} : ∀ i, i ∈ lof O vs → i ∈ O := fun i h => (mem_lof.mp h).1
theorem keep0_mono {l : Bool} {A B : List Nat} (h : ∀ i, i ∈ A → i ∈ B) (k : keep0 l A = true) : keep0 l B = true := by
  cases l with
  | false => rfl
  | true => simpa [keep0] using h 0 (keep0_ok k rfl)
theorem lof_in {O vs : List Nat} : ∀ i, i ∈ lof O vs → i ∈ vs := fun i h => (mem_lof.mp h).2
/-- an expression whose answer is kept, some lists frozen for good -/
theorem RdS.val {K : PySem.W.Frag} {α β : Type} {R : Hp → (Addr → Prop) → Hp → α → β → Prop} {ev : Env → Rs α} {f : α → Env → Rt} {r : Option (List Nat)} {D : Ends} {σ : L2.St} {H : Hp} {Q : β → Hp → Prop} (h : RdS K fnA exA en O r W (fun ρ => (ev ρ).toRt f) D σ H) (hO : ∀ i, i ∈ O1 → i ∈ O) (h0 : keep0 en.lent O1 = true)
    (k : ∀ F ρ v ρ1 F1 H1 u, St K fnA O1 F H σ ρ → Sm O1 ρ ρ1 → R H F1 H1 v u → StF K fnA en O1 F1 H1 σ ρ1 → RdT K fnA exA en r W (f v ρ1) F1 H1 D → Q u H1) : Rd K fnA exA O1 W R ev σ H Q := by
  obtain ⟨F, ρ, s, w⟩ := h
  have s2 := s.drop hO (keep0_ok h0)
  exact ⟨_, ρ, s2.st, s2.val (RdT.later w fz_drop) fun v ρ1 F1 H1 u _ x hr s1 m1 w1 => k _ ρ v ρ1 F1 H1 u s2.st m1 hr s1 w1⟩
/-- an expression whose answer is no reference -/
theorem RdS.scal {K : PySem.W.Frag} {α β : Type} {R : Hp → (Addr → Prop) → Hp → α → β → Prop} {ev : Env → Rs α} {f : α → Env → Rt} {r : Option (List Nat)} {D : Ends} {σ : L2.St} {H : Hp} {Q : β → Hp → Prop} {l : List Nat} (h : RdS K fnA exA en O r W (fun ρ => (ev ρ).toRt f) D σ H)
    (lo : ∀ v ρ1 F H, RdT K fnA exA en r W (f v ρ1) F H D → lentOk l ρ1 = true)
    (k : ∀ v ρ1 F' F1 H1 u, R H F' H1 v u → StF K fnA en O F1 H1 σ ρ1 → RdT K fnA exA en r W (f v ρ1) F1 H1 D → Q u H1) : Rd K fnA exA (lof O l) W R ev σ H Q := by
  obtain ⟨F, ρ, s, w⟩ := h
  obtain ⟨F2, s2, q⟩ := s.scal (R := R) (Q := Q) lof_sub lof_in w (fun v ρ1 _ F H => lo v ρ1 F H) fun v ρ1 F' F1 H1 u _ hr s1 _ w1 => k v ρ1 F' F1 H1 u hr s1 w1
  exact ⟨F2, ρ, s2, q⟩
theorem p_expr {m : E} {x : Expr} {pos : Pos} (xk : XOk p n fnA exA X W) (xn : XN X nm) (hc : chkE p nm m x = true) (hn : notComp x = true) (ho : okE O1 m = true) (hO : ∀ i, i ∈ O1 → i ∈ O) (h0 : keep0 en.lent O1 = true) : PSv p n fnA exA X en O (some O1) W (.expr m) (.Expr x pos) :=
  (ps_expr (soundE m xk xn hc ho).v (sw_plain hn)).weak fun D σ H h => RdS.val (R := RV X.K fnA) (ev := evE (cfg p n) m) (f := fun _ ρ => .nx ρ) h hO h0 fun F ρ v ρ1 F1 H1 u _ _ _ s1 w1 => w1 O1 rfl F1 H1 σ .refl s1
theorem p_set {t : Tg} {m : E} {tg v : Expr} {pos : Pos} (xk : XOk p n fnA exA X W) (xn : XN X nm) (ht : chkT nm t tg = true) (hc : chkE p nm m v = true) (hs : swOk tg v = true) (ho : okE O1 m = true) (hO : ∀ i, i ∈ O1 → i ∈ O) (h0 : keep0 en.lent (rst O1 (tgS t)) = true) : PSv p n fnA exA X en O (some (rst O1 (tgS t))) W (.set t .val m) (.Assign [tg] v pos) := by
  have h1 : keep0 en.lent O1 = true := keep0_mono rst_sub h0
  refine (asg_of xk xn ht hc hs ho).weak fun D σ H h => Rd.weaken (RdS.val (R := RV X.K fnA) (ev := evE (cfg p n) m) (f := fun v ρ => match Rf.assign t v ρ with | some ρ => .nx ρ | none => .bad) h hO h1 fun F ρ v ρ1 F1 H1 u _ _ hr s1 w1 => ?_)
  cases ea : Rf.assign t v ρ1 with
  | none => rw [ea] at w1; exact w1.elim
  | some ρ2 =>
    rw [ea] at w1
    have s2 := s1.drop (O' := rst O1 (tgS t)) rst_sub (keep0_ok h0)
    obtain ⟨σ', s', g⟩ := s2.assign (fun i hi z => (mem_rst.mp z).2 hi) (hr.mono (fun _ => .inl) fun _ _ _ e => e) ea
    exact g D.nx (w1 _ rfl _ H1 σ' fz_drop s')
theorem p_frsh {i : Nat} {m : E} {tg v : Expr} {pos : Pos} (xk : XOk p n fnA exA X W) (xn : XN X nm) (ht : chkT nm (.name i) tg = true) (hc : chkE p nm m v = true) (hs : swOk tg v = true) (ho : okE O1 m = true) (hf : frE p m = true) (hO : ∀ i, i ∈ O1 → i ∈ O) (h0 : keep0 en.lent (rst O1 [i]) = true) :
    PSv p n fnA exA X en O (some (i :: rst O1 [i])) W (.set (.name i) .frsh m) (.Assign [tg] v pos) := by
  have h1 : keep0 en.lent O1 = true := keep0_mono rst_sub h0
  refine (asg_of xk xn ht hc hs ho).weak fun D σ H h => ?_
  rw [hf]
  refine RdS.val (R := RN X.K fnA true) (ev := evE (cfg p n) m) (f := fun v ρ => match Rf.assign (.name i) v ρ with | some ρ => .nx ρ | none => .bad) h hO h1 fun F ρ v ρ1 F1 H1 u s0 m1 hr s1 w1 => ?_
  unfold RN at hr
  rw [if_pos rfl] at hr
  refine w1 _ rfl F1 H1 _ .refl (s1.putG (fun j hj => ?_) (fun _ => hr.1) (fun z => absurd List.mem_cons_self z) (fun _ vs a e1 e2 j ws hj hjO ej sj => ?_) (fun z e => ?_) fun _ vs a e1 e2 => ?_)
  · simp [mem_rst, hj]
  · obtain ⟨zs, e⟩ := m1.own j ws hjO ej
    obtain ⟨us, eH⟩ := s0.muSome a ⟨j, zs, hjO, e, sj⟩
    rw [hr.2 a vs e1 e2] at eH; cases eH
  · have := (mem_rst.mp (keep0_ok h0 z)).2
    exact this (by rw [e]; exact List.mem_cons_self)
  · have := hr.2 a vs e1 e2
    cases e : en.H a with
    | none => rfl
    | some o =>
      obtain ⟨F0, ρ0, s00, _⟩ := h
      obtain ⟨o', e'⟩ := s00.x.dm a o e
      rw [this] at e'; cases e'
theorem p_scal {i : Nat} {m : E} {tg v : Expr} {pos : Pos} (xk : XOk p n fnA exA X W) (xn : XN X nm) (ht : chkT nm (.name i) tg = true) (hc : chkE p nm m v = true) (hs : swOk tg v = true) (ho : okE (lof O (lentE m)) m = true) (h0 : en.lent = true → i ≠ 0) :
    PSv p n fnA exA X en O (some O) W (.set (.name i) .scal m) (.Assign [tg] v pos) := by
  refine (asg_of xk xn ht hc hs ho).weak fun D σ H h => Rd.weaken ?_
  have h : RdS X.K fnA exA en O (some O) W (fun ρ => (evE (cfg p n) m ρ).toRt fun v ρ => if scalar v && lentOk (lentE m) ρ then .nx (setV ρ i v) else .bad) D σ H := by
    obtain ⟨F, ρ, s, w⟩ := h
    refine ⟨F, ρ, s, ?_⟩
    show RdT X.K fnA exA en (some O) W ((evE (cfg p n) m ρ).toRt fun v ρ => if scalar v && lentOk (lentE m) ρ then Rt.nx (setV ρ i v) else Rt.bad) F H D
    rw [← toRt_scal (f := fun v ρ => Rt.nx (setV ρ i v))]
    exact w
  refine h.scal (R := RV X.K fnA) (l := lentE m) (fun v ρ1 F H w => ?_) fun v ρ1 F' F1 H1 u hr s1 w1 => ?_
  · split at w
    · rename_i z; rw [Bool.and_eq_true] at z; exact z.2
    · exact w.elim
  · split at w1
    · rename_i z
      rw [Bool.and_eq_true] at z
      have nl : ∀ vs, v ≠ .lst vs := fun vs e => by rw [e] at z; cases z.1
      exact w1 O rfl F1 H1 _ .refl (s1.putG (fun _ _ => Iff.rfl) (fun _ => .inr ⟨nl, hr.scal z.1⟩) (fun _ => hr.scal z.1) (fun _ vs a e => absurd e (nl vs)) h0 fun _ vs a e => absurd e (nl vs))
    · exact w1.elim
/-! lists -/
theorem St.own_lst {K : PySem.W.Frag} {F : Addr → Prop} {H : Hp} {σ : L2.St} {ρ : Env} {i : Nat} {xs : List Val} (s : St K fnA O F H σ ρ) (hi : i ∈ O) (e : getV ρ i = some (.lst xs)) : ∃ a us, σ[i]? = some (some (.ref a)) ∧ ¬ F a ∧ H a = some (.lst us) ∧ FRs K fnA F H xs us := by
  obtain ⟨u, eu, ow⟩ := s.ow i _ e hi
  rcases ow with ⟨vs, us, a, ev, rfl, hn, ea, rs⟩ | ⟨hn, _⟩
  · cases ev; exact ⟨a, us, eu, hn, ea, rs⟩
  · exact absurd rfl (hn xs)
/-- a list is changed in its place -/
theorem StF.mut {K : PySem.W.Frag} {F : Addr → Prop} {H : Hp} {σ : L2.St} {ρ : Env} {i : Nat} {xs ys : List Val} {us' : List V} {a : Addr} (s : StF K fnA en O F H σ ρ) (hi : i ∈ O) (e : getV ρ i = some (.lst xs)) (ea : σ[i]? = some (some (.ref a))) (r : FRs K fnA F H ys us') :
    StF K fnA en O F (upd H a (.lst us')) σ (setV ρ i (.lst ys)) ∧ Fz F H F (upd H a (.lst us')) := by
  obtain ⟨a2, us, ea2, hn, eH, rs⟩ := s.st.own_lst hi e
  rw [ea] at ea2; cases ea2
  have kF : ∀ b o, F b → H b = some o → upd H a (.lst us') b = some o := fun b o f z => by
    rw [upd_ne fun q : b = a => hn (q ▸ f)]; exact z
  have x : Ext (fun b => ∃ vs, Val.lst xs = .lst vs ∧ V.ref a = .ref b) F H F (upd H a (.lst us')) := ⟨fun _ f => f, fun _ f => .inl f, fun b o z hm => by
    rw [upd_ne fun q : b = a => hm ⟨xs, rfl, by rw [q]⟩]; exact z, fun b o z => by
    by_cases q : b = a
    · exact ⟨_, by rw [q]; exact upd_same⟩
    · exact ⟨o, by rw [upd_ne q]; exact z⟩⟩
  obtain ⟨s1, m1, x1⟩ := s.st.lent hi e ea x (fun b f => by
    obtain ⟨o, z⟩ := s.st.fok b f
    exact ⟨o, kF b o f z⟩) (o := .lst ys) (.inl ⟨ys, us', a, rfl, rfl, hn, upd_same, r.mono (fun _ => id) kF⟩) ⟨fun _ => ⟨ys, rfl⟩, fun _ => ⟨xs, rfl⟩⟩
  exact ⟨s.step x1 s1 m1, fun _ => id, kF⟩
theorem p_app {i : Nat} {m : E} {x nx : Str} {y : Expr} {xp ap cp pos : Pos} (xk : XOk p n fnA exA X W) (xn : XN X nm) (hn : nx = "append") (hv : varB nm i x = true) (hc : chkE p nm m y = true) (hy : noStar y = true) (hl : (ap.endLine == cp.line) = true) (ho : okE O1 m = true) (hi : i ∈ O1) (hO : ∀ i, i ∈ O1 → i ∈ O) (h0 : keep0 en.lent O1 = true) :
    PSv p n fnA exA X en O (some O1) W (.app i m) (.Expr (.Call (.Attribute (.Name x xp) nx ap) [y] [] cp) pos) := by
  subst hn
  have pe := pe_bm (r := rAppend) PySem.F.plainAttrs_list PySem.F.slot_list_append PySem.F.type_list_append mt_append (pe_varB (pos := xp) xn hv) (pa_cons (soundE m (W := W) (O := O1) xk xn hc ho).v pa_nil (noStar_ok hy _ _)) rfl (by rw [noStar_ok hy]; rfl) hl (noStar_ok hy _ _) (backTo_none rfl)
  refine (ps_expr pe rfl).weak fun D σ H ⟨F, ρ, s, w⟩ => ?_
  have w : RdT X.K fnA exA en (some O1) W (match getV ρ i with
    | some (.lst _) => (evE (cfg p n) m ρ).toRt fun v ρ => (match getV ρ i with
      | some (.lst xs) => if xs.length < sizeLine then .nx (setV ρ i (.lst (xs ++ [v]))) else .bad
      | _ => .bad)
    | _ => .bad) F H D := w
  split at w
  · rename_i xs0 e0
    have s2 := s.drop hO (keep0_ok h0)
    have w2 := RdT.later w (fz_drop (O := O) (O' := O1) (σ := σ) (ρ := ρ))
    obtain ⟨a, us, ea, hn, eH, rs⟩ := s2.st.own_lst hi e0
    refine ⟨_, ea, .inl ⟨rfl, us, .inl (.inl eH)⟩, _, ρ, s2.st, s2.val w2 fun v ρ1 F1 H1 u _ x hr s1 m1 w1 => ?_⟩
    split at w1
    · rename_i xs1 e1
      split at w1
      · rename_i hl
        obtain ⟨a', us1, ea', hn1, eH1, rs1⟩ := s1.st.own_lst hi e1
        rw [ea] at ea'; cases ea'
        obtain ⟨s3, z⟩ := s1.mut hi e1 ea (rs1.app (.cons hr .nil))
        exact ⟨a, us1, u, rfl, rfl, eH1, by rw [← rs1.len]; exact hl, w1 O1 rfl _ _ σ z s3⟩
      · exact w1.elim
    · exact w1.elim
  · exact w.elim
theorem p_ext {i : Nat} {m : E} {x nx : Str} {y : Expr} {xp ap cp pos : Pos} (xk : XOk p n fnA exA X W) (xn : XN X nm) (hn : nx = "extend") (hv : varB nm i x = true) (hc : chkE p nm m y = true) (hy : noStar y = true) (hl : (ap.endLine == cp.line) = true) (ho : okE O1 m = true) (hf : frE p m = true) (hi : i ∈ O1) (hO : ∀ i, i ∈ O1 → i ∈ O) (h0 : keep0 en.lent O1 = true) :
    PSv p n fnA exA X en O (some O1) W (.ext i m) (.Expr (.Call (.Attribute (.Name x xp) nx ap) [y] [] cp) pos) := by
  subst hn
  have he := (soundE m (W := W) (O := O1) xk xn hc ho).n
  rw [hf] at he
  have pe := pe_bm (r := rExtend) PySem.F.plainAttrs_list PySem.F.slot_list_extend PySem.F.type_list_extend mt_extend (pe_varB (pos := xp) xn hv) (pa_cons he pa_nil (noStar_ok hy _ _)) rfl (by rw [noStar_ok hy]; rfl) hl (noStar_ok hy _ _) (backTo_none rfl)
  refine (ps_expr pe rfl).weak fun D σ H ⟨F, ρ, s, w⟩ => ?_
  have w : RdT X.K fnA exA en (some O1) W (match getV ρ i with
    | some (.lst _) => (evE (cfg p n) m ρ).toRt fun v ρ => (match getV ρ i, v with
      | some (.lst xs), .lst zs => if xs.length + zs.length ≤ sizeLine then .nx (setV ρ i (.lst (xs ++ zs))) else .bad
      | _, _ => .bad)
    | _ => .bad) F H D := w
  split at w
  · rename_i xs0 e0
    have s2 := s.drop hO (keep0_ok h0)
    have w2 := RdT.later w (fz_drop (O := O) (O' := O1) (σ := σ) (ρ := ρ))
    obtain ⟨a, us, ea, hn, eH, rs⟩ := s2.st.own_lst hi e0
    refine ⟨_, ea, .inl ⟨rfl, us, .inl (.inl eH)⟩, _, ρ, s2.st, s2.val (R := RN X.K fnA true) w2 fun v ρ1 F1 H1 u _ x hr s1 m1 w1 => ?_⟩
    unfold RN at hr
    rw [if_pos rfl] at hr
    rcases hr.1 with ⟨zs, zus, b, rfl, rfl, hnb, eb, rz⟩ | ⟨hnl, _⟩
    · split at w1
      · rename_i xs1 zs1 e1 e2
        cases e2
        split at w1
        · rename_i hl
          obtain ⟨a', us1, ea', hn1, eH1, rs1⟩ := s1.st.own_lst hi e1
          rw [ea] at ea'; cases ea'
          obtain ⟨s3, z⟩ := s1.mut hi e1 ea (rs1.app rz)
          exact ⟨a, b, us1, zus, rfl, rfl, eH1, eb, by rw [← rs1.len, ← rz.len]; exact hl, w1 O1 rfl _ _ σ z s3⟩
        · exact w1.elim
      · exact w1.elim
    · split at w1
      · exact absurd rfl (hnl _)
      · exact w1.elim
  · exact w.elim
/-- what is asked behind the value of l[i] = .. -/
def setK (c : Cfg) (i : Nat) (mi : E) (z : Val) (ρ : Env) : Rt := match getV ρ i with
  | some (.lst _) => (evM c .scal mi ρ).toRt fun k ρ => (match getV ρ i, k with
    | some (.lst xs), .int k => (match L2.ixN xs.length k with
      | some j => .nx (setV ρ i (.lst (xs.set j z)))
      | none => .bad)
    | _, _ => .bad)
  | _ => .bad
theorem p_setI {i : Nat} {mi m : E} {x : Str} {y w : Expr} {xp tp pos : Pos} {md : Md} (xk : XOk p n fnA exA X W) (xn : XN X nm) (hv : varB nm i x = true) (hci : chkE p nm mi y = true) (hns : notSlice y = true) (hoi : okE (lof O1 (lentE mi)) mi = true) (hi : i ∈ O1) {te : TE} (he : PE X w te)
    (hte : ∀ (D : Ends) (σ : L2.St) (H : Hp) (Q : VK), RdS X.K fnA exA en O (some O1) W (evS (cfg p n) (.setI i md mi m)) D σ H → (∀ u F1 H1 ρ1 z, FR X.K fnA F1 H1 z u → StF X.K fnA en O1 F1 H1 σ ρ1 → RdT X.K fnA exA en (some O1) W (setK (cfg p n) i mi z ρ1) F1 H1 D → Q u H1) → te σ H Q) : PSv p n fnA exA X en O (some O1) W (.setI i md mi m) (.Assign [.Subscript (.Name x xp) y tp] w pos) := by
  have pg := pg_sub (pos := tp) (pe_varB (pos := xp) xn hv) (soundE mi (W := W) (O := lof O1 (lentE mi)) xk xn hci hoi).v set_list fun _ => by cases y <;> first | rfl | cases hns
  have e2 : swappedStores [.Subscript (.Name x xp) y tp] w X.env = pure none := by cases w <;> rfl
  have e1 : swapsWithSole [.Subscript (.Name x xp) y tp] w pos.line X.env = pure false := by
    show swapsWith w (some (.Subscript (.Name x xp) y tp)) pos.line X.env = pure false
    exact sw_sub
  refine (ps_asg he pg e1 e2 rfl).weak fun D σ H h => hte D σ H _ h fun u F1 H1 ρ1 z rz s1 w1 => ?_
  unfold setK at w1
  split at w1
  · rename_i xs0 e0
    obtain ⟨a, us, ea, hn, eH, rs⟩ := s1.st.own_lst hi e0
    rw [toRt_scal] at w1
    refine ⟨_, ea, ?_⟩
    obtain ⟨F2, s2, q⟩ := s1.scal (R := RV X.K fnA) (Oe := lof O1 (lentE mi)) (l := lentE mi) (Q := fun k H2 => rSetL (.ref a) k u H2 fun H3 => D.nx σ H3) lof_sub lof_in w1 (fun v ρ2 _ F H w => by
      split at w
      · rename_i z; rw [Bool.and_eq_true] at z; exact z.2
      · exact w.elim) fun k ρ2 F' F3 H3 ku _ hr s3 zf w3 => by
        split at w3
        · split at w3
          · rename_i xs k' e3 e4 e5
            split at w3
            · rename_i j ej
              cases hr
              obtain ⟨a', us3, ea', hn3, eH3, rs3⟩ := s3.st.own_lst hi e3
              rw [ea] at ea'; cases ea'
              obtain ⟨s4, z4⟩ := s3.mut hi e3 ea (rs3.set (rz.mono zf.fs zf.kp) j)
              exact ⟨a, us3, k', j, rfl, rfl, eH3, by rw [← rs3.len]; exact ej, w3 O1 rfl _ _ σ z4 s4⟩
            · exact w3.elim
          · exact w3.elim
        · exact w3.elim
    exact ⟨F2, ρ1, s2, q⟩
  · exact w1.elim
/-! flow -/
theorem p_if {t : E} {a b : Ss} {x : Expr} {ys zs : List Stmt} {pos : Pos} {ra rb r : Option (List Nat)} (xk : XOk p n fnA exA X W) (xn : XN X nm) (hc : chkE p nm t x = true) (ho : okE (lof O (lentE t)) t = true) (ha : PSsv p n fnA exA X en O ra W a ys) (hb : PSsv p n fnA exA X en O rb W b zs)
    (hr : r = join ra rb) (hk : keepJ en.lent r = true) : PSv p n fnA exA X en O r W (.ife t a b) (.If x ys zs pos) := by
  have ja : ∀ O1, ra = some O1 → ∃ O2, r = some O2 ∧ (∀ i, i ∈ O2 → i ∈ O1) ∧ (en.lent = true → 0 ∈ O2) := fun O1 e => by
    subst e
    cases rb with
    | none => subst hr; exact ⟨O1, rfl, fun _ h => h, keep0_ok hk⟩
    | some O2 => subst hr; exact ⟨_, rfl, lof_sub, keep0_ok hk⟩
  have jb : ∀ O1, rb = some O1 → ∃ O2, r = some O2 ∧ (∀ i, i ∈ O2 → i ∈ O1) ∧ (en.lent = true → 0 ∈ O2) := fun O1 e => by
    subst e
    cases ra with
    | none => subst hr; exact ⟨O1, rfl, fun _ h => h, keep0_ok hk⟩
    | some O2 => subst hr; exact ⟨_, rfl, lof_in, keep0_ok hk⟩
  refine (ps_if (soundE t xk xn hc ho).t ha hb).weak fun D σ H ⟨F, ρ, s, w⟩ => ?_
  have w : RdT X.K fnA exA en r W ((evT (cfg p n) t ρ).toRt fun k ρ => if k then evSs (cfg p n) a ρ else evSs (cfg p n) b ρ) F H D := w
  rw [toRt_evT] at w
  obtain ⟨F2, s2, q⟩ := s.scal (R := REq) (Oe := lof O (lentE t)) (l := lentE t) (Q := fun k H1 => if k = true then RdS X.K fnA exA en O ra W (evSs (cfg p n) a) D σ H1 else RdS X.K fnA exA en O rb W (evSs (cfg p n) b) D σ H1) lof_sub lof_in w (fun v ρ2 _ F H w => by
    split at w
    · assumption
    · exact w.elim) fun k ρ2 F' F3 H3 ku _ hr s3 zf w3 => by
      subst hr
      split at w3
      · cases k with
        | true => exact ⟨F3, ρ2, s3, RdT.wider w3 ja⟩
        | false => exact ⟨F3, ρ2, s3, RdT.wider w3 jb⟩
      · exact w3.elim
  exact ⟨F2, ρ, s2, q⟩
theorem p_while {t : E} {b : Ss} {x : Expr} {ys : List Stmt} {pos : Pos} {rb : Option (List Nat)} (xk : XOk p n fnA exA X W) (xn : XN X nm) (hc : chkE p nm t x = true) (ho : okE (lof O1 (lentE t)) t = true) (hO : ∀ i, i ∈ O1 → i ∈ O) (h0 : keep0 en.lent O1 = true) (hb : PSsv p n fnA exA X en O1 rb W b ys)
    (hr : okLoop O1 (some rb) = true) : PSv p n fnA exA X en O (some O1) W (.whl t b) (.While x ys [] pos) := by
  refine (ps_while xk.po (soundE t xk xn hc ho).t hb).weak fun D σ H ⟨F, ρ, s, w⟩ => ?_
  have w : RdT X.K fnA exA en (some O1) W (whileN (evT (cfg p n) t) (evSs (cfg p n) b) p.wh ρ) F H D := w
  refine ⟨fun k σ' H' => ∃ F' ρ', StF X.K fnA en O1 F' H' σ' ρ' ∧ RdT X.K fnA exA en (some O1) W (whileN (evT (cfg p n) t) (evSs (cfg p n) b) k ρ') F' H' D, ⟨p.wh, _, ρ, s.drop hO (keep0_ok h0), RdT.later w fz_drop⟩, ?_⟩
  rintro k σ1 H1 ⟨F1, ρ1, s1, w1⟩
  cases k with
  | zero => exact w1.elim
  | succ k =>
    have w1 : RdT X.K fnA exA en (some O1) W ((evT (cfg p n) t ρ1).toRt fun q ρ => if q then (evSs (cfg p n) b ρ).then (whileN (evT (cfg p n) t) (evSs (cfg p n) b) k) else .nx ρ) F1 H1 D := w1
    rw [toRt_evT] at w1
    obtain ⟨F2, s2, q⟩ := s1.scal (R := REq) (Oe := lof O1 (lentE t)) (l := lentE t) (Q := fun q H2 => if q = true then ∃ N : L2.St → Hp → Prop, (∀ σ' H', N σ' H' → ∃ m', m' < k + 1 ∧ ∃ F' ρ', StF X.K fnA en O1 F' H' σ' ρ' ∧ RdT X.K fnA exA en (some O1) W (whileN (evT (cfg p n) t) (evSs (cfg p n) b) m' ρ') F' H' D) ∧
        RdS X.K fnA exA en O1 rb W (evSs (cfg p n) b) { D with nx := N, ct := N, bk := D.nx } σ1 H2 else D.nx σ1 H2) lof_sub lof_in w1 (fun v ρ2 _ F H w => by
      split at w
      · assumption
      · exact w.elim) fun q ρ2 F' F3 H3 ku _ hr' s3 zf w3 => by
        subst hr'
        split at w3
        · cases q with
          | true =>
            refine ⟨fun σ' H' => ∃ F' ρ', StF X.K fnA en O1 F' H' σ' ρ' ∧ RdT X.K fnA exA en (some O1) W (whileN (evT (cfg p n) t) (evSs (cfg p n) b) k ρ') F' H' D, fun σ' H' h => ⟨k, Nat.lt_succ_self k, h⟩, F3, ρ2, s3, ?_⟩
            rw [if_pos rfl] at w3
            refine w3.thn rfl fun ρ' O' F' H' σ' e _ z s' w' => ?_
            subst e
            exact ⟨_, ρ', s'.drop (sub_ok hr) (keep0_ok h0), RdT.later w' fz_drop⟩
          | false => exact w3 O1 rfl F3 H3 σ1 .refl s3
        · exact w3.elim
    exact ⟨F2, ρ1, s2, q⟩
theorem p_for {t : Tg} {it : Rf.It} {b : Ss} {tg x : Expr} {ys : List Stmt} {pos : Pos} {rb : Option (List Nat)} {O2 : List Nat} (xk : XOk p n fnA exA X W) (xn : XN X nm) (ht : chkT nm t tg = true) (hc : chkIt p nm it tg x = true) (hns : notSet x = true) (ho : okIt O1 it = true) (hO : ∀ i, i ∈ O1 → i ∈ O) (hO2 : ∀ i, i ∈ O2 → i ∈ O1) (h0 : keep0 en.lent O2 = true)
    (htg : ∀ i, i ∈ tgS t → i ∉ O2) (hb : PSsv p n fnA exA X en O2 rb W b ys) (hr : okLoop O2 (some rb) = true) : PSv p n fnA exA X en O (some O2) W (.fr t it b) (.For tg x ys [] pos) := by
  refine (ps_for xk.po xk.calm (soundIt it xk xn hc ho) (pg_T xk xn ht) hb (fun _ => by cases x <;> first | rfl | cases hns)).weak fun D σ H h => ?_
  refine RdS.val (R := JOk X.K fnA) (ev := evIt (cfg p n) it) (f := fun xs ρ => forL (fun x ρ => match Rf.assign t x ρ with
    | some ρ => evSs (cfg p n) b ρ
    | none => .bad) xs ρ) h hO (keep0_mono hO2 h0) fun F ρ xs ρ1 F1 H1 J _ _ hJ s1 w1 => ?_
  generalize hst : (fun x ρ => match Rf.assign t x ρ with
    | some ρ => evSs (cfg p n) b ρ
    | none => Rt.bad) = step at w1
  have s2 := s1.drop hO2 (keep0_ok h0)
  refine ⟨fun i m σ' H' => m = xs.length - i ∧ i ≤ xs.length ∧ ∃ F' ρ', StF X.K fnA en O2 F' H' σ' ρ' ∧ Fz F1 H1 F' H' ∧ RdT X.K fnA exA en (some O2) W (forL step (xs.drop i) ρ') F' H' D, ⟨xs.length, by simp, Nat.zero_le _, _, ρ1, s2, fz_drop, RdT.later (by simpa using w1) fz_drop⟩, ?_⟩
  rintro i m σ3 H3 ⟨rfl, hi, F3, ρ3, s3, z3, w3⟩
  by_cases hlt : i < xs.length
  · right
    have ed : xs.drop i = xs[i] :: xs.drop (i + 1) := List.drop_eq_getElem_cons hlt
    rw [ed] at w3
    refine ⟨hJ.go i H3 hlt z3.kp, fun σ' H' => ∃ F' ρ', StF X.K fnA en O2 F' H' σ' ρ' ∧ Fz F1 H1 F' H' ∧ RdT X.K fnA exA en (some O2) W (forL step (xs.drop (i + 1)) ρ') F' H' D, fun σ' H' h => ⟨xs.length - (i + 1), by omega, rfl, hlt, h⟩, fun V H4 hy => ?_⟩
    obtain ⟨F4, x4, fo4, r4⟩ := hJ.yld i H3 V H4 xs[i] F3 (List.getElem?_eq_getElem hlt) z3.kp z3.fs s3.st.fok hy
    have s4 := s3.same x4 fo4
    have z34 : Fz F3 H3 F4 H4 := ⟨x4.fs, fun a o f e => x4.kp a o e id⟩
    have w4 : RdT X.K fnA exA en (some O2) W ((step xs[i] ρ3).then (forL step (xs.drop (i + 1)))) F4 H4 D := RdT.later w3 z34
    rw [← hst] at w4
    dsimp only at w4
    cases ea : Rf.assign t xs[i] ρ3 with
    | none => rw [ea] at w4; exact w4.elim
    | some ρ4 =>
      rw [ea, hst] at w4
      obtain ⟨σ5, s5, g⟩ := s4.assign htg r4 ea
      refine g _ ⟨F4, ρ4, s5, ?_⟩
      refine w4.thn rfl fun ρ' O' F' H' σ' e _ z s' w' => ?_
      subst e
      exact ⟨_, ρ', s'.drop (sub_ok hr) (keep0_ok h0), (z3.trans z34).trans (z.trans fz_drop), RdT.later w' fz_drop⟩
  · have : i = xs.length := by omega
    subst this
    left
    rw [List.drop_length] at w3
    exact ⟨hJ.stop H3 z3.kp, w3 O2 rfl F3 H3 σ3 .refl s3⟩
/-! return -/
theorem RdT.ret {K : PySem.W.Frag} {r : Option (List Nat)} {v : Val} {ρ : Env} {F : Addr → Prop} {H : Hp} {σ : L2.St} {D : Ends} {u : V} (w : RdT K fnA exA en r W (.ret v ρ) F H D) (s : StF K fnA en O F H σ ρ) (hr : RN K fnA en.fresh en.H F H v u) : D.rt u H := w F H u s.x s.st.fok hr s.out
theorem p_ret {m : E} {x : Expr} {pos : Pos} {fr : Bool} (xk : XOk p n fnA exA X W) (xn : XN X nm) (hc : chkE p nm m x = true) (ho : okE O1 m = true) (hO : ∀ i, i ∈ O1 → i ∈ O) (h0 : keep0 en.lent O1 = true) (hf : en.fresh = true → frE p m = true) : PSv p n fnA exA X en O none W (.ret fr m) (.Return (some x) pos) := by
  refine (ps_ret (soundE m xk xn hc ho).n).weak fun D σ H h => ?_
  cases ef : en.fresh with
  | false =>
    refine Rd.weaken (RdS.val (R := RV X.K fnA) (ev := evE (cfg p n) m) (f := fun v ρ => .ret v ρ) h hO h0 fun F ρ v ρ1 F1 H1 u _ _ hr s1 w1 => w1.ret s1 ?_)
    unfold RN
    rw [ef, if_neg (by decide)]
    exact hr
  | true =>
    rw [hf ef]
    refine RdS.val (R := RN X.K fnA true) (ev := evE (cfg p n) m) (f := fun v ρ => .ret v ρ) h hO h0 fun F ρ v ρ1 F1 H1 u s0 _ hr s1 w1 => w1.ret s1 ?_
    rw [ef]
    obtain ⟨F0, ρ0, s00, _⟩ := h
    exact back_RN en.H H F1 H1 v u s00.x.dm hr
theorem p_retC {k : C} {x : Expr} {pos : Pos} {fr : Bool} (xk : XOk p n fnA exA X W) (xn : XN X nm) (hc : chkE p nm (.con k) x = true) : PSv p n fnA exA X en O none W (.ret fr (.con k)) (.Return (some x) pos) := by
  refine (ps_ret (soundE (.con k) (O := O) xk xn hc rfl).v).weak fun D σ H ⟨F, ρ, s, w⟩ => ⟨F, ρ, s.st, s.val (f := fun v ρ => .ret v ρ) w fun v ρ1 F1 H1 u e x hr s1 m1 w1 => w1.ret s1 ?_⟩
  have ev : v = k.val := by
    have : Rs.ok k.val ρ = Rs.ok v ρ1 := e
    cases this; rfl
  have nl : ∀ vs, v ≠ .lst vs := fun vs e => by rw [ev] at e; cases k <;> cases e
  unfold RN
  split
  · exact .fr hr nl
  · exact hr
theorem p_retV {i : Nat} {x : Expr} {pos : Pos} {fr : Bool} (xn : XN X nm) (hc : chkE p nm (.var i) x = true) (hi : i ∈ O) (hne : ¬ (en.lent = true ∧ i = 0)) (ef : en.fresh = true) : PSv p n fnA exA X en O none W (.ret fr (.var i)) (.Return (some x) pos) := by
  cases x <;> first | (cases hc; done) | skip
  refine (ps_ret (pe_varB xn (by simpa [chkE] using hc))).weak fun D σ H ⟨F, ρ, s, w⟩ => ?_
  have w : RdT X.K fnA exA en none W ((Rs.ofO (getV ρ i) ρ).toRt fun v ρ => .ret v ρ) F H D := w
  cases e : getV ρ i with
  | none => rw [e] at w; exact w.elim
  | some v =>
    rw [e] at w
    obtain ⟨u, eu, ow⟩ := s.st.ow i v e hi
    refine ⟨u, eu, RdT.ret w s ?_⟩
    rw [ef]
    unfold RN
    rw [if_pos rfl]
    refine ⟨ow, fun a vs e1 e2 => ?_⟩
    subst e1 e2
    rcases s.nw i vs a hi e eu with z | z
    · exact z
    · exact absurd z hne
end
end Rf

set_option Elab.async false
set_option linter.all false
set_option maxRecDepth 100000
set_option maxHeartbeats 4000000
/-! The reflective layer, part T: a, b = x, y; every statement. -/
namespace Rf
open PySem PySem.Spec PyProof.Rows L2
section
variable {p : Prog} {n : Nat} {fnA exA : Nat → Option Addr} {X : Cx} {W : WX} {nm : Nm} {O O1 : List Nat} {en : En}
theorem locB_ok {i : Nat} {x : Str} (xn : XN X nm) (h : locB nm i x = true) : X.N[i]? = some x ∧ X.env.scope.names.lookup x = some .local := by
  unfold locB at h
  simp only [Bool.and_eq_true, decide_eq_true_eq, beq_iff_eq] at h
  exact ⟨by rw [xn.hN]; exact h.1, by rw [xn.hs]; exact h.2⟩
theorem blkK (xn : XN X nm) : X.env.blockKind = .function := by
  unfold Env.blockKind
  rw [xn.hk]
  rfl
def isStar : Expr → Bool
  | .Starred .. => true
  | _ => false
theorem star_no {a : Expr} (h : noStar a = true) : isStar a = false := by
  cases a <;> first | rfl | cases h
theorem ss_two {x y : Str} {px py tp vp : Pos} {k k2 : Nat} {a b : Expr} (xn : XN X nm) (hx : X.env.scope.names.lookup x = some .local) (hy : X.env.scope.names.lookup y = some .local) (hne : x ≠ y) (hl : (px.line == py.line) = true) (ha : noStar a = true) (hb : noStar b = true)
    (h1 : [a, b].all (foldedForSure 8) = false) (h2 : [a, b].all (constantsAlone 8) = false) : swappedStores [.Tuple [.Name x px, .Name y py] k tp] (.Tuple [a, b] k2 vp) X.env = pure (some [x, y]) := by
  have kx : X.env.kindOf x = some .local := hx
  have ky : X.env.kindOf y = some .local := hy
  have hl' : py.line = px.line := by simpa using (beq_iff_eq.mp hl).symm
  unfold swappedStores
  dsimp only
  simp [blkK xn, kx, ky, hl', h1, h2, Expr.pos, List.eraseDups_cons, hne, Ne.symm hne]
  intro h
  rcases h with h | h
  · exact absurd (star_no ha) (by rw [show isStar a = true from h]; decide)
  · exact absurd (star_no hb) (by rw [show isStar b = true from h]; decide)
theorem ss_three {x y z : Str} {px py pz tp vp : Pos} {k k2 : Nat} {a b d : Expr} (xn : XN X nm) (hx : X.env.scope.names.lookup x = some .local) (hy : X.env.scope.names.lookup y = some .local) (hz : X.env.scope.names.lookup z = some .local) (h12 : x ≠ y) (h13 : x ≠ z) (h23 : y ≠ z) (hl : (px.line == py.line) = true) (hl2 : (px.line == pz.line) = true)
    (ha : noStar a = true) (hb : noStar b = true) (hd : noStar d = true) (h1 : [a, b, d].all (foldedForSure 8) = false) (h2 : [a, b, d].all (constantsAlone 8) = false) : swappedStores [.Tuple [.Name x px, .Name y py, .Name z pz] k tp] (.Tuple [a, b, d] k2 vp) X.env = pure (some [x, y, z]) := by
  have kx : X.env.kindOf x = some .local := hx
  have ky : X.env.kindOf y = some .local := hy
  have kz : X.env.kindOf z = some .local := hz
  have hl' : py.line = px.line := by simpa using (beq_iff_eq.mp hl).symm
  have hl2' : pz.line = px.line := by simpa using (beq_iff_eq.mp hl2).symm
  unfold swappedStores
  dsimp only
  simp [blkK xn, kx, ky, kz, hl', hl2', h1, h2, Expr.pos, List.eraseDups_cons, h12, h13, h23, Ne.symm h12, Ne.symm h13, Ne.symm h23]
  intro h
  rcases h with h | h | h
  · exact absurd (star_no ha) (by rw [show isStar a = true from h]; decide)
  · exact absurd (star_no hb) (by rw [show isStar b = true from h]; decide)
  · exact absurd (star_no hd) (by rw [show isStar d = true from h]; decide)
theorem StF.put {K : PySem.W.Frag} {F : Addr → Prop} {H : Hp} {σ : L2.St} {ρ : Env} {i : Nat} {v : Val} {u : V} (s : StF K fnA en O F H σ ρ) (hi : i ∉ O) (r : FR K fnA F H v u) : StF K fnA en O F H (σ.set i (some u)) (setV ρ i v) :=
  s.putG (fun _ _ => Iff.rfl) (fun z => absurd z hi) (fun _ => r) (fun z => absurd z hi) (fun z e => hi (e ▸ (s.l0 z).1)) fun z => absurd z hi
theorem p_par {is : List Nat} {es : Es} {ts xs : List Expr} {fr : List Bool} {k k2 : Nat} {tp vp pos : Pos} (xk : XOk p n fnA exA X W) (xn : XN X nm) (hp : parB nm is ts xs = true) (hc : chkEs p nm es xs = true) (ho : okEs O1 es = true) (hO : ∀ i, i ∈ O1 → i ∈ O) (h0 : keep0 en.lent (rst O1 is) = true) :
    PSv p n fnA exA X en O (some (rst O1 is)) W (.par is fr es) (.Assign [.Tuple ts k tp] (.Tuple xs k2 vp) pos) := by
  have pa := soundEs (n := n) es (O := O1) xk xn hc ho
  have no : ∀ i, i ∈ is → i ∉ rst O1 is := fun i hi z => (mem_rst.mp z).2 hi
  unfold parB at hp
  split at hp
  · rename_i i j x px y py a b
    simp only [Bool.and_eq_true, decide_eq_true_eq, Bool.not_eq_true'] at hp
    obtain ⟨⟨⟨⟨⟨⟨⟨⟨hx, hy⟩, hij⟩, hne⟩, hl⟩, ha⟩, hb⟩, h1⟩, h2⟩ := hp
    obtain ⟨nx, lx⟩ := locB_ok xn hx
    obtain ⟨ny, ly⟩ := locB_ok xn hy
    refine (ps_par xk.calm xk.nd nx ny hij lx ly pa (ss_two xn lx ly hne hl ha hb h1 h2) rfl).weak fun D σ H h => ?_
    refine RdS.val (R := RVs X.K fnA) (ev := evEs (cfg p n) es) (f := fun vs ρ => match setAll [i, j] vs ρ with | some ρ => .nx ρ | none => .bad) h hO (keep0_mono rst_sub h0) fun F ρ vs ρ1 F1 H1 us _ _ hr s1 w1 => ?_
    cases ea : setAll [i, j] vs ρ1 with
    | none => rw [ea] at w1; exact w1.elim
    | some ρ2 =>
      rw [ea] at w1
      match vs, us, hr, ea with
      | [v1, v2], _, .cons r1 (.cons r2 .nil), ea =>
        cases ea
        have s2 := s1.drop (O' := rst O1 [i, j]) rst_sub (keep0_ok h0)
        exact ⟨_, _, rfl, w1 _ rfl _ H1 _ fz_drop ((s2.put (no i (by simp)) (r1.mono (fun _ => .inl) fun _ _ _ e => e)).put (no j (by simp)) (r2.mono (fun _ => .inl) fun _ _ _ e => e))⟩
      | [], _, _, ea => cases ea
      | [_], _, _, ea => cases ea
      | _ :: _ :: _ :: _, _, _, ea => cases ea
  · rename_i i j l x px y py z pz a b d
    simp only [Bool.and_eq_true, decide_eq_true_eq, Bool.not_eq_true'] at hp
    obtain ⟨⟨⟨⟨⟨⟨⟨⟨⟨⟨⟨⟨⟨⟨⟨hx, hy⟩, hz⟩, hij⟩, hil⟩, hjl⟩, h12⟩, h13⟩, h23⟩, hl⟩, hl2⟩, ha⟩, hb⟩, hd⟩, h1⟩, h2⟩ := hp
    obtain ⟨nx, lx⟩ := locB_ok xn hx
    obtain ⟨ny, ly⟩ := locB_ok xn hy
    obtain ⟨nz, lz⟩ := locB_ok xn hz
    refine (ps_par3 xk.calm xk.nd nx ny nz hij hil hjl lx ly lz pa (ss_three xn lx ly lz h12 h13 h23 hl hl2 ha hb hd h1 h2) rfl).weak fun D σ H h => ?_
    refine RdS.val (R := RVs X.K fnA) (ev := evEs (cfg p n) es) (f := fun vs ρ => match setAll [i, j, l] vs ρ with | some ρ => .nx ρ | none => .bad) h hO (keep0_mono rst_sub h0) fun F ρ vs ρ1 F1 H1 us _ _ hr s1 w1 => ?_
    cases ea : setAll [i, j, l] vs ρ1 with
    | none => rw [ea] at w1; exact w1.elim
    | some ρ2 =>
      rw [ea] at w1
      match vs, us, hr, ea with
      | [v1, v2, v3], _, .cons r1 (.cons r2 (.cons r3 .nil)), ea =>
        cases ea
        have s2 := s1.drop (O' := rst O1 [i, j, l]) rst_sub (keep0_ok h0)
        exact ⟨_, _, _, rfl, w1 _ rfl _ H1 _ fz_drop (((s2.put (no i (by simp)) (r1.mono (fun _ => .inl) fun _ _ _ e => e)).put (no j (by simp)) (r2.mono (fun _ => .inl) fun _ _ _ e => e)).put (no l (by simp)) (r3.mono (fun _ => .inl) fun _ _ _ e => e))⟩
      | [], _, _, ea => cases ea
      | [_], _, _, ea => cases ea
      | [_, _], _, _, ea => cases ea
      | _ :: _ :: _ :: _ :: _, _, _, ea => cases ea
  · cases hp
theorem ite_some {c : Bool} {α : Type} {a r : α} (h : (if c then some a else none) = some r) : c = true ∧ a = r := by
  cases c with
  | false => cases h
  | true => exact ⟨rfl, by simpa using h⟩
theorem chk_par {is : List Nat} {fr : List Bool} {es : Es} {e : Stmt} (h : chkS p nm (.par is fr es) e = true) : ∃ ts k tp xs k2 vp pos, e = .Assign [.Tuple ts k tp] (.Tuple xs k2 vp) pos ∧ parB nm is ts xs = true ∧ chkEs p nm es xs = true := by
  unfold chkS at h
  split at h
  all_goals first
    | (rename_i q; cases q; done)
    | (cases h; done)
    | skip
  rename_i hm
  cases hm
  simp only [Bool.and_eq_true] at h
  exact ⟨_, _, _, _, _, _, _, rfl, h.1, h.2⟩
theorem chk_setI {v : Nat} {md : Md} {i m : E} {e : Stmt} (h : chkS p nm (.setI v md i m) e = true) : ∃ x xp y tp z pos, e = .Assign [.Subscript (.Name x xp) y tp] z pos ∧ varB nm v x = true ∧ chkE p nm i y = true ∧ notSlice y = true ∧ chkE p nm m z = true := by
  unfold chkS at h
  split at h
  all_goals first
    | (rename_i q; cases q; done)
    | (cases h; done)
    | skip
  rename_i hm
  cases hm
  simp only [Bool.and_eq_true] at h
  exact ⟨_, _, _, _, _, _, rfl, h.1.1.1, h.1.1.2, h.1.2, h.2⟩
mutual
theorem soundS : ∀ (m : S) {O : List Nat} {r : Option (List Nat)} {e : Stmt}, XOk p n fnA exA X W → XN X nm → chkS p nm m e = true → gvS p en.lent en.fresh O m = some r → PSv p n fnA exA X en O r W m e
  | .expr m, O, r, e, xk, xn, hc, hg => by
    cases e <;> first | (cases hc; done) | skip
    simp only [chkS, Bool.and_eq_true] at hc
    simp only [gvS] at hg
    obtain ⟨hh, rfl⟩ := ite_some hg
    clear hg
    have hg := hh
    rw [Bool.and_eq_true] at hg
    exact p_expr xk xn hc.1 hc.2 hg.1 rst_sub hg.2
  | .set t md m, O, r, e, xk, xn, hc, hg => by
    cases e <;> first | (cases hc; done) | skip
    rename_i tgs v pos
    match tgs, hc with
    | [], hc => cases hc
    | _ :: _ :: _, hc => cases hc
    | [tg], hc =>
      simp only [chkS, Bool.and_eq_true] at hc
      obtain ⟨⟨c1, c2⟩, c3⟩ := hc
      cases md with
      | scal =>
        cases t with
        | tup is => simp [gvS] at hg
        | name i =>
          simp only [gvS] at hg
          obtain ⟨hh, rfl⟩ := ite_some hg
          clear hg
          have hg := hh
          rw [Bool.and_eq_true] at hg
          exact p_scal xk xn c1 c2 c3 hg.1 fun z => by simpa [z] using hg.2
      | val =>
        simp only [gvS] at hg
        obtain ⟨hh, rfl⟩ := ite_some hg
        clear hg
        have hg := hh
        rw [Bool.and_eq_true] at hg
        exact p_set xk xn c1 c2 c3 hg.1 rst_sub hg.2
      | frsh =>
        cases t with
        | tup is => simp [gvS] at hg
        | name i =>
          simp only [gvS] at hg
          obtain ⟨hh, rfl⟩ := ite_some hg
          clear hg
          have hg := hh
          simp only [Bool.and_eq_true] at hg
          exact p_frsh xk xn c1 c2 c3 hg.1.1 hg.1.2 rst_sub hg.2
  | .par is fr es, O, r, e, xk, xn, hc, hg => by
    obtain ⟨ts, k, tp, xs, k2, vp, pos, rfl, c1, c2⟩ := chk_par hc
    simp only [gvS] at hg
    obtain ⟨hh, rfl⟩ := ite_some hg
    rw [Bool.and_eq_true] at hh
    exact p_par xk xn c1 c2 hh.1 rst_sub hh.2
  | .setI x md i m, O, r, e, xk, xn, hc, hg => by
    obtain ⟨x', xp, y, tp, z, pos, rfl, c1, c2, c3, c4⟩ := chk_setI hc
    cases md with
    | scal =>
      simp only [gvS] at hg
      obtain ⟨hh, rfl⟩ := ite_some hg
      clear hg
      have hg := hh
      simp only [Bool.and_eq_true] at hg
      refine p_setI xk xn c1 c2 c3 hg.1.2 (by simpa using hg.2) (soundE m xk xn c4 hg.1.1).v fun D σ H Q h k => ?_
      have h : RdS X.K fnA exA en O (some O) W (fun ρ => (evE (cfg p n) m ρ).toRt fun v ρ => if scalar v && lentOk (lentE m) ρ then setK (cfg p n) x i v ρ else .bad) D σ H := by
        obtain ⟨F, ρ, s, w⟩ := h
        refine ⟨F, ρ, s, ?_⟩
        show RdT X.K fnA exA en (some O) W ((evE (cfg p n) m ρ).toRt fun v ρ => if scalar v && lentOk (lentE m) ρ then setK (cfg p n) x i v ρ else .bad) F H D
        rw [← toRt_scal (f := fun v ρ => setK (cfg p n) x i v ρ)]
        exact w
      refine h.scal (R := RV X.K fnA) (l := lentE m) (fun v ρ1 F H w => ?_) fun v ρ1 F' F1 H1 u hr s1 w1 => ?_
      · split at w
        · rename_i z; rw [Bool.and_eq_true] at z; exact z.2
        · exact w.elim
      · split at w1
        · rename_i z
          rw [Bool.and_eq_true] at z
          exact k u F1 H1 ρ1 v (hr.scal z.1) s1 w1
        · exact w1.elim
    | val =>
      simp only [gvS] at hg
      obtain ⟨hh, rfl⟩ := ite_some hg
      clear hg
      have hg := hh
      simp only [Bool.and_eq_true] at hg
      obtain ⟨⟨⟨g1, g2⟩, g3⟩, g4⟩ := hg
      refine p_setI xk xn c1 c2 c3 g2 (by simpa using g3) (soundE m xk xn c4 g1).v fun D σ H Q h k => ?_
      exact RdS.val (R := RV X.K fnA) (ev := evE (cfg p n) m) (f := fun v ρ => setK (cfg p n) x i v ρ) h rst_sub g4 fun F ρ v ρ1 F1 H1 u _ _ hr s1 w1 => k u F1 H1 ρ1 v hr s1 w1
    | frsh => simp [gvS] at hg
  | .app x m, O, r, e, xk, xn, hc, hg => by
    cases e <;> first | (cases hc; done) | skip
    rename_i v pos
    cases v <;> first | (cases hc; done) | skip
    rename_i f as kws cp
    cases f <;> first | (cases hc; done) | skip
    rename_i o nx ap
    cases o <;> first | (cases hc; done) | skip
    match as, kws, hc with
    | [y], [], hc =>
      simp only [chkS, Bool.and_eq_true, decide_eq_true_eq] at hc
      obtain ⟨⟨⟨⟨c1, c2⟩, c3⟩, c4⟩, c5⟩ := hc
      simp only [gvS] at hg
      obtain ⟨hh, rfl⟩ := ite_some hg
      clear hg
      have hg := hh
      simp only [Bool.and_eq_true] at hg
      exact p_app xk xn c1 c2 c3 c4 c5 hg.1.1 (by simpa using hg.1.2) rst_sub hg.2
    | [], _, hc => cases hc
    | _ :: _ :: _, _, hc => cases hc
    | [_], _ :: _, hc => cases hc
  | .ext x m, O, r, e, xk, xn, hc, hg => by
    cases e <;> first | (cases hc; done) | skip
    rename_i v pos
    cases v <;> first | (cases hc; done) | skip
    rename_i f as kws cp
    cases f <;> first | (cases hc; done) | skip
    rename_i o nx ap
    cases o <;> first | (cases hc; done) | skip
    match as, kws, hc with
    | [y], [], hc =>
      simp only [chkS, Bool.and_eq_true, decide_eq_true_eq] at hc
      obtain ⟨⟨⟨⟨c1, c2⟩, c3⟩, c4⟩, c5⟩ := hc
      simp only [gvS] at hg
      obtain ⟨hh, rfl⟩ := ite_some hg
      clear hg
      have hg := hh
      simp only [Bool.and_eq_true] at hg
      exact p_ext xk xn c1 c2 c3 c4 c5 hg.1.1.1 hg.1.1.2 (by simpa using hg.1.2) rst_sub hg.2
    | [], _, hc => cases hc
    | _ :: _ :: _, _, hc => cases hc
    | [_], _ :: _, hc => cases hc
  | .ife t a b, O, r, e, xk, xn, hc, hg => by
    cases e <;> first | (cases hc; done) | skip
    simp only [chkS, Bool.and_eq_true] at hc
    simp only [gvS] at hg
    split at hg
    · rename_i h1
      split at hg
      · rename_i ra rb ea eb
        obtain ⟨hh, rfl⟩ := ite_some hg
        clear hg
        have hg := hh
        exact p_if xk xn hc.1.1 h1 (soundSs a xk xn hc.1.2 ea) (soundSs b xk xn hc.2 eb) rfl hg
      · cases hg
    · cases hg
  | .whl t b, O, r, e, xk, xn, hc, hg => by
    cases e <;> first | (cases hc; done) | skip
    rename_i x ys els pos
    match els, hc with
    | _ :: _, hc => cases hc
    | [], hc =>
      simp only [chkS, Bool.and_eq_true] at hc
      simp only [gvS] at hg
      obtain ⟨hh, rfl⟩ := ite_some hg
      clear hg
      have hg := hh
      simp only [Bool.and_eq_true] at hg
      cases eb : gvSs p en.lent en.fresh (rst O (killSs b)) b with
      | none => rw [eb] at hg; cases hg.2
      | some rb =>
        rw [eb] at hg
        exact p_while xk xn hc.1 hg.1.1 rst_sub hg.1.2 (soundSs b xk xn hc.2 eb) hg.2
  | .fr t it b, O, r, e, xk, xn, hc, hg => by
    cases e <;> first | (cases hc; done) | skip
    rename_i tg x ys els pos
    match els, hc with
    | _ :: _, hc => cases hc
    | [], hc =>
      simp only [chkS, Bool.and_eq_true] at hc
      obtain ⟨⟨⟨c1, c2⟩, c3⟩, c4⟩ := hc
      simp only [gvS] at hg
      obtain ⟨hh, rfl⟩ := ite_some hg
      clear hg
      have hg := hh
      simp only [Bool.and_eq_true] at hg
      cases eb : gvSs p en.lent en.fresh (rst (rst (rst O (varsIt it)) (tgS t)) (killSs b)) b with
      | none => rw [eb] at hg; cases hg.2
      | some rb =>
        rw [eb] at hg
        exact p_for xk xn c1 c2 c3 hg.1.1 rst_sub (fun i z => rst_sub i (rst_sub i z)) hg.1.2 (fun i hi z => (mem_rst.mp (rst_sub i z)).2 hi) (soundSs b xk xn c4 eb) hg.2
  | .ret fr m, O, r, e, xk, xn, hc, hg => by
    cases e <;> first | (cases hc; done) | skip
    rename_i x pos
    cases x with
    | none => cases hc
    | some x =>
      simp only [chkS] at hc
      simp only [gvS] at hg
      obtain ⟨hh, rfl⟩ := ite_some hg
      clear hg
      have hg := hh
      cases ef : en.fresh with
      | false =>
        rw [ef, if_neg Bool.false_ne_true, Bool.and_eq_true] at hg
        exact p_ret xk xn hc hg.1 rst_sub hg.2 fun z => by rw [ef] at z; cases z
      | true =>
        rw [ef, if_pos rfl] at hg
        unfold retB at hg
        split at hg
        · simp only [Bool.and_eq_true, Bool.not_eq_true', Bool.and_eq_false_iff] at hg
          refine p_retV xn hc (by simpa using hg.1) (fun ⟨z1, z2⟩ => ?_) ef
          rcases hg.2 with q | q
          · rw [z1] at q; cases q
          · simp [z2] at q
        · exact p_retC xk xn hc
        · simp only [Bool.and_eq_true] at hg
          exact p_ret xk xn hc hg.1.1 rst_sub hg.2 fun _ => hg.1.2
  | .nev, O, r, e, xk, xn, hc, hg => ps_never.weak fun D σ H ⟨F, ρ, s, w⟩ => w
theorem soundSs : ∀ (m : Ss) {O : List Nat} {r : Option (List Nat)} {e : List Stmt}, XOk p n fnA exA X W → XN X nm → chkSs p nm m e = true → gvSs p en.lent en.fresh O m = some r → PSsv p n fnA exA X en O r W m e
  | .nil, O, r, e, xk, xn, hc, hg => by
    cases e <;> first | (cases hc; done) | skip
    simp only [gvSs] at hg
    cases hg
    exact pss_nil.weak fun D σ H ⟨F, ρ, s, w⟩ => w O rfl F H σ .refl s
  | .cons m ms, O, r, e, xk, xn, hc, hg => by
    cases e <;> first | (cases hc; done) | skip
    rename_i x xs
    simp only [chkSs, Bool.and_eq_true] at hc
    simp only [gvSs] at hg
    split at hg
    · cases hg
    · rename_i eg
      cases hg
      refine (pss_cons (soundS m xk xn hc.1 eg) pss_never).weak fun D σ H ⟨F, ρ, s, w⟩ => ⟨F, ρ, s, ?_⟩
      have w : RdT X.K fnA exA en none W ((evS (cfg p n) m ρ).then (evSs (cfg p n) ms)) F H D := w
      exact w.thn rfl fun ρ' O' F' H' σ' e => by cases e
    · rename_i O1 eg
      refine (pss_cons (soundS m xk xn hc.1 eg) (soundSs ms xk xn hc.2 hg)).weak fun D σ H ⟨F, ρ, s, w⟩ => ⟨F, ρ, s, ?_⟩
      have w : RdT X.K fnA exA en r W ((evS (cfg p n) m ρ).then (evSs (cfg p n) ms)) F H D := w
      exact w.thn rfl fun ρ' O' F' H' σ' e _ z s' w' => by
        cases e
        exact ⟨F', ρ', s', w'⟩
end
end
end Rf

set_option Elab.async false
set_option linter.all false
set_option maxRecDepth 100000
set_option maxHeartbeats 4000000
/-! The reflective layer, part U: defs, programs. -/
namespace Rf
open PySem PySem.Spec PyProof.Rows L2

def nmOf (fd : Fd) (sc : Scope) : Nm := ⟨fd.N, sc.names, none⟩
def entO (fd : Fd) : List Nat := (if fd.lent then [0] else []) ++ (List.range fd.N.length).filter fun i => decide (fd.P.length ≤ i)
/-- the look of a def -/
def okFd (p : Prog) (fd : Fd) (body : List Stmt) (sc : Scope) : Bool := chkSs p (nmOf fd sc) fd.body body && (gvSs p fd.lent fd.fresh (entO fd) fd.body).isSome && decide (fd.P.length ≤ fd.N.length)
theorem enter_get {fd : Fd} {as : List Val} {i : Nat} {v : Val} (h : getV (enter fd as) i = some v) : as[i]? = some v := by
  unfold getV enter at h
  by_cases hi : i < as.length
  · rw [List.getElem?_append_left (by simpa using hi), List.getElem?_map] at h
    cases e : as[i]? with
    | none => rw [e] at h; cases h
    | some w => rw [e] at h; simpa using h
  · rw [List.getElem?_append_right (by simpa using hi)] at h
    rw [List.getElem?_replicate] at h
    split at h
    · rename_i e
      split at e <;> cases e
    · cases h
theorem enter_put {fd : Fd} {as : List Val} {i : Nat} {v : Val} (h : as[i]? = some v) : getV (enter fd as) i = some v := by
  unfold getV enter
  have hi : i < as.length := (List.getElem?_eq_some_iff.mp h).1
  rw [List.getElem?_append_left (by simpa using hi), List.getElem?_map, h]
  rfl
theorem start_get {N : List Str} {vs : List V} {i : Nat} {u : V} (h : vs[i]? = some u) : (start N vs)[i]? = some (some u) := by
  unfold L2.start
  have hi : i < vs.length := (List.getElem?_eq_some_iff.mp h).1
  rw [List.getElem?_append_left (by simpa using hi), List.getElem?_map, h]
  rfl
theorem mem_entO {fd : Fd} {i : Nat} : i ∈ entO fd ↔ (fd.lent = true ∧ i = 0) ∨ (fd.P.length ≤ i ∧ i < fd.N.length) := by
  unfold entO
  cases fd.lent <;> simp [and_comm]
section
variable {K : PySem.W.Frag} {fnA exA : Nat → Option Addr} {F : Addr → Prop} {H : Hp}
theorem entry {fd : Fd} {as : List Val} {vs : List V} (fo : ∀ a, F a → ∃ o, H a = some o) (la : as.length = fd.P.length) (lv : vs.length = fd.P.length) (hPN : fd.P.length ≤ fd.N.length) (ha : Args K fnA fd.lent F H as vs) :
    StF K fnA ⟨fd.lent, fd.fresh, as, vs, F, H⟩ (entO fd) F H (start fd.N vs) (enter fd as) := by
  have lt : ∀ i v, getV (enter fd as) i = some v → i < fd.P.length := fun i v e => by
    rw [← la]
    exact (List.getElem?_eq_some_iff.mp (enter_get e)).1
  have own0 : ∀ i v, getV (enter fd as) i = some v → i ∈ entO fd → fd.lent = true ∧ i = 0 := fun i v e hi => by
    have := lt i v e
    rcases mem_entO.mp hi with z | z
    · exact z
    · omega
  refine ⟨⟨fo, ?_, fun i v e hi => ?_, fun i v e hi => ?_, fun i j vs' ws a hi hj ei ej _ _ => ?_⟩, .refl, fun i vs' a hi e _ => .inr (own0 i _ e hi), fun z => ?_⟩
  · unfold enter L2.start
    simp [la, lv]
  · have e := enter_get e
    cases hl : fd.lent with
    | false =>
      rw [hl] at ha
      obtain ⟨u, eu, r⟩ := FRs.get (show FRs K fnA F H as vs from ha) e
      exact ⟨u, start_get eu, r⟩
    | true =>
      rw [hl] at ha
      obtain ⟨a, r, u, s, rfl, rfl, ho, hr⟩ := ha
      cases i with
      | zero => exact absurd (mem_entO.mpr (.inl ⟨hl, rfl⟩)) hi
      | succ i =>
        obtain ⟨u2, eu, r⟩ := hr.get (by simpa using e)
        exact ⟨u2, start_get (by simpa using eu), r⟩
  · obtain ⟨hl, rfl⟩ := own0 i v e hi
    rw [hl] at ha
    obtain ⟨a, r, u, s, rfl, rfl, ho, hr⟩ := ha
    have e := enter_get e
    cases (show some a = some v by simpa using e)
    exact ⟨u, start_get rfl, ho⟩
  · rw [(own0 i _ ei hi).2, (own0 j _ ej hj).2]
  · refine ⟨mem_entO.mpr (.inl ⟨z, rfl⟩), ?_⟩
    rw [show fd.lent = true from z] at ha
    obtain ⟨a, r, u, s, rfl, rfl, ho, hr⟩ := ha
    refine ⟨a, r, u, s, rfl, rfl, start_get rfl, ?_⟩
    rw [enter_put (i := 0) (v := a) rfl]
    exact ⟨fun ⟨xs, e⟩ => ⟨xs, by rw [e]⟩, fun ⟨xs, e⟩ => ⟨xs, by cases e; rfl⟩⟩
/-- from the promise to the run's reading -/
theorem spF_run {p : Prog} {n f : Nat} {fd : Fd} {vs : List V} {Q : VK} {E : XK} {r : Option (List Nat)} (ef : p.fns[f]? = some fd) (hPN : fd.P.length ≤ fd.N.length) (h : spF K fnA exA fd (callN p (n + 1) f) vs H Q E) :
    ∃ en : En, en.lent = fd.lent ∧ en.fresh = fd.fresh ∧ RdS K fnA exA en (entO fd) r (fun cls d _ H => E cls d H) (evSs (cfg p n) fd.body) { nx := fun _ H' => Q .non H', rt := Q } (start fd.N vs) H := by
  obtain ⟨F, as, fo, la, lv, ha, h⟩ := h
  refine ⟨⟨fd.lent, fd.fresh, as, vs, F, H⟩, rfl, rfl, F, enter fd as, entry fo la lv hPN ha, ?_⟩
  have h : (match (match evSs (cfg p n) fd.body (enter fd as) with
      | .nx ρ => endOf fd .non ρ
      | .ret v ρ => endOf fd v ρ
      | .exc x => .exc x
      | .bad => .bad) with
    | .ok v o => ∀ F' H' u, Ext (MuA fd.lent as vs) F H F' H' → (∀ a, F' a → ∃ o, H' a = some o) → RN K fnA fd.fresh H F' H' v u → OutR K fnA fd.lent F' H' as vs o → Q u H'
    | .exc x => ∀ F' H' C d, Ext (MuA fd.lent as vs) F H F' H' → exA x = some C → E (.ref C) d H'
    | .bad => False) := by
    have e : callN p (n + 1) f as = (match evSs (cfg p n) fd.body (enter fd as) with
      | .nx ρ => endOf fd .non ρ
      | .ret v ρ => endOf fd v ρ
      | .exc x => .exc x
      | .bad => .bad) := by
      show (match p.fns[f]? with
        | some fd => runFd ⟨callN p n, fun x => p.vals.lookup x, p.wh⟩ fd as
        | none => .bad) = _
      rw [ef]
      show runFd ⟨callN p n, fun x => p.vals.lookup x, p.wh⟩ fd as = _
      unfold runFd
      rw [if_pos la]
      all_goals rfl
    rw [← e]
    exact h
  have out : ∀ ρ F' H', (!fd.lent || (getV ρ 0).isSome) = true → OutS K fnA ⟨fd.lent, fd.fresh, as, vs, F, H⟩ F' H' ρ → OutR K fnA fd.lent F' H' as vs (outOf ρ) := fun ρ F' H' hk os hl a r u s ea ev => by
    rw [hl] at hk
    obtain ⟨v0, e0⟩ := Option.isSome_iff_exists.mp (by simpa using hk)
    have := os hl v0 e0 a r u s ea ev
    unfold outOf
    rw [e0]
    exact this
  revert h
  cases evSs (cfg p n) fd.body (enter fd as) with
  | bad => exact id
  | exc x => exact fun h F' H' C d σ' x e => h F' H' C d x e
  | nx ρ =>
    intro h O' e F' H' σ' z s
    dsimp only [endOf] at h
    split at h
    · rename_i v o eo
      split at eo
      · rename_i hk
        cases eo
        refine h F' H' .non s.x s.st.fok ?_ (out ρ F' H' hk s.out)
        unfold RN
        split
        · exact .fr .non fun _ q => by cases q
        · exact .non
      · cases eo
    · rename_i eo
      split at eo <;> cases eo
    · exact h.elim
  | ret v ρ =>
    intro h F' H' u x fo rn os
    dsimp only [endOf] at h
    split at h
    · rename_i v' o eo
      split at eo
      · rename_i hk
        cases eo
        exact h F' H' u x fo rn (out ρ F' H' hk os)
      · cases eo
    · rename_i eo
      split at eo <;> cases eo
    · exact h.elim
end

/-! ### programs -/
/-- what is known of a program's defs and names -/
structure PrOk (p : Prog) (fnA : Nat → Option Addr) (K : PySem.W.Frag) (mg : Str → Option Value) : Prop where
  fns : ∀ f fd, p.fns[f]? = some fd → ∃ fa dt qual params body scope dvs kws, fnA f = some fa ∧ mg fd.name = some (.ref fa) ∧ PySem.W.keepIn K (.ref fa) = true ∧ FunD K fd.name qual params body scope dvs kws fa dt ∧ FnScope fd.N fd.P scope ∧ okFd p fd body scope = true ∧
    (∀ (s : Shared) (us : List Value), us.length = fd.P.length → BindsTo s dt ⟨us, []⟩ (fd.P.zip us)) ∧ ∀ ks ∈ fd.kws, ∀ (s : Shared) (ws : List Value), ws.length = ks.length → BindsTo s dt ⟨[], (ks.filterMap (fd.P[·]?)).zip ws⟩ (fd.P.zip (permK ks ws))
  vals : ∀ x v, p.vals.lookup x = some v → ∃ u w, mg x = some u ∧ RelV w u ∧ (∀ F H, FR K fnA F H v w) ∧ ∀ vs, v ≠ .lst vs
  blt : ∀ x ∈ p.blts, mg x = none
  gcd : mg "gcd" = some (.builtin "math.gcd") ∨ p.gcd = false
theorem prog_ok {p : Prog} {fnA exA : Nat → Option Addr} {P : Program} {w : World} {K : PySem.W.Frag} {mg : Str → Option Value} (h : PrOk p fnA K mg) : ∀ (n f : Nat) (fd : Fd), p.fns[f]? = some fd → ∃ fa dt, (∀ (s : Shared) (us : List Value), us.length = fd.P.length → BindsTo s dt ⟨us, []⟩ (fd.P.zip us)) ∧ ∀ X : Cx, X.prog = P → X.w = w → X.K = K → X.mg = mg → FnX n fnA exA X f fd (callN p n f) fa dt
  | 0, f, fd, ef => by
    obtain ⟨fa, dt, qual, params, body, scope, dvs, kws, h1, h2, h3, h4, h5, h6, h7, h8⟩ := h.fns f fd ef
    refine ⟨fa, dt, h7, fun X e1 e2 e3 e4 => ?_⟩
    subst e1 e2 e3 e4
    have h7' : Binds X.K dt fd.P [] := fun s us _ hl => by
      rw [List.append_nil] at hl ⊢
      exact h7 s us hl
    have no : ∀ vs H Q E, ¬ spF X.K fnA exA fd (callN p 0 f) vs H Q E := fun vs H Q E ⟨F, as, _, _, _, _, z⟩ => z
    exact ⟨h1, h2, h3, ⟨fun vs H Q E z => (no _ _ _ _ z).elim, fun A outer s H args us vs Q E _ _ _ _ z => (no _ _ _ _ z).elim⟩, h7', h8⟩
  | n + 1, f, fd, ef => by
    obtain ⟨fa, dt, qual, params, body, scope, dvs, kws, h1, h2, h3, h4, h5, h6, h7, h8⟩ := h.fns f fd ef
    refine ⟨fa, dt, h7, fun X e1 e2 e3 e4 => ?_⟩
    subst e1 e2 e3 e4
    have h7' : Binds X.K dt fd.P [] := fun s us _ hl => by
      rw [List.append_nil] at hl ⊢
      exact h7 s us hl
    have ih := prog_ok (exA := exA) (P := X.prog) (w := X.w) h n
    refine ⟨h1, h2, h3, ?_, h7', h8⟩
    unfold okFd at h6
    simp only [Bool.and_eq_true, decide_eq_true_eq] at h6
    obtain ⟨⟨g1, g2⟩, g3⟩ := h6
    refine h4.ok h5 (fun vs H Q E z => ?_) fun cdv A outer s H vs Q E hr hsp => ?_
    · obtain ⟨F, as, _, _, lv, _⟩ := z
      exact lv
    · obtain ⟨r, er⟩ := Option.isSome_iff_exists.mp g2
      obtain ⟨en, l1, l2, rd⟩ := spF_run (r := r) ef g3 hsp
      refine ⟨_, ?_, rd⟩
      have xk : XOk p n fnA exA (cxOf (L2.CX X.prog X.w) X.prog X.w X.K X.mg X.base fd.N qual scope fa cdv A outer s H E) (fun cls d _ H => E cls d H) :=
        ⟨rfl, h5.nd, hr, takes_of rfl rfl rfl rfl, passes_of rfl, fun f' fd' e' => by
          obtain ⟨fa', dt', _, k⟩ := ih f' fd' e'
          exact ⟨fa', dt', k _ rfl rfl rfl rfl⟩, h.vals, h.blt, h.gcd⟩
      have xn : XN (cxOf (L2.CX X.prog X.w) X.prog X.w X.K X.mg X.base fd.N qual scope fa cdv A outer s H E) (nmOf fd scope) := ⟨rfl, rfl, h5.kind, rfl⟩
      exact soundSs fd.body xk xn g1 (by rw [l1, l2]; exact er)
end Rf

set_option Elab.async false
set_option linter.all false
set_option maxRecDepth 100000
set_option maxHeartbeats 4000000
/-! The reflective layer, part V: defs by the head's facts; the law's end. -/
namespace Rf
open PySem PySem.Spec PyProof.Rows L2
theorem bindsKw {K : PySem.W.Frag} {x qual : Str} {params : Arguments} {body : List Stmt} {scope : Scope} {kws : List (Str × V)} {f : Addr} {fd : FuncData} (F : FunD K x qual params body scope [] kws f fd) {P : List Str} {ks : List Nat}
    (h : ∀ (kV doc pm : Value) (an : Option Addr) (cdv ct : Value) (ws : List Value), ws.length = ks.length → bindArgs (PySem.W.fnOf x qual params body scope .none kV doc pm an cdv ct) ⟨[], (ks.filterMap (P[·]?)).zip ws⟩ = pure (P.zip (permK ks ws))) (s : Shared) (ws : List Value) (hl : ws.length = ks.length) : BindsTo s fd ⟨[], (ks.filterMap (P[·]?)).zip ws⟩ (P.zip (permK ks ws)) := by
  obtain ⟨oc, od, dV, kV, doc, pm, an, cdv, ct, osl, rfl, lk, hcd, hD, hK⟩ := F.ex
  rcases hD with ⟨_, rfl⟩ | ⟨e, _⟩
  · exact .of_eq (h kV doc pm an cdv ct ws hl)
  · exact absurd rfl e
/-- what is known of a def -/
def Good (p : Prog) (fnA : Nat → Option Addr) (K : PySem.W.Frag) (mg : Str → Option Value) (f : Nat) (fd : Fd) : Prop :=
  ∃ fa dt qual params body scope dvs kws, fnA f = some fa ∧ mg fd.name = some (.ref fa) ∧ PySem.W.keepIn K (.ref fa) = true ∧ FunD K fd.name qual params body scope dvs kws fa dt ∧ FnScope fd.N fd.P scope ∧ okFd p fd body scope = true ∧
    (∀ (s : Shared) (us : List Value), us.length = fd.P.length → BindsTo s dt ⟨us, []⟩ (fd.P.zip us)) ∧ ∀ ks ∈ fd.kws, ∀ (s : Shared) (ws : List Value), ws.length = ks.length → BindsTo s dt ⟨[], (ks.filterMap (fd.P[·]?)).zip ws⟩ (fd.P.zip (permK ks ws))
def GoodL (p : Prog) (fnA : Nat → Option Addr) (K : PySem.W.Frag) (mg : Str → Option Value) : Nat → List Fd → Prop
  | _, [] => True
  | k, fd :: r => Good p fnA K mg k fd ∧ GoodL p fnA K mg (k + 1) r
theorem GoodL.get {p : Prog} {fnA : Nat → Option Addr} {K : PySem.W.Frag} {mg : Str → Option Value} : ∀ {k : Nat} {l : List Fd}, GoodL p fnA K mg k l → ∀ {f : Nat} {fd : Fd}, l[f]? = some fd → Good p fnA K mg (k + f) fd
  | _, [], _, _, _, e => by simp at e
  | _, _ :: _, h, 0, _, e => by simp at e; subst e; exact h.1
  | k, _ :: _, h, f + 1, fd, e => by
    have := GoodL.get h.2 (f := f) (fd := fd) (by simpa using e)
    rwa [Nat.add_assoc, Nat.add_comm 1 f] at this
theorem good_of {p : Prog} {fnA : Nat → Option Addr} {K : PySem.W.Frag} {h : Heap} {mg : Str → Option Value} {fa : List He.Fa} {fn : List He.DefD} {f : Nat} {fd : Fd} (X : K.In h) (G : h.Ns mainGlobals mg) (c : He.SaysD fa fn K) (d : He.DefD) (hd : fn[f]? = some d) (hg : He.Fa.glo d.name ∈ fa)
    (e0 : d.name = fd.name) (ea : He.fAd K d.at_ = He.ga K d.name) (e1 : d.dfl = []) (hA : fnA f = some (He.fAd K d.at_)) (sc : FnScope fd.N fd.P d.scope) (ok : okFd p fd d.body d.scope = true)
    (hb : ∀ (kV doc pm : Value) (an : Option Addr) (cdv ct : Value) (us : List Value), us.length = fd.P.length → bindArgs (PySem.W.fnOf d.name d.qual d.params d.body d.scope .none kV doc pm an cdv ct) ⟨us, []⟩ = pure (fd.P.zip us))
    (hk : ∀ ks ∈ fd.kws, ∀ (kV doc pm : Value) (an : Option Addr) (cdv ct : Value) (ws : List Value), ws.length = ks.length → bindArgs (PySem.W.fnOf d.name d.qual d.params d.body d.scope .none kV doc pm an cdv ct) ⟨[], (ks.filterMap (fd.P[·]?)).zip ws⟩ = pure (fd.P.zip (permK ks ws))) : Good p fnA K mg f fd := by
  obtain ⟨dt, F⟩ := He.SaysD.def_ c f hd
  have F : FunD K d.name d.qual d.params d.body d.scope [] (d.kws K) (He.fAd K d.at_) dt := by
    have : d.dvs K = [] := by unfold He.DefD.dvs; rw [e1]; rfl
    rw [this] at F
    exact F
  have hmg := He.glo_ok X G (He.SaysD.facts c hg)
  rw [← ea, e0] at hmg
  exact ⟨_, dt, _, _, _, _, _, _, hA, hmg, F.kp, by rw [← e0]; exact F, sc, ok, fun s us hl => FunD.bindsA F hb s us hl, fun ks h1 s ws hl => bindsKw F (hk ks h1) s ws hl⟩
def valFa : Str × Val → He.Fa
  | (x, .int i) => .int x i
  | (x, .str z) => .str x z
  | (x, _) => .glo x
def valOk : Val → Bool
  | .int _ | .str _ => true
  | _ => false
theorem lookup_mem {α : Type} {x : Str} {v : α} : ∀ {l : List (Str × α)}, l.lookup x = some v → (x, v) ∈ l
  | [], h => by cases h
  | (y, w) :: r, h => by
    rw [List.lookup_cons] at h
    split at h
    · rename_i e
      cases h
      rw [eq_of_beq e]
      exact List.mem_cons_self
    · exact List.mem_cons_of_mem _ (lookup_mem h)
theorem pr_of {p : Prog} {fnA : Nat → Option Addr} {K : PySem.W.Frag} {h : Heap} {mg : Str → Option Value} {fa : List He.Fa} {fn : List He.DefD} (X : K.In h) (G : h.Ns mainGlobals mg) (c : He.SaysD fa fn K) (g : GoodL p fnA K mg 0 p.fns) (a b a2 b2 : Nat)
    (hb : p.blts.map He.Fa.free = (fa.drop a).take b) (hv : p.vals.map valFa = (fa.drop a2).take b2) (hg : ((p.vals.all fun q => valOk q.2) && !p.gcd) = true) : PrOk p fnA K mg where
  fns := fun f fd e => by
    have := GoodL.get g e
    rwa [Nat.zero_add] at this
  vals := fun x v e => by
    have m := lookup_mem e
    rw [Bool.and_eq_true] at hg
    have ok := List.all_eq_true.mp hg.1 _ m
    have hf : valFa (x, v) ∈ fa := List.mem_of_mem_drop (List.mem_of_mem_take (hv ▸ List.mem_map_of_mem m))
    have c1 := He.SaysD.facts c hf
    cases v with
    | int i => obtain ⟨t, e1⟩ := He.int_ok X G c1; exact ⟨_, .int i, e1, ⟨t, rfl⟩, fun F H => .int i, fun _ z => by cases z⟩
    | str i => obtain ⟨t, e1⟩ := He.str_ok X G c1; exact ⟨_, .str i, e1, ⟨t, rfl⟩, fun F H => .str i, fun _ z => by cases z⟩
    | _ => cases ok
  blt := fun x hx => He.free_ok X G (He.SaysD.facts c (List.mem_of_mem_drop (List.mem_of_mem_take (hb ▸ List.mem_map_of_mem hx))))
  gcd := by
    rw [Bool.and_eq_true] at hg
    exact .inr (by simpa using hg.2)
theorem cx_no {P : Program} {w : World} {H : Hp} {s : Shared} {e : Value} {s' : Shared} (h : L2.CX P w [] H s (fun _ _ _ => False) e s') : False := by
  obtain ⟨_, _, _, _, _, _, _, _, _, _, _, _, z⟩ := h
  exact z
theorem ints_FRs {K : PySem.W.Frag} {fnA : Nat → Option Addr} {F : Addr → Prop} {H : Hp} : ∀ ns : List Int, FRs K fnA F H (ns.map Val.int) (ns.map V.int)
  | [] => .nil
  | _ :: ns => .cons (.int _) (ints_FRs ns)
theorem walk {l : PySem.W.OpenLaw} {n k : Nat} {q : Program} {loose : List Str} {XP : (Str → Option Value) → Heap → Prop} {YP : World → Heap → Prop} {d : DefRec}
    (hn : l.most = some n) (hn2 : n ≤ sizeLine) (hdf : d.params.defaults = []) (hr : Room k callerA)
    (F : ∀ (w : World) (mg : Str → Option Value) (fa : Addr) (h : Heap), YP w h → h.Ns mainGlobals mg → mg d.name = some (.ref fa) →
      ∃ (K : PySem.W.Frag) (p : Prog) (fnA : Nat → Option Addr) (f : Nat) (fd : Fd) (x : Str), K.In h ∧ PrOk p fnA K mg ∧ p.fns[f]? = some fd ∧ fd.name = d.name ∧ fd.P = [x] ∧ fd.lent = false ∧
        ∀ ns : List Int, ns.length ≤ n → (∀ z ∈ ns, Builtin.Int.intBits z ≤ 1048576) → ∃ o, callN p k f [.lst (ns.map .int)] = .ok (.bl true) o) :
    PySem.W.WalkO q loose XP YP l.row.toRowW d [] (fun f vs => PySem.call f vs) := by
  refine Att.attach_callB hn hdf fun w s₀ s₁ mg mb fa o pm cd doc a vs ns G Y ho hd hcd hmg hobj hints hlen hbits hg => ?_
  obtain ⟨K, p, fnA, f, fd, x, KX, pr, ef, en, eP, el, law⟩ := F w mg fa _ Y G.T.g hmg
  obtain ⟨fa', dt, hb, ok⟩ := prog_ok (exA := fun _ => none) (P := l.prog) (w := w) pr k f fd ef
  obtain ⟨ov, law⟩ := law ns hlen hbits
  have F0 : ∀ base : Heap, FnX k fnA (fun _ => none) (cxOf (L2.CX l.prog w) l.prog w K mg base [] "" (default : Scope) fa .none callerA [] s₁ (fun _ => none) fun _ _ _ => False) f fd (callN p k f) fa' dt := fun base => ok _ rfl rfl rfl rfl
  have efa : fa' = fa := by
    have := (F0 s₁.heap).mg
    have e2 : mg fd.name = some (.ref fa') := this
    rw [en, hmg] at e2
    cases e2; rfl
  subst efa
  refine law_call (fd := dt) (CX := L2.CX l.prog w) (x := x) (sp := spF K fnA (fun _ => none) fd (callN p k f)) KX G.T.g G.T.b G.T.builtins G.T.nolimit hg hobj hints (Nat.le_trans hlen hn2) hr (fun base _ _ => ?_) (fun s u => ?_) (fun H hO hS => ?_) fun H e s' z => cx_no z
  · have := (F0 base).ok
    rw [eP] at this
    exact this
  · have := hb s [u] (by rw [eP]; rfl)
    rw [eP] at this
    exact this
  · refine ⟨fun b => b = a ∧ ∃ o, H b = some o, [.lst (ns.map .int)], fun b z => z.2, by rw [eP]; rfl, by rw [eP]; rfl, ?_, ?_⟩
    · rw [el]
      refine .cons (.lst ?_ (ints_FRs ns)) .nil
      rcases hS with h | ⟨o, its, m, h, _⟩
      · refine .inl ⟨⟨rfl, ?_⟩, h⟩
        rcases h with h | ⟨o, h⟩
        · exact ⟨_, h⟩
        · exact ⟨_, h⟩
      · right
        have := KX a o h
        rw [hobj] at this
        cases this
        exact ⟨vs, 0, h, by rw [← (vals_ints hints).length, List.length_map]; exact Nat.le_trans hlen hn2, vals_ints hints⟩
    · rw [law]
      intro F' H' u _ _ rn _
      unfold RN at rn
      split at rn
      · rcases rn.1 with ⟨_, _, _, z, _⟩ | ⟨_, r⟩
        · cases z
        · cases r; rfl
      · cases rn; rfl
end Rf

set_option Elab.async false
set_option linter.all false
set_option maxRecDepth 100000
set_option maxHeartbeats 4000000
/-! Plain laws, part A: running the evaluator: comprehensions, shared defs. -/
namespace Rf
open PySem PySem.Spec PyProof.Rows L2

theorem callN_eq {p : Prog} {n f : Nat} {fd : Fd} {vs : List Val} (h : p.fns[f]? = some fd) : callN p (n + 1) f vs = runFd ⟨callN p n, fun x => p.vals.lookup x, p.wh⟩ fd vs := by
  show (match p.fns[f]? with
    | some fd => runFd ⟨callN p n, fun x => p.vals.lookup x, p.wh⟩ fd vs
    | none => .bad) = _
  rw [h]
@[simp] theorem getV_cons0 {x : Option Val} {ρ : Env} : getV (x :: ρ) 0 = x := by cases x <;> rfl
@[simp] theorem getV_consS {x : Option Val} {ρ : Env} {i : Nat} : getV (x :: ρ) (i + 1) = getV ρ i := rfl
@[simp] theorem setV_cons0 {x : Option Val} {ρ : Env} {v : Val} : setV (x :: ρ) 0 v = some v :: ρ := rfl
@[simp] theorem setV_consS {x : Option Val} {ρ : Env} {i : Nat} {v : Val} : setV (x :: ρ) (i + 1) v = x :: setV ρ i v := rfl
@[simp] theorem bind_ok {α β : Type} {v : α} {ρ : Env} {f : α → Env → Rs β} : (Rs.ok v ρ).bind f = f v ρ := rfl
@[simp] theorem bind_bad {α β : Type} {f : α → Env → Rs β} : (Rs.bad).bind f = .bad := rfl
@[simp] theorem toRt_ok {α : Type} {v : α} {ρ : Env} {f : α → Env → Rt} : (Rs.ok v ρ).toRt f = f v ρ := rfl
@[simp] theorem ofO_some {α : Type} {v : α} {ρ : Env} : Rs.ofO (some v) ρ = .ok v ρ := rfl
@[simp] theorem calm_ok {α : Type} {v : α} {ρ : Env} : (Rs.ok v ρ).calm = .ok v ρ := rfl
@[simp] theorem then_nx {ρ : Env} {f : Env → Rt} : (Rt.nx ρ).then f = f ρ := rfl
@[simp] theorem then_ret {v : Val} {ρ : Env} {f : Env → Rt} : (Rt.ret v ρ).then f = .ret v ρ := rfl

theorem wipe_len2 (ρ : Env) : ∀ vs : List Nat, (wipe ρ vs).length = ρ.length
  | [] => rfl
  | v :: vs => by show ((wipe ρ vs).set v none).length = _; rw [List.length_set]; exact wipe_len2 ρ vs
theorem wipe_at (ρ : Env) : ∀ (vs : List Nat) (i : Nat), (wipe ρ vs)[i]? = if i ∈ vs then ρ[i]?.map (fun _ => none) else ρ[i]?
  | [], i => by simp [wipe]
  | v :: vs, i => by
    show ((wipe ρ vs).set v none)[i]? = _
    rw [List.getElem?_set, wipe_at ρ vs i, wipe_len2]
    by_cases h : v = i
    · subst h
      by_cases hl : v < ρ.length
      · simp [hl]
      · simp [hl, List.getElem?_eq_none (Nat.le_of_not_lt hl)]
    · by_cases h2 : i ∈ vs
      · simp [h, h2]
      · simp [h, h2, Ne.symm h]
theorem restore_at (ρ ρ' : Env) : ∀ (vs : List Nat) (i : Nat), (restore ρ ρ' vs)[i]? = if i ∈ vs then ρ'[i]?.map (fun _ => ρ[i]?.getD none) else ρ'[i]?
  | [], i => by simp [restore]
  | v :: vs, i => by
    have hlen : ∀ vs : List Nat, (restore ρ ρ' vs).length = ρ'.length := fun vs => by
      induction vs with
      | nil => rfl
      | cons w ws ih => show ((restore ρ ρ' ws).set w _).length = _; rw [List.length_set]; exact ih
    show ((restore ρ ρ' vs).set v (ρ[v]?.getD none))[i]? = _
    rw [List.getElem?_set, restore_at ρ ρ' vs i, hlen]
    by_cases h : v = i
    · subst h
      by_cases hl : v < ρ'.length
      · simp [hl]
      · simp [hl, List.getElem?_eq_none (Nat.le_of_not_lt hl)]
    · by_cases h2 : i ∈ vs
      · simp [h, h2]
      · simp [h, h2, Ne.symm h]
theorem restore_eq {ρ ρ' : Env} {own : List Nat} (h : wipe ρ' own = wipe ρ own) : restore ρ ρ' own = ρ := by
  have hl : ρ'.length = ρ.length := by rw [← wipe_len2 ρ' own, h, wipe_len2]
  apply List.ext_getElem?
  intro i
  rw [restore_at]
  have hi := congrArg (·[i]?) h
  simp only [wipe_at] at hi
  by_cases h2 : i ∈ own
  · rw [if_pos h2]
    by_cases hb : i < ρ.length
    · rw [List.getElem?_eq_getElem (l := ρ') (by omega), List.getElem?_eq_getElem hb]; rfl
    · rw [List.getElem?_eq_none (l := ρ') (by omega), List.getElem?_eq_none (l := ρ) (by omega)]; rfl
  · rw [if_neg h2] at hi ⊢
    rw [if_neg h2] at hi
    exact hi
theorem forC_pure {own : List Nat} {step : Val → Env → Rs (List Val)} {g : Val → List Val} : ∀ {xs : List Val} {ρ : Env}, (∀ x ∈ xs, ∀ ρ', wipe ρ' own = wipe ρ own → ∃ ρ'', step x ρ' = .ok (g x) ρ'' ∧ wipe ρ'' own = wipe ρ own) → ∃ ρ'', forC step xs ρ = .ok (xs.flatMap g) ρ'' ∧ wipe ρ'' own = wipe ρ own
  | [], ρ, _ => ⟨ρ, rfl, rfl⟩
  | x :: xs, ρ, h => by
    obtain ⟨ρ1, e1, w1⟩ := h x List.mem_cons_self ρ rfl
    obtain ⟨ρ2, e2, w2⟩ := forC_pure (g := g) (xs := xs) (ρ := ρ1) (step := step) (own := own) fun y hy ρ' hw => by
      obtain ⟨ρ'', e, w⟩ := h y (List.mem_cons_of_mem _ hy) ρ' (hw.trans w1)
      exact ⟨ρ'', e, w.trans w1.symm⟩
    refine ⟨ρ2, ?_, w2.trans w1⟩
    show (step x ρ).bind _ = _
    rw [e1, bind_ok, e2]
    rfl
section
variable {c : Cfg} {ρ : Env}
def stepC (c : Cfg) (own : List Nat) (elt : E) (tg : Tg) (ifs : Es) (x : Val) (ρ : Env) : Rs (List Val) := match assign tg x (wipe ρ own) with
  | none => .bad
  | some ρ => (evIf c ifs ρ).bind fun k ρ => if k then (evE c elt ρ).bind fun v ρ => .ok [v] ρ else .ok [] ρ
theorem comp_eq {own : List Nat} {elt : E} {tg : Tg} {it : Rf.It} {ifs : Es} : evE c (.comp own elt tg it ifs) ρ = (evIt c it ρ).bind fun xs ρ => ((forC (stepC c own elt tg ifs) xs ρ).calm).bind fun vs ρ' => if vs.length ≤ sizeLine then .ok (.lst vs) (restore ρ ρ' own) else .bad := by
  simp only [evE]
  rfl
theorem comp_pure {own : List Nat} {elt : E} {tg : Tg} {it : Rf.It} {xs : List Val} (g : Val → Val) (hit : evIt c it ρ = .ok xs ρ) (h : ∀ x ∈ xs, ∃ ρx, assign tg x (wipe ρ own) = some ρx ∧ evE c elt ρx = .ok (g x) ρx ∧ wipe ρx own = wipe ρ own) (hl : xs.length ≤ sizeLine) :
    evE c (.comp own elt tg it .nil) ρ = .ok (.lst (xs.map g)) ρ := by
  obtain ⟨ρ2, e2, w2⟩ := forC_pure (own := own) (g := fun x => [g x]) (xs := xs) (ρ := ρ) (step := stepC c own elt tg .nil) fun x hx ρ' hw => by
    obtain ⟨ρx, a, e, w⟩ := h x hx
    refine ⟨ρx, ?_, w⟩
    unfold stepC
    rw [hw, a]
    simp [evIf, e]
  rw [comp_eq, hit, bind_ok, e2]
  have e3 : (xs.flatMap fun x => [g x]) = xs.map g := by
    clear hit h hl e2
    induction xs with
    | nil => rfl
    | cons x xs ih => rw [List.flatMap_cons, ih]; rfl
  rw [e3, calm_ok, bind_ok, if_pos (by rw [List.length_map]; exact hl), restore_eq w2]
theorem comp_filter {own : List Nat} {elt t : E} {tg : Tg} {it : Rf.It} {xs : List Val} (g : Val → Val) (b : Val → Bool) (hit : evIt c it ρ = .ok xs ρ)
    (h : ∀ x ∈ xs, ∃ ρx, assign tg x (wipe ρ own) = some ρx ∧ (∃ z, evE c t ρx = .ok z ρx ∧ truthy z = some (b x)) ∧ (b x = true → evE c elt ρx = .ok (g x) ρx) ∧ wipe ρx own = wipe ρ own) (hl : xs.length ≤ sizeLine) :
    evE c (.comp own elt tg it (.cons t .nil)) ρ = .ok (.lst ((xs.filter b).map g)) ρ := by
  obtain ⟨ρ2, e2, w2⟩ := forC_pure (own := own) (g := fun x => if b x then [g x] else []) (xs := xs) (ρ := ρ) (step := stepC c own elt tg (.cons t .nil)) fun x hx ρ' hw => by
    obtain ⟨ρx, a, ⟨z, e1, e2⟩, e, w⟩ := h x hx
    refine ⟨ρx, ?_, w⟩
    unfold stepC
    rw [hw, a]
    cases hb : b x with
    | true => simp [evIf, e1, e2, hb, e hb]
    | false => simp [evIf, e1, e2, hb]
  have ex : (xs.flatMap fun x => if b x then [g x] else []) = (xs.filter b).map g := by
    clear hit h hl e2
    induction xs with
    | nil => rfl
    | cons x xs ih => rw [List.flatMap_cons, ih, List.filter_cons]; cases b x <;> rfl
  rw [comp_eq, hit, bind_ok, e2, ex]
  have : ((xs.filter b).map g).length ≤ sizeLine := by rw [List.length_map]; exact Nat.le_trans (List.length_filter_le _ _) hl
  rw [calm_ok, bind_ok, if_pos this, restore_eq w2]
def stepF (c : Cfg) (t : Tg) (b : Ss) (x : Val) (ρ : Env) : Rt := match assign t x ρ with
  | some ρ => evSs c b ρ
  | none => .bad
theorem evS_fr {t : Tg} {it : Rf.It} {b : Ss} : evS c (.fr t it b) ρ = (evIt c it ρ).toRt fun xs ρ => forL (stepF c t b) xs ρ := by
  simp only [evS]
  rfl
theorem evS_whl {t : E} {b : Ss} : evS c (.whl t b) ρ = whileN (evT c t) (evSs c b) c.wh ρ := by
  simp only [evS]
theorem forL_cons {step : Val → Env → Rt} {x : Val} {xs : List Val} : forL step (x :: xs) ρ = (step x ρ).then (forL step xs) := rfl
theorem forL_nil {step : Val → Env → Rt} : forL step [] ρ = .nx ρ := rfl
/-! ### one equation for each kind of text -/
def isiR (v : Val) (ts : List Ty) (ρ : Env) : Rs Val := match v with
  | .fn _ => .bad
  | x => .ok (.bl (ts.any (isTy x))) ρ
@[simp] theorem isiR_non {ts : List Ty} : isiR .non ts ρ = .ok (.bl (ts.any (isTy .non))) ρ := rfl
@[simp] theorem isiR_bl {b : Bool} {ts : List Ty} : isiR (.bl b) ts ρ = .ok (.bl (ts.any (isTy (.bl b)))) ρ := rfl
@[simp] theorem isiR_int {b : Int} {ts : List Ty} : isiR (.int b) ts ρ = .ok (.bl (ts.any (isTy (.int b)))) ρ := rfl
@[simp] theorem isiR_str {b : Str} {ts : List Ty} : isiR (.str b) ts ρ = .ok (.bl (ts.any (isTy (.str b)))) ρ := rfl
@[simp] theorem isiR_tup {b : List Val} {ts : List Ty} : isiR (.tup b) ts ρ = .ok (.bl (ts.any (isTy (.tup b)))) ρ := rfl
@[simp] theorem isiR_lst {b : List Val} {ts : List Ty} : isiR (.lst b) ts ρ = .ok (.bl (ts.any (isTy (.lst b)))) ρ := rfl
def ifR {α : Type} (o : Option Bool) (a b : Rs α) : Rs α := match o with
  | some true => a
  | some false => b
  | none => .bad
@[simp] theorem ifR_t {α : Type} {a b : Rs α} : ifR (some true) a b = a := rfl
@[simp] theorem ifR_f {α : Type} {a b : Rs α} : ifR (some false) a b = b := rfl
def callR (r : Cr) (ρ : Env) : Rs Val := match r with
  | .ok v _ => .ok v ρ
  | .exc x => .exc x
  | .bad => .bad
@[simp] theorem callR_ok {v o : Val} : callR (.ok v o) ρ = .ok v ρ := rfl
def callL (r : Cr) (i : Nat) (ρ : Env) : Rs Val := match r with
  | .ok v o => .ok v (setV ρ i o)
  | .exc x => .exc x
  | .bad => .bad
@[simp] theorem callL_ok {v o : Val} {i : Nat} : callL (.ok v o) i ρ = .ok v (setV ρ i o) := rfl
def someR {α β : Type} (o : Option α) (f : α → Rs β) : Rs β := match o with
  | some v => f v
  | none => .bad
@[simp] theorem someR_some {α β : Type} {v : α} {f : α → Rs β} : someR (some v) f = f v := rfl
def intR {α : Type} (v : Val) (f : Int → Rs α) : Rs α := match v with
  | .int i => f i
  | _ => .bad
@[simp] theorem intR_int {α : Type} {i : Int} {f : Int → Rs α} : intR (.int i) f = f i := rfl
def lstR {α : Type} (v : Val) (f : List Val → Rs α) : Rs α := match v with
  | .lst i => f i
  | _ => .bad
@[simp] theorem lstR_lst {α : Type} {i : List Val} {f : List Val → Rs α} : lstR (.lst i) f = f i := rfl
@[simp] theorem ev_var {i : Nat} : evE c (.var i) ρ = .ofO (getV ρ i) ρ := by simp only [evE]
@[simp] theorem ev_con {k : C} : evE c (.con k) ρ = .ok k.val ρ := by simp only [evE]
@[simp] theorem ev_glo {x : Str} : evE c (.glo x) ρ = .ofO (c.val x) ρ := by simp only [evE]
@[simp] theorem ev_tup {es : Es} : evE c (.tup es) ρ = (evEs c es ρ).bind fun vs ρ => if vs.length ≤ sizeLine then .ok (.tup vs) ρ else .bad := by simp only [evE]
@[simp] theorem ev_lst {es : Es} : evE c (.lst es) ρ = (evEs c es ρ).bind fun vs ρ => if vs.length ≤ sizeLine then .ok (.lst vs) ρ else .bad := by simp only [evE]
@[simp] theorem ev_bin {o : BOp} {a b : E} : evE c (.bin o a b) ρ = (evE c a ρ).bind fun x ρ => (evE c b ρ).bind fun y ρ => .ofO (binop o x y) ρ := by simp only [evE]
@[simp] theorem ev_neg {a : E} : evE c (.neg a) ρ = (evE c a ρ).bind fun x ρ => intR x fun i => .ok (.int (-i)) ρ := by simp only [evE]; rfl
@[simp] theorem ev_cmp {o : COp} {a b : E} : evE c (.cmp o a b) ρ = (evE c a ρ).bind fun x ρ => (evE c b ρ).bind fun y ρ => .ofO ((cmpop o x y).map .bl) ρ := by simp only [evE]
@[simp] theorem ev_chn {o q : COp} {a b d : E} : evE c (.chn o q a b d) ρ = (evE c a ρ).bind fun x ρ => (evE c b ρ).bind fun y ρ => ifR (cmpop o x y) ((evE c d ρ).bind fun z ρ => .ofO ((cmpop q y z).map .bl) ρ) (.ok (.bl false) ρ) := by simp only [evE]; rfl
@[simp] theorem ev_and {a b : E} : evE c (.and a b) ρ = (evE c a ρ).bind fun x ρ => ifR (truthy x) (evE c b ρ) (.ok x ρ) := by simp only [evE]; rfl
@[simp] theorem ev_or {a b : E} : evE c (.or a b) ρ = (evE c a ρ).bind fun x ρ => ifR (truthy x) (.ok x ρ) (evE c b ρ) := by simp only [evE]; rfl
@[simp] theorem ev_not {a : E} : evE c (.not a) ρ = (evE c a ρ).bind fun x ρ => .ofO ((truthy x).map fun k => .bl (!k)) ρ := by simp only [evE]
@[simp] theorem ev_ite {t a b : E} : evE c (.ite t a b) ρ = (evE c t ρ).bind fun x ρ => ifR (truthy x) (evE c a ρ) (evE c b ρ) := by simp only [evE]; rfl
@[simp] theorem ev_call {f : Nat} {es : Es} : evE c (.call f es) ρ = (evEs c es ρ).bind fun vs ρ => callR (c.call f vs) ρ := by simp only [evE]; rfl
@[simp] theorem ev_callk {f : Nat} {ks : List Nat} {es : Es} : evE c (.callk f ks es) ρ = (evEs c es ρ).bind fun vs ρ => callR (c.call f (permK ks vs)) ρ := by simp only [evE]; rfl
@[simp] theorem ev_calll {f i : Nat} {es : Es} : evE c (.calll f i es) ρ = someR (getV ρ i) fun _ => (evEs c es ρ).bind fun vs ρ => someR (getV ρ i) fun u => callL (c.call f (u :: vs)) i ρ := by
  simp only [evE]
  cases getV ρ i with
  | none => rfl
  | some u =>
    show (evEs c es ρ).bind _ = (evEs c es ρ).bind _
    congr 1; funext vs ρ; cases getV ρ i <;> rfl
@[simp] theorem ev_bi {b : BI} {es : Es} : evE c (.bi b es) ρ = (evEs c es ρ).bind fun vs ρ => .ofO (biop b vs) ρ := by simp only [evE]
@[simp] theorem ev_isi {a : E} {ts : List Ty} : evE c (.isi a ts) ρ = (evE c a ρ).bind fun x ρ => isiR x ts ρ := by simp only [evE]; rfl
@[simp] theorem ev_itm {a i : E} : evE c (.itm a i) ρ = (evE c a ρ).bind fun x ρ => (evE c i ρ).bind fun y ρ => .ofO (itemop x y) ρ := by simp only [evE]
@[simp] theorem ev_itv {x : Nat} {i : E} : evE c (.itv x i) ρ = someR (getV ρ x) fun _ => (evE c i ρ).bind fun y ρ => .ofO ((getV ρ x).bind fun v => itemop v y) ρ := by
  simp only [evE]
  cases getV ρ x <;> rfl
@[simp] theorem ev_lnv {x : Nat} : evE c (.lnv x) ρ = .ofO ((getV ρ x).bind fun v => biop .len [v]) ρ := by simp only [evE]
@[simp] theorem ev_slc {a : E} {lo hi : Oe} : evE c (.slc a lo hi) ρ = (evE c a ρ).bind fun x ρ => (evO c lo ρ).bind fun l ρ => (evO c hi ρ).bind fun h ρ => .ofO (sliceop x l h) ρ := by simp only [evE]
@[simp] theorem ev_rev {a : E} : evE c (.rev a) ρ = (evE c a ρ).bind fun x ρ => lstR x fun xs => .ok (.lst xs.reverse) ρ := by simp only [evE]; rfl
@[simp] theorem ev_idx {a b : E} : evE c (.idx a b) ρ = (evE c a ρ).bind fun x ρ => lstR x fun xs => (evE c b ρ).bind fun y ρ => .ofO (indexop xs y) ρ := by simp only [evE]; rfl
@[simp] theorem ev_nil : evEs c .nil ρ = .ok [] ρ := by simp only [evEs]
@[simp] theorem ev_cons {e : E} {es : Es} : evEs c (.cons e es) ρ = (evE c e ρ).bind fun v ρ => (evEs c es ρ).bind fun vs ρ => .ok (v :: vs) ρ := by simp only [evEs]
@[simp] theorem ev_o0 : evO c .none ρ = .ok none ρ := by simp only [evO]
@[simp] theorem ev_o1 {e : E} : evO c (.some e) ρ = (evE c e ρ).bind fun v ρ => intR v fun i => .ok (some i) ρ := by simp only [evO]; rfl
@[simp] theorem ev_seq {e : E} : evIt c (.seq e) ρ = (evE c e ρ).bind fun v ρ => .ofO (items? v) ρ := by simp only [evIt]
@[simp] theorem ev_r1 {a : E} : evIt c (.r1 a) ρ = (evE c a ρ).bind fun v ρ => intR v fun j => if smallI j then .ok (rangeV 0 j.toNat 1) ρ else .bad := by simp only [evIt]; rfl
@[simp] theorem ev_enu {e : E} : evIt c (.enu e) ρ = (evE c e ρ).bind fun v ρ => lstR v fun xs => .ok (enumV 0 xs) ρ := by simp only [evIt]; rfl
def someT {α : Type} (o : Option α) (f : α → Rt) : Rt := match o with
  | some v => f v
  | none => .bad
@[simp] theorem someT_some {α : Type} {v : α} {f : α → Rt} : someT (some v) f = f v := rfl
def lstT (o : Option Val) (f : List Val → Rt) : Rt := match o with
  | some (.lst xs) => f xs
  | _ => .bad
@[simp] theorem lstT_lst {xs : List Val} {f : List Val → Rt} : lstT (some (.lst xs)) f = f xs := rfl
def intT (v : Val) (f : Int → Rt) : Rt := match v with
  | .int i => f i
  | _ => .bad
@[simp] theorem intT_int {i : Int} {f : Int → Rt} : intT (.int i) f = f i := rfl
@[simp] theorem sv_expr {e : E} : evS c (.expr e) ρ = (evE c e ρ).toRt fun _ ρ => .nx ρ := by simp only [evS]
@[simp] theorem sv_set {t : Tg} {m : Md} {e : E} : evS c (.set t m e) ρ = (evM c m e ρ).toRt fun v ρ => someT (assign t v ρ) .nx := by
  simp only [evS]
  congr 1; funext v ρ; cases assign t v ρ <;> rfl
@[simp] theorem sv_par {is : List Nat} {fr : List Bool} {es : Es} : evS c (.par is fr es) ρ = (evEs c es ρ).toRt fun vs ρ => someT (setAll is vs ρ) .nx := by
  simp only [evS]
  congr 1; funext v ρ; cases setAll is v ρ <;> rfl
@[simp] theorem sv_app {x : Nat} {e : E} : evS c (.app x e) ρ = lstT (getV ρ x) fun _ => (evE c e ρ).toRt fun v ρ => lstT (getV ρ x) fun xs => if xs.length < sizeLine then .nx (setV ρ x (.lst (xs ++ [v]))) else .bad := by simp only [evS]; rfl
@[simp] theorem sv_ife {t : E} {a b : Ss} : evS c (.ife t a b) ρ = (evT c t ρ).toRt fun k ρ => if k then evSs c a ρ else evSs c b ρ := by simp only [evS]
@[simp] theorem sv_ret {k : Bool} {e : E} : evS c (.ret k e) ρ = (evE c e ρ).toRt fun v ρ => .ret v ρ := by simp only [evS]
@[simp] theorem sv_nil : evSs c .nil ρ = .nx ρ := by simp only [evSs]
@[simp] theorem sv_cons {s : S} {r : Ss} : evSs c (.cons s r) ρ = (evS c s ρ).then (evSs c r) := by simp only [evSs]
@[simp] theorem sv_fr {t : Tg} {it : Rf.It} {b : Ss} : evS c (.fr t it b) ρ = (evIt c it ρ).toRt fun xs ρ => forL (stepF c t b) xs ρ := evS_fr
@[simp] theorem evM_val {e : E} : evM c .val e ρ = evE c e ρ := rfl
@[simp] theorem evM_frsh {e : E} : evM c .frsh e ρ = evE c e ρ := rfl
/-- a def's answer -/
def endR (f : Fd) (r : Rt) : Cr := match r with
  | .nx ρ => endOf f .non ρ
  | .ret v ρ => endOf f v ρ
  | .exc x => .exc x
  | .bad => .bad
@[simp] theorem endR_ret {f : Fd} {v : Val} : endR f (.ret v ρ) = endOf f v ρ := rfl
theorem runFd_eq {f : Fd} {vs : List Val} (h : vs.length = f.P.length) : runFd c f vs = endR f (evSs c f.body (enter f vs)) := by
  unfold runFd
  rw [if_pos h]
  rfl
theorem run_ret {f : Fd} {vs : List Val} {v w : Val} {r : Env} (h : vs.length = f.P.length) (e : evSs c f.body (enter f vs) = .ret v (some w :: r)) : runFd c f vs = .ok v w := by
  rw [runFd_eq h, e, endR_ret]
  unfold endOf
  simp [outOf]
end
end Rf

set_option Elab.async false
set_option linter.all false
set_option maxRecDepth 100000
set_option maxHeartbeats 4000000
/-! Plain laws, part B: the defs that many laws share. -/
namespace Rf
open PySem PySem.Spec PyProof.Rows L2
namespace Sh
def is_number : Fd := ⟨"is_number", [("thing" : Str)], [("thing" : Str)], false, false, [], (.cons (.ret false (.and (.isi (.var 0) [.int]) (.not (.isi (.var 0) [.bool])))) .nil)⟩
def tupled (i : Nat) (k : List (List Nat)) : Fd := ⟨"tupled", [("value" : Str), ("own" : Str)], [("value" : Str)], false, false, k, (.cons (.ret false (.ite (.isi (.var 0) [.lst, .tup]) (.bi .tup (.cons (.comp [1] (.call i (.cons (.var 1) .nil)) (.name 1) (.seq (.var 0)) .nil) .nil)) (.var 0))) .nil)⟩
def lists (i : Nat) : Fd := ⟨"_law_lists", [("matter" : Str), ("bit" : Str)], [("matter" : Str)], false, false, [], (.cons (.ret false (.ite (.isi (.var 0) [.lst, .tup]) (.comp [1] (.call i (.cons (.var 1) .nil)) (.name 1) (.seq (.var 0)) .nil) (.var 0))) .nil)⟩
def same (i : Nat) : Fd := ⟨"_law_same", [("got" : Str), ("due" : Str), ("mine" : Str), ("its" : Str)], [("got" : Str), ("due" : Str)], false, false, [], (.cons (.ife (.isi (.var 1) [.lst, .tup]) (.cons (.ife (.or (.cmp .ne (.isi (.var 0) [.lst]) (.isi (.var 1) [.lst])) (.cmp .ne (.isi (.var 0) [.tup]) (.isi (.var 1) [.tup]))) (.cons (.ret false (.con (.bl false))) .nil) .nil) (.cons (.ret false (.and (.cmp .eq (.lnv 0) (.lnv 1)) (.bi .all (.cons (.comp [2, 3] (.call i (.cons (.var 2) (.cons (.var 3) .nil))) (.tup [2, 3]) (.zip (.var 0) (.var 1)) .nil) .nil)))) .nil)) .nil) (.cons (.ife (.cmp .is (.var 1) (.con .non)) (.cons (.ret false (.cmp .is (.var 0) (.con .non))) .nil) .nil) (.cons (.ife (.isi (.var 1) [.bool, .str]) (.cons (.ret false (.and (.cmp .eq (.isi (.var 0) [.bool]) (.isi (.var 1) [.bool])) (.and (.cmp .eq (.isi (.var 0) [.str]) (.isi (.var 1) [.str])) (.cmp .eq (.var 0) (.var 1))))) .nil) .nil) (.cons (.ret false (.and (.isi (.var 0) [.int]) (.and (.not (.isi (.var 0) [.bool])) (.cmp .eq (.var 0) (.var 1))))) .nil))))⟩
end Sh
/-! ### values without functions, not too long, not too deep -/
mutual
def deep : Val → Nat
  | .tup xs | .lst xs => deeps xs + 1
  | _ => 0
def deeps : List Val → Nat
  | [] => 0
  | x :: r => max (deep x) (deeps r)
end
mutual
def fine : Val → Bool
  | .tup xs | .lst xs => decide (xs.length ≤ 16777216) && fines xs
  | .fn _ => false
  | .str x => PyData.strOk x
  | _ => true
def fines : List Val → Bool
  | [] => true
  | x :: r => fine x && fines r
end
theorem fines_mem : ∀ {xs : List Val}, fines xs = true → ∀ x ∈ xs, fine x = true
  | [], _, x, h => by cases h
  | y :: ys, h, x, hx => by
    simp only [fines, Bool.and_eq_true] at h
    rcases List.mem_cons.mp hx with e | e
    · rw [e]; exact h.1
    · exact fines_mem h.2 x e
theorem deeps_mem : ∀ {xs : List Val} {x : Val}, x ∈ xs → deep x ≤ deeps xs
  | [], x, h => by cases h
  | y :: ys, x, hx => by
    simp only [deeps]
    rcases List.mem_cons.mp hx with e | e
    · rw [e]; omega
    · have := deeps_mem e; omega
mutual
def tupV : Val → Val
  | .tup xs | .lst xs => .tup (tupVs xs)
  | v => v
def tupVs : List Val → List Val
  | [] => []
  | x :: r => tupV x :: tupVs r
end
mutual
def lstV : Val → Val
  | .tup xs | .lst xs => .lst (lstVs xs)
  | v => v
def lstVs : List Val → List Val
  | [] => []
  | x :: r => lstV x :: lstVs r
end
theorem tupVs_map : ∀ xs, tupVs xs = xs.map tupV
  | [] => rfl
  | x :: r => by rw [tupVs, tupVs_map r]; rfl
theorem lstVs_map : ∀ xs, lstVs xs = xs.map lstV
  | [] => rfl
  | x :: r => by rw [lstVs, lstVs_map r]; rfl
mutual
theorem fine_lay : ∀ {v : Val}, fine v = true → (toD v).canLay0 = true
  | .non, _ => rfl
  | .bl _, _ => rfl
  | .int _, _ => rfl
  | .str x, h => h
  | .tup xs, h => by
    simp only [fine, Bool.and_eq_true] at h
    exact fines_lay h.2
  | .lst xs, h => by
    simp only [fine, Bool.and_eq_true] at h
    exact fines_lay h.2
  | .fn _, h => by cases h
theorem fines_lay : ∀ {v : List Val}, fines v = true → PyData.canLayAll0 (toDs v) = true
  | [], _ => rfl
  | x :: r, h => by
    simp only [fines, Bool.and_eq_true] at h
    simp only [toDs, PyData.canLayAll0, fine_lay h.1, fines_lay h.2, Bool.and_self]
end
mutual
theorem deep_toD : ∀ {v : Val}, fine v = true → (toD v).depth = deep v
  | .non, _ => rfl
  | .bl _, _ => rfl
  | .int _, _ => rfl
  | .str x, h => rfl
  | .tup xs, h => by
    simp only [fine, Bool.and_eq_true] at h
    simp only [toD, PyData.depth, deep, deeps_toD h.2]
  | .lst xs, h => by
    simp only [fine, Bool.and_eq_true] at h
    simp only [toD, PyData.depth, deep, deeps_toD h.2]
  | .fn _, h => by cases h
theorem deeps_toD : ∀ {v : List Val}, fines v = true → PyData.depthAll (toDs v) = deeps v
  | [], _ => rfl
  | x :: r, h => by
    simp only [fines, Bool.and_eq_true] at h
    simp only [toDs, PyData.depthAll, deeps, deep_toD h.1, deeps_toD h.2]
end
theorem okD_of {v : Val} (h : fine v = true) (hd : deep v ≤ 64) : okD v = true := by
  unfold okD SeqAt.shaped
  rw [fine_lay h, deep_toD h]
  simpa using hd
theorem eqV_refl {v : Val} (h : fine v = true) : eqV v v = true := SeqAt.eqv_refl _ (fine_lay h)
theorem cmp_ne_bl (a b : Bool) : cmpop .ne (.bl a) (.bl b) = some (a != b) := by cases a <;> cases b <;> rfl
theorem cmp_eq_bl (a b : Bool) : cmpop .eq (.bl a) (.bl b) = some (a == b) := by cases a <;> cases b <;> rfl
theorem cmp_eq_int (i j : Int) : cmpop .eq (.int i) (.int j) = some (decide (i = j)) := rfl
theorem cmp_ne_int (i j : Int) : cmpop .ne (.int i) (.int j) = some (!decide (i = j)) := rfl
theorem cmp_lt_int (i j : Int) : cmpop .lt (.int i) (.int j) = some (decide (i < j)) := rfl
theorem cmp_le_int (i j : Int) : cmpop .le (.int i) (.int j) = some (decide (i ≤ j)) := rfl
theorem cmp_gt_int (i j : Int) : cmpop .gt (.int i) (.int j) = some (decide (j < i)) := rfl
theorem cmp_ge_int (i j : Int) : cmpop .ge (.int i) (.int j) = some (decide (j ≤ i)) := rfl
theorem cmp_is (v : Val) : cmpop .is v .non = some (isNon v) := by cases v <;> rfl
theorem cmp_isn (v : Val) : cmpop .isn v .non = some (!isNon v) := by cases v <;> rfl
theorem cmp_self {v : Val} (h : fine v = true) (hd : deep v ≤ 64) : cmpop .eq v v = some true := by
  have e1 := okD_of h hd
  have e2 := eqV_refl h
  cases v <;> first | (simp [cmpop, e1, e2]; done) | skip
theorem len_lst (xs : List Val) : biop .len [.lst xs] = some (.int xs.length) := rfl
theorem len_tup (xs : List Val) : biop .len [.tup xs] = some (.int xs.length) := rfl
section
variable {p : Prog}
theorem is_number_ok {i n : Nat} {v : Val} (h : p.fns[i]? = some Sh.is_number) (hv : fine v = true) : callN p (n + 1) i [v] = .ok (.bl (match v with | .int _ => true | _ => false)) v := by
  rw [callN_eq h]
  cases v <;> first | (cases hv; done) | simp [runFd, Sh.is_number, enter, evSs, evS, evE, isTy, truthy, outOf, endOf]
theorem tupled_ok {i : Nat} {k : List (List Nat)} (h : p.fns[i]? = some (Sh.tupled i k)) : ∀ (n : Nat) (v : Val), fine v = true → deep v < n → callN p n i [v] = .ok (tupV v) v
  | 0, v, _, hd => by omega
  | n + 1, v, hv, hd => by
    rw [callN_eq h]
    have key : ∀ xs : List Val, fines xs = true → deeps xs < n → xs.length ≤ 16777216 → (v = .lst xs ∨ v = .tup xs) → evE ⟨callN p n, fun x => p.vals.lookup x, p.wh⟩ (.comp [1] (.call i (.cons (.var 1) .nil)) (.name 1) (.seq (.var 0)) .nil) [some v, none] = .ok (.lst (xs.map tupV)) [some v, none] := fun xs hx hdx hl e => by
      refine comp_pure tupV ?_ (fun x m => ⟨[some v, some x], rfl, ?_, rfl⟩) (by rw [sizeLine_eq]; exact hl)
      · rcases e with rfl | rfl <;> simp [evIt, evE, items?]
      · simp [evE, evEs, tupled_ok h n x (fines_mem hx x m) (Nat.lt_of_le_of_lt (deeps_mem m) hdx)]
    cases v with
    | lst xs =>
      simp only [fine, Bool.and_eq_true, decide_eq_true_eq] at hv
      simp only [deep] at hd
      have := key xs hv.2 (by omega) hv.1 (.inl rfl)
      simp [runFd, Sh.tupled, enter, evSs, evS, evEs, evE.eq_def _ (.ite _ _ _), evE.eq_def _ (.isi _ _), evE.eq_def _ (.var _), evE.eq_def _ (.bi _ _), isTy, truthy, outOf, endOf, this, biop, tupV, tupVs_map]
    | tup xs =>
      simp only [fine, Bool.and_eq_true, decide_eq_true_eq] at hv
      simp only [deep] at hd
      have := key xs hv.2 (by omega) hv.1 (.inr rfl)
      simp [runFd, Sh.tupled, enter, evSs, evS, evEs, evE.eq_def _ (.ite _ _ _), evE.eq_def _ (.isi _ _), evE.eq_def _ (.var _), evE.eq_def _ (.bi _ _), isTy, truthy, outOf, endOf, this, biop, tupV, tupVs_map]
    | fn f => cases hv
    | _ => simp [runFd, Sh.tupled, enter, evSs, evS, evE, isTy, truthy, outOf, endOf, tupV]
theorem lists_ok {i : Nat} (h : p.fns[i]? = some (Sh.lists i)) : ∀ (n : Nat) (v : Val), fine v = true → deep v < n → callN p n i [v] = .ok (lstV v) v
  | 0, v, _, hd => by omega
  | n + 1, v, hv, hd => by
    rw [callN_eq h]
    have key : ∀ xs : List Val, fines xs = true → deeps xs < n → xs.length ≤ 16777216 → (v = .lst xs ∨ v = .tup xs) → evE ⟨callN p n, fun x => p.vals.lookup x, p.wh⟩ (.comp [1] (.call i (.cons (.var 1) .nil)) (.name 1) (.seq (.var 0)) .nil) [some v, none] = .ok (.lst (xs.map lstV)) [some v, none] := fun xs hx hdx hl e => by
      refine comp_pure lstV ?_ (fun x m => ⟨[some v, some x], rfl, ?_, rfl⟩) (by rw [sizeLine_eq]; exact hl)
      · rcases e with rfl | rfl <;> simp [evIt, evE, items?]
      · simp [evE, evEs, lists_ok h n x (fines_mem hx x m) (Nat.lt_of_le_of_lt (deeps_mem m) hdx)]
    cases v with
    | lst xs =>
      simp only [fine, Bool.and_eq_true, decide_eq_true_eq] at hv
      simp only [deep] at hd
      have := key xs hv.2 (by omega) hv.1 (.inl rfl)
      simp [runFd, Sh.lists, enter, evSs, evS, evEs, evE.eq_def _ (.ite _ _ _), evE.eq_def _ (.isi _ _), evE.eq_def _ (.var _), isTy, truthy, outOf, endOf, this, lstV, lstVs_map]
    | tup xs =>
      simp only [fine, Bool.and_eq_true, decide_eq_true_eq] at hv
      simp only [deep] at hd
      have := key xs hv.2 (by omega) hv.1 (.inr rfl)
      simp [runFd, Sh.lists, enter, evSs, evS, evEs, evE.eq_def _ (.ite _ _ _), evE.eq_def _ (.isi _ _), evE.eq_def _ (.var _), isTy, truthy, outOf, endOf, this, lstV, lstVs_map]
    | fn f => cases hv
    | _ => simp [runFd, Sh.lists, enter, evSs, evS, evE, isTy, truthy, outOf, endOf, lstV]
theorem zipV_mem : ∀ {xs : List Val} {z : Val}, z ∈ zipV xs xs → ∃ x ∈ xs, z = .tup [x, x]
  | [], z, h => by cases h
  | x :: xs, z, h => by
    rcases List.mem_cons.mp h with e | e
    · exact ⟨x, List.mem_cons_self, e⟩
    · obtain ⟨y, hy, e⟩ := zipV_mem e
      exact ⟨y, List.mem_cons_of_mem _ hy, e⟩
theorem zipV_length : ∀ {xs : List Val}, (zipV xs xs).length = xs.length
  | [] => rfl
  | _ :: xs => congrArg (· + 1) (zipV_length (xs := xs))
theorem bools_const {α : Type} : ∀ {xs : List α}, bools? (xs.map fun _ => Val.bl true) = some (xs.map fun _ => true)
  | [] => rfl
  | _ :: xs => by simp only [List.map_cons, bools?, bools_const (xs := xs), Option.map_some]
theorem same_ok {i : Nat} (h : p.fns[i]? = some (Sh.same i)) : ∀ (n : Nat) (v : Val), fine v = true → deep v < n → deep v ≤ 64 → callN p n i [v, v] = .ok (.bl true) v
  | 0, v, _, hd, _ => by omega
  | n + 1, v, hv, hd, h64 => by
    rw [callN_eq h]
    have key : ∀ xs : List Val, fines xs = true → deeps xs < n → deeps xs ≤ 64 → xs.length ≤ 16777216 → (v = .lst xs ∨ v = .tup xs) → evE ⟨callN p n, fun x => p.vals.lookup x, p.wh⟩ (.comp [2, 3] (.call i (.cons (.var 2) (.cons (.var 3) .nil))) (.tup [2, 3]) (.zip (.var 0) (.var 1)) .nil) [some v, some v, none, none] = .ok (.lst ((zipV xs xs).map fun _ => .bl true)) [some v, some v, none, none] := fun xs hx hdx h64 hl e => by
      refine comp_pure (xs := zipV xs xs) (fun _ => .bl true) ?_ (fun z m => ?_) (by rw [sizeLine_eq, zipV_length]; exact hl)
      · rcases e with rfl | rfl <;> simp [evIt, evE]
      · obtain ⟨x, hx', rfl⟩ := zipV_mem m
        refine ⟨[some v, some v, some x, some x], rfl, ?_, rfl⟩
        have := deeps_mem hx'
        simp [evE, evEs, same_ok h n x (fines_mem hx x hx') (by omega) (by omega)]
    cases v with
    | lst xs =>
      simp only [fine, Bool.and_eq_true, decide_eq_true_eq] at hv
      simp only [deep] at hd h64
      have := key xs hv.2 (by omega) (by omega) hv.1 (.inl rfl)
      simp [runFd, Sh.same, enter, evSs, evS, evEs, evT, lentE, lentEs, lentOk, evE.eq_def _ (.isi _ _), evE.eq_def _ (.or _ _), evE.eq_def _ (.and _ _), evE.eq_def _ (.cmp _ _ _), evE.eq_def _ (.lnv _), evE.eq_def _ (.var _), evE.eq_def _ (.bi _ _), isTy, truthy, outOf, endOf, this, cmp_ne_bl, cmp_eq_int, len_lst, biop, bools_const]
    | tup xs =>
      simp only [fine, Bool.and_eq_true, decide_eq_true_eq] at hv
      simp only [deep] at hd h64
      have := key xs hv.2 (by omega) (by omega) hv.1 (.inr rfl)
      simp [runFd, Sh.same, enter, evSs, evS, evEs, evT, lentE, lentEs, lentOk, evE.eq_def _ (.isi _ _), evE.eq_def _ (.or _ _), evE.eq_def _ (.and _ _), evE.eq_def _ (.cmp _ _ _), evE.eq_def _ (.lnv _), evE.eq_def _ (.var _), evE.eq_def _ (.bi _ _), isTy, truthy, outOf, endOf, this, cmp_ne_bl, cmp_eq_int, len_tup, biop, bools_const]
    | fn f => cases hv
    | _ => simp [runFd, Sh.same, enter, evSs, evS, evE, evT, lentE, lentEs, lentOk, isTy, truthy, outOf, endOf, isNon, cmp_eq_bl, cmp_eq_int, cmp_is, C.val, cmp_self hv h64]
end
end Rf

set_option Elab.async false
set_option linter.all false
set_option maxRecDepth 100000
set_option maxHeartbeats 4000000
/-! Plain laws, part C: the script's numbers: cells, box, take. -/
namespace Rf
open PySem PySem.Spec PyProof.Rows L2
namespace Sh
def take : Fd := ⟨"_law_take", [("tin" : Str), ("below_so" : Str), ("once_so" : Str), ("wide_so" : Str), ("twice_so" : Str), ("drawn_so" : Str)], [("tin" : Str), ("below_so" : Str)], true, false, [], (.cons (.ife (.cmp .gt (.itv 0 (.con (.int 0))) (.con (.int 0))) (.cons (.set (.name 5) .val (.bin .mod (.bi .int (.cons (.itv 0 (.con (.int 0))) .nil)) (.var 1))) (.cons (.setI 0 .val (.con (.int 0)) (.bin .fdiv (.itv 0 (.con (.int 0))) (.var 1))) (.cons (.ret false (.var 5)) .nil))) .nil) (.cons (.setI 0 .val (.con (.int 2)) (.bin .add (.itv 0 (.con (.int 2))) (.con (.int 1)))) (.cons (.set (.name 2) .val (.bin .mod (.bi .int (.cons (.bin .mul (.bin .add (.itv 0 (.con (.int 1))) (.bin .mul (.con (.int 48271)) (.itv 0 (.con (.int 2))))) (.bin .add (.con (.int 39373)) (.itv 0 (.con (.int 2))))) .nil)) (.con (.int 2147483647)))) (.cons (.set (.name 3) .val (.bin .add (.bin .mod (.bi .int (.cons (.var 2) .nil)) (.con (.int 40009))) (.con (.int 7)))) (.cons (.set (.name 4) .val (.bin .mod (.bi .int (.cons (.bin .mul (.bin .add (.bin .add (.var 2) (.itv 0 (.con (.int 2)))) (.bin .fdiv (.itv 0 (.con (.int 1))) (.con (.int 1000003)))) (.var 3)) .nil)) (.con (.int 2147483629)))) (.cons (.ret false (.bin .mod (.bi .int (.cons (.bin .fdiv (.bin .mod (.bi .int (.cons (.bin .add (.bin .mul (.var 4) (.con (.int 48271))) (.var 2)) .nil)) (.con (.int 2147483587))) (.con (.int 64))) .nil)) (.var 1))) .nil))))))⟩
def box (k : Int) : Fd := ⟨"_law_box", [("script" : Str), ("k" : Str), ("bit_so" : Str)], [("script" : Str), ("k" : Str)], false, true, [], (.cons (.set (.name 2) .val (.ite (.cmp .lt (.var 1) (.lnv 0)) (.itv 0 (.var 1)) (.con (.int 0)))) (.cons (.ret false (.lst (.cons (.bin .mul (.bi .abs (.cons (.var 2) .nil)) (.bi .int (.cons (.cmp .ge (.bi .abs (.cons (.var 2) .nil)) (.bin .pow (.con (.int 10)) (.con (.int 18)))) .nil))) (.cons (.bin .add (.bin .add (.bin .mod (.bi .int (.cons (.var 2) .nil)) (.con (.int 2305843009213693951))) (.bin .mul (.con (.int 39373)) (.var 1))) (.con (.int k))) (.cons (.con (.int 0)) .nil))))) .nil))⟩
def cells : Fd := ⟨"_law_cells", [("script" : Str), ("most_so" : Str), ("cells_so" : Str), ("k" : Str), ("bit_so" : Str), ("at_so" : Str)], [("script" : Str), ("most_so" : Str)], false, false, [], (.cons (.set (.name 2) .frsh (.or (.bi .lst (.cons (.slc (.var 0) .none (.some (.var 1))) .nil)) (.lst (.cons (.con (.int 0)) .nil)))) (.cons (.fr (.tup [3, 4]) (.enu (.slc (.var 0) (.some (.var 1)) (.some (.con (.int 63))))) (.cons (.set (.name 5) .val (.bin .mod (.bi .int (.cons (.var 3) .nil)) (.var 1))) (.cons (.setI 2 .val (.var 5) (.bin .add (.itv 2 (.var 5)) (.bin .mul (.var 4) (.bin .add (.var 3) (.con (.int 2)))))) .nil))) (.cons (.ret false (.var 2)) .nil)))⟩
end Sh
def tinV (a b c : Int) : Val := .lst [.int a, .int b, .int c]
theorem bits_small {y : Int} (h : y.natAbs < 2 ^ 64) : Builtin.Int.intBits y ≤ 64 := by
  unfold Builtin.Int.intBits
  split
  · omega
  · rename_i hy
    have hy : y ≠ 0 := by simpa using hy
    have : y.natAbs.log2 < 64 := (Nat.log2_lt (by omega)).mpr h
    omega
theorem mulOk_r {x y : Int} (h : y.natAbs < 2 ^ 64) : mulOk x y = true := by
  unfold mulOk
  have := bits_small h
  simp [shortFactorBits]
  exact .inl (.inr this)
theorem mulOk_l {x y : Int} (h : x.natAbs < 2 ^ 64) : mulOk x y = true := by
  unfold mulOk
  have := bits_small h
  simp [shortFactorBits]
  exact .inl (.inl this)
theorem mul_r {x y : Int} (h : y.natAbs < 2 ^ 64) : binop .mul (.int x) (.int y) = some (.int (x * y)) := by simp [binop, mulOk_r h]
theorem mul_l {x y : Int} (h : x.natAbs < 2 ^ 64) : binop .mul (.int x) (.int y) = some (.int (x * y)) := by simp [binop, mulOk_l h]
theorem add_int (x y : Int) : binop .add (.int x) (.int y) = some (.int (x + y)) := rfl
theorem sub_int (x y : Int) : binop .sub (.int x) (.int y) = some (.int (x - y)) := rfl
theorem mod_pos {x y : Int} (h : 0 < y) : binop .mod (.int x) (.int y) = some (.int (x % y)) := by
  simp only [binop]
  rw [if_pos (by omega), Int.fmod_eq_emod_of_nonneg _ (by omega)]
theorem fdiv_pos {x y : Int} (h : 0 < y) (h2 : y < 2 ^ 200) : binop .fdiv (.int x) (.int y) = some (.int (x / y)) := by
  simp only [binop]
  rw [if_pos]
  refine ⟨h, (Nat.log2_lt (by omega)).mpr ?_⟩
  have e : ((y.natAbs : Nat) : Int) = y := by omega
  have h3 : ((y.natAbs : Nat) : Int) < ((2 ^ 200 : Nat) : Int) := by rw [e]; exact_mod_cast h2
  have h4 : y.natAbs < 2 ^ 200 := by exact_mod_cast h3
  exact Nat.lt_of_lt_of_le h4 (Nat.pow_le_pow_right (by decide) (by decide))
theorem at0 (a b c : Int) : itemop (.lst [.int a, .int b, .int c]) (.int 0) = some (.int a) := rfl
theorem at1 (a b c : Int) : itemop (.lst [.int a, .int b, .int c]) (.int 1) = some (.int b) := rfl
theorem at2 (a b c : Int) : itemop (.lst [.int a, .int b, .int c]) (.int 2) = some (.int c) := rfl
theorem ix30 : L2.ixN 3 0 = some 0 := rfl
theorem ix32 : L2.ixN 3 2 = some 2 := rfl
section
variable {p : Prog}
theorem take_ok {i n : Nat} {a b c m : Int} (h : p.fns[i]? = some Sh.take) (ha : 0 ≤ a) (hb : 0 ≤ b) (hc : 0 ≤ c) (hc2 : c < 2 ^ 60) (hm : 0 < m) (hm2 : m < 2 ^ 200) :
    ∃ r a' c', callN p (n + 1) i [tinV a b c, .int m] = .ok (.int r) (tinV a' b c') ∧ 0 ≤ r ∧ r < m ∧ 0 ≤ a' ∧ 0 ≤ c' ∧ c' ≤ c + 1 := by
  rw [callN_eq h]
  by_cases h0 : 0 < a
  · refine ⟨a % m, a / m, c, ?_, Int.emod_nonneg _ (by omega), Int.emod_lt_of_pos _ hm, Int.ediv_nonneg ha (by omega), hc, by omega⟩
    simp [runFd, Sh.take, tinV, enter, evSs, evS, evE, evEs, evT, evM, lentE, lentEs, lentOk, truthy, outOf, endOf, C.val, at0, cmp_gt_int, h0, biop, mod_pos hm, fdiv_pos hm hm2, assign, scalar, ix30]
  · have hc1 : (0 : Int) ≤ c + 1 := by omega
    generalize hd : c + 1 = d at hc1
    have hd2 : d ≤ 2 ^ 60 := by omega
    have m1 : binop .mul (.int 48271) (.int d) = some (.int (48271 * d)) := mul_l (by decide)
    have m2 : binop .mul (.int (b + 48271 * d)) (.int (39373 + d)) = some (.int ((b + 48271 * d) * (39373 + d))) := mul_r (by omega)
    generalize ho : (b + 48271 * d) * (39373 + d) = o at m2
    have w1 : 0 ≤ o % 2147483647 % 40009 + 7 := by omega
    have m3 : ∀ x, binop .mul (.int x) (.int (o % 2147483647 % 40009 + 7)) = some (.int (x * (o % 2147483647 % 40009 + 7))) := fun x => mul_r (by omega)
    have m4 : ∀ x, binop .mul (.int x) (.int 48271) = some (.int (x * 48271)) := fun x => mul_r (by decide)
    have f1 : ∀ x, binop .fdiv (.int x) (.int 1000003) = some (.int (x / 1000003)) := fun x => fdiv_pos (by decide) (by decide)
    have f2 : ∀ x, binop .fdiv (.int x) (.int 64) = some (.int (x / 64)) := fun x => fdiv_pos (by decide) (by decide)
    have q1 : ∀ x, binop .mod (.int x) (.int 2147483647) = some (.int (x % 2147483647)) := fun x => mod_pos (by decide)
    have q2 : ∀ x, binop .mod (.int x) (.int 40009) = some (.int (x % 40009)) := fun x => mod_pos (by decide)
    have q3 : ∀ x, binop .mod (.int x) (.int 2147483629) = some (.int (x % 2147483629)) := fun x => mod_pos (by decide)
    have q4 : ∀ x, binop .mod (.int x) (.int 2147483587) = some (.int (x % 2147483587)) := fun x => mod_pos (by decide)
    refine ⟨((((o % 2147483647 + d + b / 1000003) * (o % 2147483647 % 40009 + 7)) % 2147483629 * 48271 + o % 2147483647) % 2147483587 / 64) % m, a, d, ?_, Int.emod_nonneg _ (by omega), Int.emod_lt_of_pos _ hm, ha, hc1, by omega⟩
    simp [runFd, Sh.take, tinV, enter, evSs, evS, evE, evEs, evT, evM, lentE, lentEs, lentOk, truthy, outOf, endOf, C.val, at0, at1, at2, cmp_gt_int, h0, biop, mod_pos hm, assign, scalar, ix32, add_int, hd, m1, m2, m3, m4, f1, f2, q1, q2, q3, q4]
/-- the script's first number with the later ones added -/
theorem cells_ok {i n : Nat} {ns : List Int} (h : p.fns[i]? = some Sh.cells) (hl : ns.length ≤ 63) : ∃ z, callN p (n + 1) i [.lst (ns.map .int), .int 1] = .ok (.lst [.int z]) (.lst (ns.map .int)) := by
  rw [callN_eq h]
  have hmul : ∀ (x : Int) (k : Nat), k ≤ 63 → binop .mul (.int x) (.int ((k : Int) + 2)) = some (.int (x * ((k : Int) + 2))) := fun x k hk => mul_r (by omega)
  have q1 : ∀ x, binop .mod (.int x) (.int 1) = some (.int (x % 1)) := fun x => mod_pos (by decide)
  have loop : ∀ (c : Cfg) (xs : List Int) (k : Nat) (z : Int) (S : Val) (a b d : Option Val), k + xs.length ≤ 63 → ∃ z' a' b' d', forL (stepF c (.tup [3, 4]) (.cons (.set (.name 5) .val (.bin .mod (.bi .int (.cons (.var 3) .nil)) (.var 1))) (.cons (.setI 2 .val (.var 5) (.bin .add (.itv 2 (.var 5)) (.bin .mul (.var 4) (.bin .add (.var 3) (.con (.int 2)))))) .nil))) (enumV k (xs.map .int)) [some S, some (.int 1), some (.lst [.int z]), a, b, d] = .nx [some S, some (.int 1), some (.lst [.int z']), a', b', d'] := by
    intro c xs
    induction xs with
    | nil => exact fun k z S a b d _ => ⟨z, a, b, d, rfl⟩
    | cons x xs ih =>
      intro k z S a b d hk
      simp only [List.length_cons] at hk
      obtain ⟨z', a', b', d', e⟩ := ih (k + 1) (z + x * ((k : Int) + 2)) S (some (.int (k : Nat))) (some (.int x)) (some (.int 0)) (by omega)
      refine ⟨z', a', b', d', ?_⟩
      rw [← e]
      simp only [List.map_cons, enumV, forL_cons]
      have hm := hmul x k (by omega)
      simp [stepF, assign, setAll, evSs, evS, evE, evEs, evM, biop, q1, C.val, itemop, L2.atI, L2.ixN, hm, add_int, scalar, lentE, lentEs, lentOk]
  have hmap : ∀ lo hi, cut (ns.map Val.int) lo hi = (cut ns lo hi).map .int := fun lo hi => by
    unfold cut sIx
    rw [List.length_map, List.map_take, List.map_drop]
  cases ns with
  | nil =>
    refine ⟨0, ?_⟩
    simp [runFd, Sh.cells, enter, evSs, evS_fr, evS.eq_def _ (.set _ _ _), evS.eq_def _ (.ret _ _), evE, evEs, evIt, evO, evM, truthy, outOf, endOf, C.val, biop, sliceop, cut, sIx, HT.sIx, assign, enumV, forL_nil, show (0 : Nat) ≤ sizeLine from Nat.zero_le _, show (1 : Nat) ≤ sizeLine by rw [sizeLine_eq]; decide]
  | cons x xs =>
    simp only [List.length_cons] at hl
    obtain ⟨z', a', b', d', e⟩ := loop ⟨callN p n, fun x => p.vals.lookup x, p.wh⟩ xs 0 x (.lst ((x :: xs).map .int)) none none none (by omega)
    refine ⟨z', ?_⟩
    have c1 : cut ((x :: xs).map Val.int) none (some 1) = [.int x] := by
      rw [hmap]
      simp [cut, sIx, HT.sIx]
    have c2 : cut ((x :: xs).map Val.int) (some 1) (some 63) = xs.map .int := by
      rw [hmap]
      unfold cut sIx HT.sIx
      simp only [List.length_cons]
      have e1 : min (1 : Int).toNat (xs.length + 1) = 1 := by omega
      have e2 : min (63 : Int).toNat (xs.length + 1) - 1 = xs.length := by omega
      rw [if_neg (by decide), if_neg (by decide), e1, e2]
      simp
    simp only [List.map_cons] at c1 c2 e
    simp [runFd, Sh.cells, enter, evSs, evS_fr, evS.eq_def _ (.set _ _ _), evS.eq_def _ (.ret _ _), evE, evEs, evIt, evO, evM, truthy, outOf, endOf, C.val, biop, sliceop, c1, c2, assign, e]
theorem box_ok {i n : Nat} {k : Int} {z : Int} (h : p.fns[i]? = some (Sh.box k)) (hk : 0 ≤ k) (hk2 : k < 2 ^ 60) : ∃ a b, callN p (n + 1) i [.lst [.int z], .int 0] = .ok (tinV a b 0) (.lst [.int z]) ∧ 0 ≤ a ∧ 0 ≤ b ∧ b < 2 ^ 62 := by
  rw [callN_eq h]
  have p1 : binop .pow (.int 10) (.int 18) = some (.int (10 ^ 18)) := by simp [binop]
  have q1 : ∀ x, binop .mod (.int x) (.int 2305843009213693951) = some (.int (x % 2305843009213693951)) := fun x => mod_pos (by decide)
  have m0 : binop .mul (.int 39373) (.int 0) = some (.int 0) := mul_r (by decide)
  have m1 : ∀ (x : Int) (P : Prop) [Decidable P], binop .mul (.int x) (.int (if P then 1 else 0)) = some (.int (x * if P then 1 else 0)) := fun x P _ => mul_r (by split <;> decide)
  refine ⟨(if z < 0 then -z else z) * (if decide ((10 : Int) ^ 18 ≤ if z < 0 then -z else z) then 1 else 0), z % 2305843009213693951 + 0 + k, ?_, ?_, by omega, by omega⟩
  · have l0 : itemop (.lst [.int z]) (.int 0) = some (.int z) := rfl
    simp only [runFd, Sh.box, enter, evSs, evS, evE, evEs, evM, outOf, endOf]
    simp [enter, evE, evEs, evM, truthy, outOf, endOf, C.val, biop, len_lst, cmp_lt_int, cmp_ge_int, l0, assign, p1, q1, m0, m1, add_int, tinV, show (3 : Nat) ≤ sizeLine by rw [sizeLine_eq]; decide]
  · refine Int.mul_nonneg ?_ ?_ <;> split <;> omega
end
end Rf

set_option Elab.async false
set_option linter.all false
set_option maxRecDepth 100000
set_option maxHeartbeats 4000000
/-! Plain laws, part D: tuples of ints. -/
namespace Rf
open PySem PySem.Spec PyProof.Rows L2
def tI (xs : List Int) : Val := .tup (xs.map .int)
theorem lay_ints : ∀ xs : List Int, PyData.canLayAll0 (toDs (xs.map .int)) = true
  | [] => rfl
  | x :: xs => by simp only [List.map_cons, toDs, toD, PyData.canLayAll0, PyData.canLay0, lay_ints xs, Bool.and_self]
theorem depth_ints : ∀ xs : List Int, PyData.depthAll (toDs (xs.map .int)) = 0
  | [] => rfl
  | x :: xs => by simp only [List.map_cons, toDs, toD, PyData.depthAll, PyData.depth, depth_ints xs, Nat.max_self]
theorem eqv_ints : ∀ xs ys : List Int, PyData.eqvAll (toDs (xs.map .int)) (toDs (ys.map .int)) = decide (xs = ys)
  | [], [] => by simp [toDs, PyData.eqvAll]
  | [], _ :: _ => by simp [toDs, PyData.eqvAll]
  | _ :: _, [] => by simp [toDs, PyData.eqvAll]
  | x :: xs, y :: ys => by
    have e : (x == y) = decide (x = y) := by by_cases h : x = y <;> simp [h]
    simp [toDs, toD, PyData.eqvAll, PyData.eqv, eqv_ints xs ys, e]
theorem okD_tI (xs : List Int) : okD (tI xs) = true := by
  unfold okD SeqAt.shaped tI
  simp only [toD, PyData.canLay0, PyData.depth, lay_ints, depth_ints]
  rfl
theorem eqV_tI (xs ys : List Int) : eqV (tI xs) (tI ys) = decide (xs = ys) := by
  unfold eqV tI
  simp only [toD, PyData.eqv, eqv_ints]
theorem eq_tI (xs ys : List Int) : cmpop .eq (tI xs) (tI ys) = some (decide (xs = ys)) := by
  have e : cmpop .eq (tI xs) (tI ys) = if okD (tI xs) && okD (tI ys) then some (eqV (tI xs) (tI ys)) else none := rfl
  rw [e, okD_tI, okD_tI, eqV_tI]; rfl
theorem ne_tI (xs ys : List Int) : cmpop .ne (tI xs) (tI ys) = some (!decide (xs = ys)) := by
  have e : cmpop .ne (tI xs) (tI ys) = if okD (tI xs) && okD (tI ys) then some (!eqV (tI xs) (tI ys)) else none := rfl
  rw [e, okD_tI, okD_tI, eqV_tI]; rfl
def rI (f o : List Int) : Val := .tup [tI f, tI o]
theorem okD_rI (f o : List Int) : okD (rI f o) = true := by
  unfold okD SeqAt.shaped rI tI
  simp only [toD, toDs, PyData.canLay0, PyData.canLayAll0, PyData.depth, PyData.depthAll, lay_ints, depth_ints]
  rfl
theorem eqV_rI (f o f' o' : List Int) : eqV (rI f o) (rI f' o') = decide (f = f' ∧ o = o') := by
  unfold eqV rI tI
  simp only [toD, toDs, PyData.eqv, PyData.eqvAll, eqv_ints]
  by_cases h1 : f = f' <;> by_cases h2 : o = o' <;> simp [h1, h2]
theorem eq_rI (f o f' o' : List Int) : cmpop .eq (rI f o) (rI f' o') = some (decide (f = f' ∧ o = o')) := by
  have e : cmpop .eq (rI f o) (rI f' o') = if okD (rI f o) && okD (rI f' o') then some (eqV (rI f o) (rI f' o')) else none := rfl
  rw [e, okD_rI, okD_rI, eqV_rI]; rfl
theorem nil_tI : Val.tup [] = tI [] := rfl
theorem sl_tI (xs : List Int) (lo hi : Option Int) : sliceop (tI xs) lo hi = some (tI (cut xs lo hi)) := by
  unfold tI cut sIx
  rw [List.map_take, List.map_drop]
  show some (Val.tup (cut _ _ _)) = _
  unfold cut sIx
  rw [List.length_map]
theorem len_tI (xs : List Int) : biop .len [tI xs] = some (.int xs.length) := by
  unfold tI
  simp [biop]
theorem at_map (xs : List Int) (i : Int) : L2.atI (xs.map Val.int) i = (L2.atI xs i).map .int := by
  unfold L2.atI
  rw [List.length_map]
  cases L2.ixN xs.length i with
  | none => rfl
  | some j => simp
theorem it_tI (xs : List Int) (i : Int) : itemop (tI xs) (.int i) = (L2.atI xs i).map .int := at_map xs i
theorem add_tI {xs ys : List Int} (h : xs.length + ys.length ≤ 16777216) : binop .add (tI xs) (tI ys) = some (tI (xs ++ ys)) := by
  unfold tI binop
  dsimp only
  rw [if_pos (by rw [List.length_map, List.length_map, sizeLine_eq]; exact h), List.map_append]
theorem mul_tI {xs : List Int} {k : Nat} (h : xs.length ≤ 1000) (h2 : k ≤ 1000) : binop .mul (tI xs) (.int k) = some (tI (List.replicate k xs).flatten) := by
  unfold tI binop
  dsimp only
  rw [if_pos ⟨by rw [List.length_map]; exact h, by omega, by omega⟩, List.map_flatten, List.map_replicate]
  simp
theorem tru_tI (xs : List Int) : truthy (tI xs) = some (!xs.isEmpty) := by
  unfold tI truthy
  cases xs <;> rfl
theorem ty_tI (xs : List Int) (t : Ty) : isTy (tI xs) t = (match t with | .tup => true | _ => false) := by cases t <;> rfl
theorem fine_ints : ∀ xs : List Int, fines (xs.map .int) = true
  | [] => rfl
  | x :: xs => by simp only [List.map_cons, fines, fine, fine_ints xs, Bool.and_self]
theorem deeps_ints : ∀ xs : List Int, deeps (xs.map .int) = 0
  | [] => rfl
  | x :: xs => by simp only [List.map_cons, deeps, deep, deeps_ints xs, Nat.max_self]
theorem fine_tI {xs : List Int} (h : xs.length ≤ 16777216) : fine (tI xs) = true := by
  unfold tI
  simp only [fine, fine_ints, List.length_map, Bool.and_true, decide_eq_true_eq]
  exact h
theorem deep_tI (xs : List Int) : deep (tI xs) = 1 := by unfold tI; simp only [deep, deeps_ints]
theorem fine_rI {f o : List Int} (h1 : f.length ≤ 16777216) (h2 : o.length ≤ 16777216) : fine (rI f o) = true := by
  unfold rI
  simp [fine, fines, fine_tI h1, fine_tI h2]
theorem deep_rI (f o : List Int) : deep (rI f o) = 2 := by unfold rI; simp [deep, deeps, deep_tI]
theorem tupV_ints : ∀ xs : List Int, tupVs (xs.map .int) = xs.map .int
  | [] => rfl
  | x :: xs => by simp only [List.map_cons, tupVs, tupV, tupV_ints xs]
theorem lstV_ints : ∀ xs : List Int, lstVs (xs.map .int) = xs.map .int
  | [] => rfl
  | x :: xs => by simp only [List.map_cons, lstVs, lstV, lstV_ints xs]
theorem tupV_tI (xs : List Int) : tupV (tI xs) = tI xs := by unfold tI; simp only [tupV, tupV_ints]
theorem lstV_tI (xs : List Int) : lstV (tI xs) = .lst (xs.map .int) := by unfold tI; simp only [lstV, lstV_ints]
theorem tupV_lI (xs : List Int) : tupV (.lst (xs.map .int)) = tI xs := by unfold tI; simp only [tupV, tupV_ints]
theorem tupV_rI (f o : List Int) : tupV (rI f o) = rI f o := by unfold rI; simp [tupV, tupVs, tupV_tI]
/-! places -/
theorem cut_to {xs : List Int} {m : Nat} : cut xs none (some (m : Int)) = xs.take m := by
  unfold cut sIx HT.sIx
  dsimp only
  rw [if_neg (by omega), Int.toNat_natCast, Nat.sub_zero, List.drop_zero, ← List.take_eq_take_min]
theorem cut_from {xs : List Int} {m : Nat} : cut xs (some (m : Int)) none = xs.drop m := by
  unfold cut sIx HT.sIx
  dsimp only
  rw [if_neg (by omega), Int.toNat_natCast]
  by_cases h : m ≤ xs.length
  · rw [Nat.min_eq_left h, ← List.length_drop, List.take_length]
  · rw [Nat.min_eq_right (by omega), List.drop_eq_nil_of_le (Nat.le_refl _), List.drop_eq_nil_of_le (by omega)]; simp
theorem cut_init (xs : List Int) : cut xs none (some (-1)) = xs.dropLast := by
  unfold cut sIx HT.sIx
  dsimp only
  rw [if_pos (by decide), List.dropLast_eq_take, Nat.sub_zero, List.drop_zero]
  congr 1
  omega
theorem cut_last (xs : List Int) : cut xs (some (-1)) none = xs.drop (xs.length - 1) := by
  unfold cut sIx HT.sIx
  dsimp only
  rw [if_pos (by decide)]
  have : ((-1 : Int) + (xs.length : Int)).toNat = xs.length - 1 := by omega
  rw [this, List.take_of_length_le (by rw [List.length_drop]; omega)]
theorem at_last {xs : List Int} (h : xs ≠ []) : L2.atI xs (-1) = some (xs.getLast h) := by
  unfold L2.atI L2.ixN
  have hp : 0 < xs.length := List.length_pos_iff.mpr h
  rw [if_neg (by decide)]
  rw [if_pos (by omega)]
  show xs[((-1 : Int) + (xs.length : Int)).toNat]? = _
  have : ((-1 : Int) + (xs.length : Int)).toNat = xs.length - 1 := by omega
  rw [this, List.getLast_eq_getElem]
  exact List.getElem?_eq_getElem _
theorem at_nat {xs : List Int} {m : Nat} (h : m < xs.length) : L2.atI xs (m : Int) = some xs[m] := by
  unfold L2.atI L2.ixN
  rw [if_pos (by omega), if_pos (by omega)]
  simp [h]
theorem fdiv_nat {x d : Nat} (h : 0 < d) (h2 : d ≤ 1000000) : binop .fdiv (.int (x : Nat)) (.int (d : Nat)) = some (.int ((x : Int) / (d : Int))) :=
  fdiv_pos (by omega) (Int.lt_of_le_of_lt (b := 1000000) (by omega) (by decide))
theorem mod_nat {x d : Nat} (h : 0 < d) : binop .mod (.int (x : Nat)) (.int (d : Nat)) = some (.int ((x : Int) % (d : Int))) := mod_pos (by omega)
theorem rep_tI {xs : List Int} {m d : Nat} (h : xs.length ≤ 1000) (h2 : m ≤ 1000) : binop .mul (tI xs) (.int ((m : Int) / (d : Int))) = some (tI (List.replicate (m / d) xs).flatten) := by
  have := mul_tI (xs := xs) (k := m / d) h (Nat.le_trans (Nat.div_le_self _ _) h2)
  rwa [Int.natCast_ediv] at this
@[simp] theorem isiR_tI {xs : List Int} {ts : List Ty} {ρ : Env} : isiR (tI xs) ts ρ = .ok (.bl (ts.any fun t => t == .tup)) ρ := by
  show Rs.ok (Val.bl (ts.any (isTy (tI xs)))) ρ = _
  congr 2
  induction ts with
  | nil => rfl
  | cons t ts ih => rw [List.any_cons, List.any_cons, ih]; cases t <;> rfl
@[simp] theorem isiR_rI {f o : List Int} {ts : List Ty} {ρ : Env} : isiR (rI f o) ts ρ = .ok (.bl (ts.any fun t => t == .tup)) ρ := by
  show Rs.ok (Val.bl (ts.any (isTy (rI f o)))) ρ = _
  congr 2
  induction ts with
  | nil => rfl
  | cons t ts ih => rw [List.any_cons, List.any_cons, ih]; cases t <;> rfl
theorem items_tI (xs : List Int) : items? (tI xs) = some (xs.map .int) := rfl
theorem items_lst (xs : List Val) : items? (.lst xs) = some xs := rfl
theorem tru_bl (b : Bool) : truthy (.bl b) = some b := rfl
theorem it0_rI (f o : List Int) : itemop (rI f o) (.int 0) = some (tI f) := rfl
theorem it1_rI (f o : List Int) : itemop (rI f o) (.int 1) = some (tI o) := rfl
theorem len_rI (f o : List Int) : biop .len [rI f o] = some (.int 2) := rfl
theorem one_line : (1 : Nat) ≤ sizeLine := by rw [sizeLine_eq]; decide
theorem two_line : (2 : Nat) ≤ sizeLine := by rw [sizeLine_eq]; decide
theorem three_line : (3 : Nat) ≤ sizeLine := by rw [sizeLine_eq]; decide
theorem four_line : (4 : Nat) ≤ sizeLine := by rw [sizeLine_eq]; decide
theorem five_line : (5 : Nat) ≤ sizeLine := by rw [sizeLine_eq]; decide
theorem callN_run {p : Prog} {n f : Nat} {fd : Fd} {vs : List Val} {r : Cr} (h : p.fns[f]? = some fd) (H : ∀ c : Cfg, c.call = callN p n → c.val = (fun x => p.vals.lookup x) → c.wh = p.wh → runFd c fd vs = r) : callN p (n + 1) f vs = r := by
  rw [callN_eq h]
  exact H _ rfl rfl rfl
theorem via {c : Cfg} {F : Nat → List Val → Cr} (hc : c.call = F) {f : Nat} {vs : List Val} {r : Cr} (h : F f vs = r) : c.call f vs = r := by rw [hc]; exact h
end Rf

set_option Elab.async false
set_option linter.all false
set_option maxRecDepth 100000
set_option maxHeartbeats 0
namespace Hd
open PySem PySem.Spec PyProof.Rows L2
def top (i : Nat) : Stmt := PySem.Challenge.pw_twiceround_k03_whole_rows_and_beats.main.body.getD i (.Pass ⟨0, 0, 0, 0⟩)
def d3 : He.DefD := ⟨("is_number", none), "is_number", "is_number", defArgs (top 3), defBody (top 3), defScope (top 3), [], []⟩
def d4 : He.DefD := ⟨("is_from", none), "is_from", "is_from", defArgs (top 4), defBody (top 4), defScope (top 4), [], []⟩
def d5 : He.DefD := ⟨("is_within", none), "is_within", "is_within", defArgs (top 5), defBody (top 5), defScope (top 5), [], []⟩
def d6 : He.DefD := ⟨("is_long", none), "is_long", "is_long", defArgs (top 6), defBody (top 6), defScope (top 6), [], []⟩
def d7 : He.DefD := ⟨("tupled", none), "tupled", "tupled", defArgs (top 7), defBody (top 7), defScope (top 7), [], []⟩
def d9 : He.DefD := ⟨("divisors_of", none), "divisors_of", "divisors_of", defArgs (top 9), defBody (top 9), defScope (top 9), [], []⟩
def d14 : He.DefD := ⟨("are_sides", none), "are_sides", "are_sides", defArgs (top 14), defBody (top 14), defScope (top 14), [], []⟩
def d15 : He.DefD := ⟨("shortest_round", none), "shortest_round", "shortest_round", defArgs (top 15), defBody (top 15), defScope (top 15), [], []⟩
def d16 : He.DefD := ⟨("tight", none), "tight", "tight", defArgs (top 16), defBody (top 16), defScope (top 16), [], []⟩
def d17 : He.DefD := ⟨("is_row", none), "is_row", "is_row", defArgs (top 17), defBody (top 17), defScope (top 17), [], []⟩
def d18 : He.DefD := ⟨("side_at", none), "side_at", "side_at", defArgs (top 18), defBody (top 18), defScope (top 18), [], []⟩
def d19 : He.DefD := ⟨("moved", none), "moved", "moved", defArgs (top 19), defBody (top 19), defScope (top 19), [], []⟩
def d20 : He.DefD := ⟨("first_unlike", none), "first_unlike", "first_unlike", defArgs (top 20), defBody (top 20), defScope (top 20), [], []⟩
def d21 : He.DefD := ⟨("is_around", none), "is_around", "is_around", defArgs (top 21), defBody (top 21), defScope (top 21), [], []⟩
def d22 : He.DefD := ⟨("sure_row", none), "sure_row", "sure_row", defArgs (top 22), defBody (top 22), defScope (top 22), [], []⟩
def d23 : He.DefD := ⟨("row_of", none), "row_of", "row_of", defArgs (top 23), defBody (top 23), defScope (top 23), [], []⟩
def d24 : He.DefD := ⟨("sign_at", none), "sign_at", "sign_at", defArgs (top 24), defBody (top 24), defScope (top 24), [], []⟩
def d25 : He.DefD := ⟨("later", none), "later", "later", defArgs (top 25), defBody (top 25), defScope (top 25), [], []⟩
def d26 : He.DefD := ⟨("unlike_at", none), "unlike_at", "unlike_at", defArgs (top 26), defBody (top 26), defScope (top 26), [], []⟩
def d27 : He.DefD := ⟨("is_round_row", none), "is_round_row", "is_round_row", defArgs (top 27), defBody (top 27), defScope (top 27), [], []⟩
def d29 : He.DefD := ⟨("_law_box", none), "_law_box", "_law_box", defArgs (top 29), defBody (top 29), defScope (top 29), [], []⟩
def d30 : He.DefD := ⟨("_law_take", none), "_law_take", "_law_take", defArgs (top 30), defBody (top 30), defScope (top 30), [], []⟩
def d31 : He.DefD := ⟨("_law_cells", none), "_law_cells", "_law_cells", defArgs (top 31), defBody (top 31), defScope (top 31), [], []⟩
def d32 : He.DefD := ⟨("_law_lists", none), "_law_lists", "_law_lists", defArgs (top 32), defBody (top 32), defScope (top 32), [], []⟩
def d33 : He.DefD := ⟨("_law_same", none), "_law_same", "_law_same", defArgs (top 33), defBody (top 33), defScope (top 33), [], []⟩
def d34 : He.DefD := ⟨("_law_tight", none), "_law_tight", "_law_tight", defArgs (top 34), defBody (top 34), defScope (top 34), [], []⟩
def d35 : He.DefD := ⟨("_law_twos", none), "_law_twos", "_law_twos", defArgs (top 35), defBody (top 35), defScope (top 35), [], []⟩
def d36 : He.DefD := ⟨("_law_at", none), "_law_at", "_law_at", defArgs (top 36), defBody (top 36), defScope (top 36), [], []⟩
def d37 : He.DefD := ⟨("_law_from_on", none), "_law_from_on", "_law_from_on", defArgs (top 37), defBody (top 37), defScope (top 37), [], []⟩
def d38 : He.DefD := ⟨("_law_drawn", none), "_law_drawn", "_law_drawn", defArgs (top 38), defBody (top 38), defScope (top 38), [], []⟩
def d39 : He.DefD := ⟨("_law_row_right", none), "_law_row_right", "_law_row_right", defArgs (top 39), defBody (top 39), defScope (top 39), [], []⟩
def d40 : He.DefD := ⟨("_law_two_right", none), "_law_two_right", "_law_two_right", defArgs (top 40), defBody (top 40), defScope (top 40), [], []⟩
def d41 : He.DefD := ⟨("_law_things_right", none), "_law_things_right", "_law_things_right", defArgs (top 41), defBody (top 41), defScope (top 41), [], []⟩
def d42 : He.DefD := ⟨("law", none), "law", "law", defArgs (top 42), defBody (top 42), defScope (top 42), [], []⟩
def fn : List He.DefD := [d3, d4, d5, d6, d7, d9, d14, d15, d16, d17, d18, d19, d20, d21, d22, d23, d24, d25, d26, d27, d29, d30, d31, d32, d33, d34, d35, d36, d37, d38, d39, d40, d41, d42]
def fa : List He.Fa := ([.glo "is_number", .glo "is_from", .glo "is_within", .glo "is_long", .glo "tupled", .glo "divisors_of", .glo "are_sides", .glo "shortest_round", .glo "tight", .glo "is_row", .glo "side_at", .glo "moved", .glo "first_unlike", .glo "is_around", .glo "sure_row", .glo "row_of", .glo "sign_at", .glo "later", .glo "unlike_at", .glo "is_round_row", .glo "_law_box", .glo "_law_take", .glo "_law_cells", .glo "_law_lists", .glo "_law_same", .glo "_law_tight", .glo "_law_twos", .glo "_law_at", .glo "_law_from_on", .glo "_law_drawn", .glo "_law_row_right", .glo "_law_two_right", .glo "_law_things_right", .glo "law", .free "ValueError", .free "abs", .free "all", .free "bool", .free "enumerate", .free "int"] : List He.Fa) ++ ([.free "isinstance", .free "len", .free "list", .free "range", .free "str", .free "tuple", .free "zip", .int "LONGEST" (60), .int "FAR" (1), .int "CUT" (2), .exc "Unfit"] : List He.Fa)
def loose : List Str := List.flatten [([("Unfit" : Str), ("is_number" : Str), ("is_from" : Str), ("is_within" : Str), ("is_long" : Str), ("tupled" : Str), ("divisors_of" : Str), ("LONGEST" : Str), ("FAR" : Str), ("CUT" : Str), ("are_sides" : Str), ("shortest_round" : Str), ("tight" : Str), ("is_row" : Str), ("side_at" : Str), ("moved" : Str), ("first_unlike" : Str), ("is_around" : Str), ("sure_row" : Str), ("row_of" : Str), ("sign_at" : Str), ("later" : Str), ("unlike_at" : Str), ("is_round_row" : Str), ("_law_box" : Str), ("_law_take" : Str), ("_law_cells" : Str), ("_law_lists" : Str), ("_law_same" : Str), ("_law_tight" : Str)] : List Str), ([("_law_twos" : Str), ("_law_at" : Str), ("_law_from_on" : Str), ("_law_drawn" : Str), ("_law_row_right" : Str), ("_law_two_right" : Str), ("_law_things_right" : Str)] : List Str)]
abbrev R : PySem.W.OpenRow := PySem.W.OpenLaw.row PySem.Challenge.rw_twiceround_k03_whole_rows_and_beats
abbrev hk : PySem.W.Hook := He.hookD 4 fa fn
def ob (s : PySem.W.SharedT) : He.AlD := He.obsDG 4 fa fn (HandSHeadRun.getT s)
theorem ob_eq (s : PySem.W.SharedT) : ob s = hk.obs s.abs := He.obsDG_eq (HandSHeadRun.getT_eq s)
theorem run (w : World) : HandSHeadRun.RunEq R (PySem.W.view R.prog [42]) hk ob 4300 loose w := by
  intro os
  kernel_rfl
end Hd

set_option Elab.async false
set_option linter.all false
set_option maxRecDepth 1000000
set_option maxHeartbeats 0
namespace Lw
open PySem PySem.Spec PyProof.Rows L2 Rf
def f0 : Fd := ⟨"is_number", [("thing" : Str)], [("thing" : Str)], false, false, [], (.cons (.ret false (.and (.isi (.var 0) [.int]) (.not (.isi (.var 0) [.bool])))) .nil)⟩
def f1 : Fd := ⟨"is_from", [("thing" : Str), ("least" : Str)], [("thing" : Str), ("least" : Str)], false, false, [], (.cons (.ret false (.and (.call 0 (.cons (.var 0) .nil)) (.cmp .ge (.var 0) (.var 1)))) .nil)⟩
def f2 : Fd := ⟨"is_within", [("thing" : Str), ("least" : Str), ("most" : Str)], [("thing" : Str), ("least" : Str), ("most" : Str)], false, false, [], (.cons (.ret false (.and (.call 0 (.cons (.var 0) .nil)) (.chn .le .le (.var 1) (.var 0) (.var 2)))) .nil)⟩
def f3 : Fd := ⟨"is_long", [("thing" : Str), ("length" : Str)], [("thing" : Str), ("length" : Str)], false, false, [], (.cons (.ret false (.and (.isi (.var 0) [.tup]) (.cmp .eq (.lnv 0) (.var 1)))) .nil)⟩
def f4 : Fd := ⟨"tupled", [("value" : Str), ("own" : Str)], [("value" : Str)], false, false, [], (.cons (.ret false (.ite (.isi (.var 0) [.lst, .tup]) (.bi .tup (.cons (.comp [1] (.call 4 (.cons (.var 1) .nil)) (.name 1) (.seq (.var 0)) .nil) .nil)) (.var 0))) .nil)⟩
def f5 : Fd := ⟨"divisors_of", [("number" : Str), ("low" : Str), ("own" : Str)], [("number" : Str)], false, false, [], (.cons (.set (.name 1) .val (.comp [2] (.var 2) (.name 2) (.r2 (.con (.int 1)) (.bin .add (.var 0) (.con (.int 1)))) (.cons (.and (.cmp .le (.bin .mul (.var 2) (.var 2)) (.var 0)) (.cmp .eq (.bin .mod (.var 0) (.var 2)) (.con (.int 0)))) .nil))) (.cons (.ret false (.bin .add (.var 1) (.comp [2] (.bin .fdiv (.var 0) (.var 2)) (.name 2) (.seq (.rev (.var 1))) (.cons (.cmp .lt (.bin .mul (.var 2) (.var 2)) (.var 0)) .nil)))) .nil))⟩
def f6 : Fd := ⟨"are_sides", [("thing" : Str), ("own" : Str)], [("thing" : Str)], false, false, [], (.cons (.ret false (.and (.isi (.var 0) [.tup]) (.and (.cmp .le (.lnv 0) (.glo "LONGEST")) (.bi .all (.cons (.comp [1] (.call 2 (.cons (.var 1) (.cons (.con (.int 0)) (.cons (.con (.int 2)) .nil)))) (.name 1) (.seq (.var 0)) .nil) .nil))))) .nil)⟩
def f7 : Fd := ⟨"shortest_round", [("sides" : Str), ("many" : Str)], [("sides" : Str)], false, false, [], (.cons (.fr (.name 1) (.seq (.call 5 (.cons (.lnv 0) .nil))) (.cons (.ife (.cmp .eq (.bin .mul (.slc (.var 0) .none (.some (.var 1))) (.bin .fdiv (.lnv 0) (.var 1))) (.var 0)) (.cons (.ret false (.slc (.var 0) .none (.some (.var 1)))) .nil) .nil) .nil)) (.cons (.ret false (.var 0)) .nil))⟩
def f8 : Fd := ⟨"tight", [("before" : Str), ("around" : Str), ("first" : Str), ("own" : Str)], [("before" : Str), ("around" : Str)], false, false, [], (.cons (.par [2, 3] [] (.cons (.var 0) (.cons (.call 7 (.cons (.var 1) .nil)) .nil))) (.cons (.whl (.and (.cmp .ne (.var 2) (.tup .nil)) (.cmp .eq (.itv 2 (.neg (.con (.int 1)))) (.itv 3 (.neg (.con (.int 1)))))) (.cons (.par [2, 3] [] (.cons (.slc (.var 2) .none (.some (.neg (.con (.int 1))))) (.cons (.bin .add (.slc (.var 3) (.some (.neg (.con (.int 1)))) .none) (.slc (.var 3) .none (.some (.neg (.con (.int 1)))))) .nil))) .nil)) (.cons (.ret false (.tup (.cons (.var 2) (.cons (.var 3) .nil)))) .nil)))⟩
def f9 : Fd := ⟨"is_row", [("thing" : Str)], [("thing" : Str)], false, false, [[0]], (.cons (.ife (.or (.not (.call 3 (.cons (.var 0) (.cons (.con (.int 2)) .nil)))) (.or (.not (.call 6 (.cons (.itv 0 (.con (.int 0))) .nil))) (.or (.not (.call 6 (.cons (.itv 0 (.con (.int 1))) .nil))) (.cmp .eq (.itv 0 (.con (.int 1))) (.tup .nil))))) (.cons (.ret false (.con (.bl false))) .nil) .nil) (.cons (.ret false (.cmp .eq (.call 8 (.cons (.itv 0 (.con (.int 0))) (.cons (.itv 0 (.con (.int 1))) .nil))) (.var 0))) .nil))⟩
def f10 : Fd := ⟨"side_at", [("row" : Str), ("beat" : Str), ("before" : Str), ("around" : Str)], [("row" : Str), ("beat" : Str)], false, false, [], (.cons (.set (.tup [2, 3]) .val (.var 0)) (.cons (.ret false (.ite (.cmp .lt (.var 1) (.lnv 2)) (.itv 2 (.var 1)) (.itv 3 (.bin .mod (.bin .sub (.var 1) (.lnv 2)) (.lnv 3))))) .nil))⟩
def f11 : Fd := ⟨"moved", [("row" : Str), ("beats" : Str), ("turn" : Str), ("before" : Str), ("around" : Str)], [("row" : Str), ("beats" : Str)], false, false, [], (.cons (.set (.tup [3, 4]) .val (.var 0)) (.cons (.ife (.cmp .le (.var 1) (.lnv 3)) (.cons (.ret false (.tup (.cons (.slc (.var 3) (.some (.var 1)) .none) (.cons (.var 4) .nil)))) .nil) .nil) (.cons (.set (.name 2) .val (.bin .mod (.bin .sub (.var 1) (.lnv 3)) (.lnv 4))) (.cons (.ret false (.tup (.cons (.tup .nil) (.cons (.bin .add (.slc (.var 4) (.some (.var 2)) .none) (.slc (.var 4) .none (.some (.var 2)))) .nil)))) .nil))))⟩
def f12 : Fd := ⟨"first_unlike", [("row" : Str), ("other" : Str), ("beat" : Str)], [("row" : Str), ("other" : Str)], false, false, [], (.cons (.ife (.cmp .eq (.var 0) (.var 1)) (.cons (.ret false (.con .non)) .nil) .nil) (.cons (.set (.name 2) .val (.con (.int 0))) (.cons (.whl (.cmp .eq (.call 10 (.cons (.var 0) (.cons (.var 2) .nil))) (.call 10 (.cons (.var 1) (.cons (.var 2) .nil)))) (.cons (.set (.name 2) .val (.bin .add (.var 2) (.con (.int 1)))) .nil)) (.cons (.ret false (.var 2)) .nil))))⟩
def f13 : Fd := ⟨"is_around", [("thing" : Str)], [("thing" : Str)], false, false, [], (.cons (.ife (.or (.not (.call 6 (.cons (.var 0) .nil))) (.or (.cmp .eq (.var 0) (.tup .nil)) (.cmp .ne (.itv 0 (.neg (.con (.int 1)))) (.glo "CUT")))) (.cons (.ret false (.con (.bl false))) .nil) .nil) (.cons (.ret false (.and (.cmp .nin (.glo "CUT") (.slc (.var 0) .none (.some (.neg (.con (.int 1)))))) (.or (.cmp .eq (.lnv 0) (.con (.int 1))) (.cmp .eq (.itv 0 (.con (.int 0))) (.glo "FAR"))))) .nil))⟩
def f14 : Fd := ⟨"sure_row", [("thing" : Str), ("row" : Str)], [("thing" : Str)], false, false, [], (.cons (.set (.name 1) .val (.call 4 (.cons (.var 0) .nil))) (.cons (.ife (.not (.call 9 (.cons (.var 1) .nil))) (.cons .nev .nil) .nil) (.cons (.ret false (.var 1)) .nil)))⟩
def f15 : Fd := ⟨"row_of", [("before" : Str), ("around" : Str), ("first" : Str), ("own" : Str)], [("before" : Str), ("around" : Str)], false, false, [[1, 0]], (.cons (.par [2, 3] [] (.cons (.call 4 (.cons (.var 0) .nil)) (.cons (.call 4 (.cons (.var 1) .nil)) .nil))) (.cons (.ife (.or (.not (.call 6 (.cons (.var 2) .nil))) (.or (.not (.call 6 (.cons (.var 3) .nil))) (.cmp .eq (.var 3) (.tup .nil)))) (.cons .nev .nil) .nil) (.cons (.ret false (.call 8 (.cons (.var 2) (.cons (.var 3) .nil)))) .nil)))⟩
def f16 : Fd := ⟨"sign_at", [("row" : Str), ("beat" : Str), ("own" : Str)], [("row" : Str), ("beat" : Str)], false, false, [[1, 0]], (.cons (.set (.name 2) .val (.call 14 (.cons (.var 0) .nil))) (.cons (.ife (.not (.call 1 (.cons (.var 1) (.cons (.con (.int 0)) .nil)))) (.cons .nev .nil) .nil) (.cons (.ret false (.call 10 (.cons (.var 2) (.cons (.var 1) .nil)))) .nil)))⟩
def f17 : Fd := ⟨"later", [("row" : Str), ("beats" : Str), ("own" : Str)], [("row" : Str), ("beats" : Str)], false, false, [[1, 0]], (.cons (.set (.name 2) .val (.call 14 (.cons (.var 0) .nil))) (.cons (.ife (.not (.call 1 (.cons (.var 1) (.cons (.con (.int 0)) .nil)))) (.cons .nev .nil) .nil) (.cons (.ret false (.call 11 (.cons (.var 2) (.cons (.var 1) .nil)))) .nil)))⟩
def f18 : Fd := ⟨"unlike_at", [("row" : Str), ("other" : Str)], [("row" : Str), ("other" : Str)], false, false, [[1, 0]], (.cons (.ret false (.call 12 (.cons (.call 14 (.cons (.var 0) .nil)) (.cons (.call 14 (.cons (.var 1) .nil)) .nil)))) .nil)⟩
def f19 : Fd := ⟨"is_round_row", [("thing" : Str)], [("thing" : Str)], false, false, [[0]], (.cons (.ret false (.call 13 (.cons (.var 0) .nil))) .nil)⟩
def f20 : Fd := ⟨"_law_box", [("script" : Str), ("k" : Str), ("bit_so" : Str)], [("script" : Str), ("k" : Str)], false, true, [], (.cons (.set (.name 2) .val (.ite (.cmp .lt (.var 1) (.lnv 0)) (.itv 0 (.var 1)) (.con (.int 0)))) (.cons (.ret false (.lst (.cons (.bin .mul (.bi .abs (.cons (.var 2) .nil)) (.bi .int (.cons (.cmp .ge (.bi .abs (.cons (.var 2) .nil)) (.bin .pow (.con (.int 10)) (.con (.int 18)))) .nil))) (.cons (.bin .add (.bin .add (.bin .mod (.bi .int (.cons (.var 2) .nil)) (.con (.int 2305843009213693951))) (.bin .mul (.con (.int 39373)) (.var 1))) (.con (.int 6073003))) (.cons (.con (.int 0)) .nil))))) .nil))⟩
def f21 : Fd := ⟨"_law_take", [("tin" : Str), ("below_so" : Str), ("once_so" : Str), ("wide_so" : Str), ("twice_so" : Str), ("drawn_so" : Str)], [("tin" : Str), ("below_so" : Str)], true, false, [], (.cons (.ife (.cmp .gt (.itv 0 (.con (.int 0))) (.con (.int 0))) (.cons (.set (.name 5) .val (.bin .mod (.bi .int (.cons (.itv 0 (.con (.int 0))) .nil)) (.var 1))) (.cons (.setI 0 .val (.con (.int 0)) (.bin .fdiv (.itv 0 (.con (.int 0))) (.var 1))) (.cons (.ret false (.var 5)) .nil))) .nil) (.cons (.setI 0 .val (.con (.int 2)) (.bin .add (.itv 0 (.con (.int 2))) (.con (.int 1)))) (.cons (.set (.name 2) .val (.bin .mod (.bi .int (.cons (.bin .mul (.bin .add (.itv 0 (.con (.int 1))) (.bin .mul (.con (.int 48271)) (.itv 0 (.con (.int 2))))) (.bin .add (.con (.int 39373)) (.itv 0 (.con (.int 2))))) .nil)) (.con (.int 2147483647)))) (.cons (.set (.name 3) .val (.bin .add (.bin .mod (.bi .int (.cons (.var 2) .nil)) (.con (.int 40009))) (.con (.int 7)))) (.cons (.set (.name 4) .val (.bin .mod (.bi .int (.cons (.bin .mul (.bin .add (.bin .add (.var 2) (.itv 0 (.con (.int 2)))) (.bin .fdiv (.itv 0 (.con (.int 1))) (.con (.int 1000003)))) (.var 3)) .nil)) (.con (.int 2147483629)))) (.cons (.ret false (.bin .mod (.bi .int (.cons (.bin .fdiv (.bin .mod (.bi .int (.cons (.bin .add (.bin .mul (.var 4) (.con (.int 48271))) (.var 2)) .nil)) (.con (.int 2147483587))) (.con (.int 64))) .nil)) (.var 1))) .nil))))))⟩
def f22 : Fd := ⟨"_law_cells", [("script" : Str), ("most_so" : Str), ("cells_so" : Str), ("k" : Str), ("bit_so" : Str), ("at_so" : Str)], [("script" : Str), ("most_so" : Str)], false, false, [], (.cons (.set (.name 2) .frsh (.or (.bi .lst (.cons (.slc (.var 0) .none (.some (.var 1))) .nil)) (.lst (.cons (.con (.int 0)) .nil)))) (.cons (.fr (.tup [3, 4]) (.enu (.slc (.var 0) (.some (.var 1)) (.some (.con (.int 63))))) (.cons (.set (.name 5) .val (.bin .mod (.bi .int (.cons (.var 3) .nil)) (.var 1))) (.cons (.setI 2 .val (.var 5) (.bin .add (.itv 2 (.var 5)) (.bin .mul (.var 4) (.bin .add (.var 3) (.con (.int 2)))))) .nil))) (.cons (.ret false (.var 2)) .nil)))⟩
def f23 : Fd := ⟨"_law_lists", [("matter" : Str), ("bit" : Str)], [("matter" : Str)], false, false, [], (.cons (.ret false (.ite (.isi (.var 0) [.lst, .tup]) (.comp [1] (.call 23 (.cons (.var 1) .nil)) (.name 1) (.seq (.var 0)) .nil) (.var 0))) .nil)⟩
def f24 : Fd := ⟨"_law_same", [("got" : Str), ("due" : Str), ("mine" : Str), ("its" : Str)], [("got" : Str), ("due" : Str)], false, false, [], (.cons (.ife (.isi (.var 1) [.lst, .tup]) (.cons (.ife (.or (.cmp .ne (.isi (.var 0) [.lst]) (.isi (.var 1) [.lst])) (.cmp .ne (.isi (.var 0) [.tup]) (.isi (.var 1) [.tup]))) (.cons (.ret false (.con (.bl false))) .nil) .nil) (.cons (.ret false (.and (.cmp .eq (.lnv 0) (.lnv 1)) (.bi .all (.cons (.comp [2, 3] (.call 24 (.cons (.var 2) (.cons (.var 3) .nil))) (.tup [2, 3]) (.zip (.var 0) (.var 1)) .nil) .nil)))) .nil)) .nil) (.cons (.ife (.cmp .is (.var 1) (.con .non)) (.cons (.ret false (.cmp .is (.var 0) (.con .non))) .nil) .nil) (.cons (.ife (.isi (.var 1) [.bool, .str]) (.cons (.ret false (.and (.cmp .eq (.isi (.var 0) [.bool]) (.isi (.var 1) [.bool])) (.and (.cmp .eq (.isi (.var 0) [.str]) (.isi (.var 1) [.str])) (.cmp .eq (.var 0) (.var 1))))) .nil) .nil) (.cons (.ret false (.and (.isi (.var 0) [.int]) (.and (.not (.isi (.var 0) [.bool])) (.cmp .eq (.var 0) (.var 1))))) .nil))))⟩
def f25 : Fd := ⟨"_law_tight", [("before" : Str), ("around" : Str), ("many" : Str), ("one" : Str), ("two" : Str)], [("before" : Str), ("around" : Str)], false, false, [], (.cons (.set (.name 2) .val (.con (.int 1))) (.cons (.whl (.or (.cmp .ne (.bin .mul (.slc (.var 1) .none (.some (.var 2))) (.bin .fdiv (.lnv 1) (.var 2))) (.var 1)) (.cmp .ne (.bin .mod (.lnv 1) (.var 2)) (.con (.int 0)))) (.cons (.set (.name 2) .val (.bin .add (.var 2) (.con (.int 1)))) .nil)) (.cons (.par [3, 4] [] (.cons (.bi .tup (.cons (.var 0) .nil)) (.cons (.bi .tup (.cons (.slc (.var 1) .none (.some (.var 2))) .nil)) .nil))) (.cons (.whl (.and (.cmp .ne (.var 3) (.tup .nil)) (.cmp .eq (.itv 3 (.neg (.con (.int 1)))) (.itv 4 (.neg (.con (.int 1)))))) (.cons (.par [3, 4] [] (.cons (.slc (.var 3) .none (.some (.neg (.con (.int 1))))) (.cons (.bin .add (.slc (.var 4) (.some (.neg (.con (.int 1)))) .none) (.slc (.var 4) .none (.some (.neg (.con (.int 1)))))) .nil))) .nil)) (.cons (.ret false (.tup (.cons (.var 3) (.cons (.var 4) .nil)))) .nil)))))⟩
def f26 : Fd := ⟨"_law_twos", [("one" : Str), ("two" : Str), ("found" : Str), ("own" : Str), ("its" : Str)], [("one" : Str), ("two" : Str)], false, false, [], (.cons (.set (.name 2) .frsh (.lst .nil)) (.cons (.fr (.name 3) (.seq (.var 0)) (.cons (.ext 2 (.comp [4] (.tup (.cons (.var 3) (.cons (.var 4) .nil))) (.name 4) (.seq (.var 1)) .nil)) .nil)) (.cons (.ret false (.var 2)) .nil)))⟩
def f27 : Fd := ⟨"_law_at", [("row_so" : Str), ("beat_so" : Str)], [("row_so" : Str), ("beat_so" : Str)], false, false, [], (.cons (.ret false (.ite (.cmp .lt (.var 1) (.bi .len (.cons (.itv 0 (.con (.int 0))) .nil))) (.itm (.itv 0 (.con (.int 0))) (.var 1)) (.itm (.itv 0 (.con (.int 1))) (.bin .mod (.bin .sub (.var 1) (.bi .len (.cons (.itv 0 (.con (.int 0))) .nil))) (.bi .len (.cons (.itv 0 (.con (.int 1))) .nil)))))) .nil)⟩
def f28 : Fd := ⟨"_law_from_on", [("row_so" : Str), ("beat_so" : Str), ("long_so" : Str), ("at_so" : Str), ("sides_so" : Str), ("k" : Str)], [("row_so" : Str), ("beat_so" : Str)], false, false, [], (.cons (.set (.name 2) .val (.bin .add (.bi .len (.cons (.itv 0 (.con (.int 0))) .nil)) (.bi .len (.cons (.itv 0 (.con (.int 1))) .nil)))) (.cons (.set (.name 3) .val (.ite (.cmp .lt (.var 1) (.var 2)) (.var 1) (.bin .add (.bi .len (.cons (.itv 0 (.con (.int 0))) .nil)) (.bin .mod (.bin .sub (.var 1) (.bi .len (.cons (.itv 0 (.con (.int 0))) .nil))) (.bi .len (.cons (.itv 0 (.con (.int 1))) .nil)))))) (.cons (.set (.name 4) .val (.bi .tup (.cons (.comp [5] (.call 27 (.cons (.var 0) (.cons (.bin .add (.var 3) (.var 5)) .nil))) (.name 5) (.r1 (.bin .mul (.con (.int 2)) (.var 2))) .nil) .nil))) (.cons (.ret false (.call 25 (.cons (.slc (.var 4) .none (.some (.var 2))) (.cons (.slc (.var 4) (.some (.var 2)) (.some (.bin .add (.var 2) (.bi .len (.cons (.itv 0 (.con (.int 1))) .nil))))) .nil)))) .nil))))⟩
def f29 : Fd := ⟨"_law_drawn", [("tin" : Str), ("most_so" : Str), ("kinds_so" : Str), ("lap" : Str)], [("tin" : Str), ("most_so" : Str), ("kinds_so" : Str)], true, false, [], (.cons (.ret false (.bi .tup (.cons (.comp [3] (.calll 21 0 (.cons (.var 2) .nil)) (.name 3) (.r1 (.var 1)) .nil) .nil))) .nil)⟩
def f30 : Fd := ⟨"_law_row_right", [("tin" : Str), ("before" : Str), ("around" : Str), ("row_so" : Str), ("got" : Str), ("beat_so" : Str), ("at_so" : Str), ("on_so" : Str)], [("tin" : Str), ("before" : Str), ("around" : Str)], true, false, [], (.cons (.set (.name 3) .val (.call 25 (.cons (.var 1) (.cons (.var 2) .nil)))) (.cons (.set (.name 4) .val (.lst (.cons (.call 15 (.cons (.var 1) (.cons (.var 2) .nil))) (.cons (.callk 15 [1, 0] (.cons (.call 23 (.cons (.var 2) .nil)) (.cons (.call 23 (.cons (.var 1) .nil)) .nil))) (.cons (.call 9 (.cons (.var 3) .nil)) (.cons (.call 9 (.cons (.tup (.cons (.var 1) (.cons (.var 2) .nil))) .nil)) (.cons (.call 9 (.cons (.bi .lst (.cons (.var 3) .nil)) .nil)) .nil))))))) (.cons (.ife (.not (.call 24 (.cons (.var 4) (.cons (.lst (.cons (.var 3) (.cons (.var 3) (.cons (.con (.bl true)) (.cons (.cmp .eq (.tup (.cons (.var 1) (.cons (.var 2) .nil))) (.var 3)) (.cons (.con (.bl false)) .nil)))))) .nil)))) (.cons (.ret false (.con (.bl false))) .nil) .nil) (.cons (.fr (.name 5) (.seq (.tup (.cons (.con (.int 0)) (.cons (.calll 21 0 (.cons (.con (.int 20)) .nil)) (.cons (.calll 21 0 (.cons (.con (.int 60)) .nil)) (.cons (.bin .pow (.con (.int 10)) (.con (.int 30))) .nil)))))) (.cons (.set (.name 4) .val (.lst (.cons (.call 16 (.cons (.var 3) (.cons (.var 5) .nil))) (.cons (.callk 16 [1, 0] (.cons (.var 5) (.cons (.call 23 (.cons (.var 3) .nil)) .nil))) (.cons (.call 17 (.cons (.var 3) (.cons (.var 5) .nil))) (.cons (.callk 17 [1, 0] (.cons (.var 5) (.cons (.var 3) .nil))) .nil)))))) (.cons (.par [6, 7] [] (.cons (.call 27 (.cons (.var 3) (.cons (.var 5) .nil))) (.cons (.call 28 (.cons (.var 3) (.cons (.var 5) .nil))) .nil))) (.cons (.ife (.not (.call 24 (.cons (.var 4) (.cons (.lst (.cons (.var 6) (.cons (.var 6) (.cons (.var 7) (.cons (.var 7) .nil))))) .nil)))) (.cons (.ret false (.con (.bl false))) .nil) .nil) .nil)))) (.cons (.ret false (.con (.bl true))) .nil)))))⟩
def f31 : Fd := ⟨"_law_two_right", [("one" : Str), ("two" : Str), ("found" : Str), ("due" : Str), ("k" : Str)], [("one" : Str), ("two" : Str)], false, false, [], (.cons (.set (.name 2) .val (.comp [4] (.var 4) (.name 4) (.r1 (.con (.int 130))) (.cons (.cmp .ne (.call 27 (.cons (.var 0) (.cons (.var 4) .nil))) (.call 27 (.cons (.var 1) (.cons (.var 4) .nil)))) .nil))) (.cons (.set (.name 3) .val (.ite (.cmp .ne (.var 2) (.lst .nil)) (.itv 2 (.con (.int 0))) (.con .non))) (.cons (.ret false (.call 24 (.cons (.lst (.cons (.call 18 (.cons (.var 0) (.cons (.var 1) .nil))) (.cons (.callk 18 [1, 0] (.cons (.var 0) (.cons (.call 23 (.cons (.var 1) .nil)) .nil))) (.cons (.call 18 (.cons (.var 0) (.cons (.var 0) .nil))) .nil)))) (.cons (.lst (.cons (.var 3) (.cons (.var 3) (.cons (.con .non) .nil)))) .nil)))) .nil)))⟩
def f32 : Fd := ⟨"_law_things_right", [("tin" : Str), ("goods_so" : Str), ("due" : Str), ("rows_so" : Str), ("told_so" : Str), ("got" : Str), ("own" : Str)], [("tin" : Str)], false, false, [], (.cons (.set (.name 1) .val (.lst (.cons (.tup (.cons (.tup .nil) (.cons (.tup (.cons (.con (.int 2)) .nil)) .nil))) (.cons (.tup (.cons (.tup .nil) (.cons (.tup .nil) .nil))) (.cons (.tup (.cons (.tup (.cons (.con (.int 0)) .nil)) (.cons (.tup (.cons (.con (.int 0)) .nil)) .nil))) (.cons (.tup (.cons (.tup (.cons (.con (.int 1)) .nil)) (.cons (.tup (.cons (.con (.int 0)) (.cons (.con (.int 1)) .nil))) .nil))) (.cons (.tup (.cons (.tup (.cons (.con (.int 1)) .nil)) (.cons (.tup (.cons (.con (.int 1)) (.cons (.con (.int 0)) .nil))) .nil))) (.cons (.tup (.cons (.tup .nil) (.cons (.tup (.cons (.con (.int 0)) (.cons (.con (.int 1)) (.cons (.con (.int 0)) (.cons (.con (.int 1)) .nil))))) .nil))) (.cons (.tup (.cons (.tup (.cons (.con (.int 3)) .nil)) (.cons (.tup (.cons (.con (.int 0)) .nil)) .nil))) (.cons (.tup (.cons (.tup .nil) (.cons (.tup (.cons (.con (.bl true)) .nil)) .nil))) (.cons (.tup (.cons (.tup .nil) .nil)) (.cons (.con .non) (.cons (.con (.int 3)) (.cons (.con (.str "01")) .nil)))))))))))))) (.cons (.set (.name 1) .val (.bin .add (.var 1) (.lst (.cons (.tup (.cons (.bin .mul (.tup (.cons (.con (.int 0)) .nil)) (.con (.int 60))) (.cons (.tup (.cons (.con (.int 1)) .nil)) .nil))) (.cons (.tup (.cons (.bin .mul (.tup (.cons (.con (.int 0)) .nil)) (.con (.int 61))) (.cons (.tup (.cons (.con (.int 1)) .nil)) .nil))) (.cons (.tup (.cons (.tup .nil) (.cons (.bin .add (.bin .mul (.tup (.cons (.con (.int 0)) .nil)) (.con (.int 59))) (.tup (.cons (.con (.int 1)) .nil))) .nil))) (.cons (.tup (.cons (.tup .nil) (.cons (.bin .add (.bin .mul (.tup (.cons (.con (.int 0)) .nil)) (.con (.int 60))) (.tup (.cons (.con (.int 1)) .nil))) .nil))) (.cons (.lst (.cons (.tup .nil) (.cons (.tup (.cons (.con (.int 1)) .nil)) .nil))) (.cons (.tup (.cons (.tup .nil) (.cons (.lst (.cons (.con (.int 1)) .nil)) .nil))) .nil))))))))) (.cons (.set (.name 2) .val (.lst (.cons (.con (.bl true)) (.cons (.con (.bl false)) (.cons (.con (.bl false)) (.cons (.con (.bl false)) (.cons (.con (.bl true)) (.cons (.con (.bl false)) (.cons (.con (.bl false)) (.cons (.con (.bl false)) (.cons (.con (.bl false)) (.cons (.con (.bl false)) (.cons (.con (.bl false)) (.cons (.con (.bl false)) (.cons (.con (.bl true)) (.cons (.con (.bl false)) (.cons (.con (.bl true)) (.cons (.con (.bl false)) (.cons (.con (.bl false)) (.cons (.con (.bl false)) .nil)))))))))))))))))))) (.cons (.set (.name 3) .val (.lst (.cons (.tup (.cons (.con (.int 2)) .nil)) (.cons (.tup (.cons (.con (.int 1)) (.cons (.con (.int 2)) .nil))) (.cons (.tup (.cons (.con (.int 0)) (.cons (.con (.int 2)) .nil))) (.cons (.tup (.cons (.con (.int 1)) (.cons (.con (.int 2)) (.cons (.con (.int 2)) .nil)))) (.cons (.tup (.cons (.con (.int 1)) .nil)) (.cons (.tup .nil) (.cons (.tup (.cons (.con (.int 1)) (.cons (.con (.int 0)) (.cons (.con (.int 2)) .nil)))) (.cons (.lst (.cons (.con (.int 1)) (.cons (.con (.int 2)) .nil))) (.cons (.bin .add (.bin .mul (.tup (.cons (.con (.int 1)) .nil)) (.con (.int 59))) (.tup (.cons (.con (.int 2)) .nil))) (.cons (.bin .add (.bin .mul (.tup (.cons (.con (.int 1)) .nil)) (.con (.int 60))) (.tup (.cons (.con (.int 2)) .nil))) (.cons (.tup (.cons (.con (.bl true)) (.cons (.con (.int 2)) .nil))) (.cons (.con .non) (.cons (.tup (.cons (.con (.int 2)) (.cons (.con (.int 2)) .nil))) .nil))))))))))))))) (.cons (.set (.name 4) .val (.lst (.cons (.con (.bl true)) (.cons (.con (.bl true)) (.cons (.con (.bl false)) (.cons (.con (.bl false)) (.cons (.con (.bl false)) (.cons (.con (.bl false)) (.cons (.con (.bl true)) (.cons (.con (.bl false)) (.cons (.con (.bl true)) (.cons (.con (.bl false)) (.cons (.con (.bl false)) (.cons (.con (.bl false)) (.cons (.con (.bl false)) .nil))))))))))))))) (.cons (.set (.name 5) .val (.bin .add (.comp [6] (.call 9 (.cons (.var 6) .nil)) (.name 6) (.seq (.var 1)) .nil) (.comp [6] (.call 19 (.cons (.var 6) .nil)) (.name 6) (.seq (.var 3)) .nil))) (.cons (.ret false (.call 24 (.cons (.bin .add (.var 5) (.lst (.cons (.callk 9 [0] (.cons (.tup (.cons (.tup .nil) (.cons (.tup (.cons (.con (.int 0)) .nil)) .nil))) .nil)) (.cons (.callk 19 [0] (.cons (.tup (.cons (.con (.int 1)) (.cons (.con (.int 1)) (.cons (.con (.int 2)) .nil)))) .nil)) .nil)))) (.cons (.bin .add (.bin .add (.var 2) (.var 4)) (.lst (.cons (.con (.bl true)) (.cons (.con (.bl true)) .nil)))) .nil)))) .nil)))))))⟩
def f33 : Fd := ⟨"law", [("script" : Str), ("tin" : Str), ("rows_so" : Str), ("lap" : Str), ("long_so" : Str), ("pairs_so" : Str), ("around" : Str), ("before" : Str), ("one" : Str), ("two" : Str)], [("script" : Str)], false, false, [], (.cons (.set (.name 1) .frsh (.call 20 (.cons (.call 22 (.cons (.var 0) (.cons (.con (.int 1)) .nil))) (.cons (.con (.int 0)) .nil)))) (.cons (.set (.name 2) .frsh (.lst .nil)) (.cons (.fr (.name 3) (.r1 (.con (.int 4))) (.cons (.par [7, 6] [] (.cons (.calll 29 1 (.cons (.calll 21 1 (.cons (.con (.int 6)) .nil)) (.cons (.bin .add (.con (.int 2)) (.calll 21 1 (.cons (.con (.int 2)) .nil))) .nil))) (.cons (.calll 29 1 (.cons (.bin .add (.con (.int 1)) (.calll 21 1 (.cons (.con (.int 6)) .nil))) (.cons (.bin .add (.con (.int 2)) (.calll 21 1 (.cons (.con (.int 2)) .nil))) .nil))) .nil))) (.cons (.set (.name 6) .val (.bin .mul (.var 6) (.bin .add (.con (.int 1)) (.calll 21 1 (.cons (.con (.int 2)) .nil))))) (.cons (.ife (.not (.calll 30 1 (.cons (.var 7) (.cons (.var 6) .nil)))) (.cons (.ret false (.con (.bl false))) .nil) .nil) (.cons (.app 2 (.call 25 (.cons (.var 7) (.cons (.var 6) .nil)))) .nil))))) (.cons (.set (.name 4) .val (.call 25 (.cons (.calll 29 1 (.cons (.con (.int 60)) (.cons (.con (.int 3)) .nil))) (.cons (.calll 29 1 (.cons (.con (.int 60)) (.cons (.con (.int 3)) .nil))) .nil)))) (.cons (.ife (.not (.call 24 (.cons (.call 15 (.cons (.itv 4 (.con (.int 0))) (.cons (.itv 4 (.con (.int 1))) .nil))) (.cons (.var 4) .nil)))) (.cons (.ret false (.con (.bl false))) .nil) .nil) (.cons (.set (.name 5) .val (.call 26 (.cons (.var 2) (.cons (.var 2) .nil)))) (.cons (.ret false (.and (.bi .all (.cons (.comp [8, 9] (.call 31 (.cons (.var 8) (.cons (.var 9) .nil))) (.tup [8, 9]) (.seq (.var 5)) .nil) .nil)) (.call 32 (.cons (.var 1) .nil)))) .nil)))))))⟩
def fns : List Fd := [f0, f1, f2, f3, f4, f5, f6, f7, f8, f9, f10, f11, f12, f13, f14, f15, f16, f17, f18, f19, f20, f21, f22, f23, f24, f25, f26, f27, f28, f29] ++ [f30, f31, f32, f33]
def vals : List (Str × Val) := [(("LONGEST" : Str), .int 60), (("FAR" : Str), .int 1), (("CUT" : Str), .int 2)]
def p : Prog := ⟨fns, vals, [("ValueError" : Str), ("abs" : Str), ("all" : Str), ("bool" : Str), ("enumerate" : Str), ("int" : Str), ("isinstance" : Str), ("len" : Str), ("list" : Str), ("range" : Str), ("str" : Str), ("tuple" : Str), ("zip" : Str)], false, 1000000000⟩
def looks : List Bool := [okFd p f0 Hd.d3.body Hd.d3.scope, okFd p f1 Hd.d4.body Hd.d4.scope, okFd p f2 Hd.d5.body Hd.d5.scope, okFd p f3 Hd.d6.body Hd.d6.scope, okFd p f4 Hd.d7.body Hd.d7.scope, okFd p f5 Hd.d9.body Hd.d9.scope, okFd p f6 Hd.d14.body Hd.d14.scope, okFd p f7 Hd.d15.body Hd.d15.scope, okFd p f8 Hd.d16.body Hd.d16.scope, okFd p f9 Hd.d17.body Hd.d17.scope, okFd p f10 Hd.d18.body Hd.d18.scope, okFd p f11 Hd.d19.body Hd.d19.scope, okFd p f12 Hd.d20.body Hd.d20.scope, okFd p f13 Hd.d21.body Hd.d21.scope, okFd p f14 Hd.d22.body Hd.d22.scope, okFd p f15 Hd.d23.body Hd.d23.scope, okFd p f16 Hd.d24.body Hd.d24.scope, okFd p f17 Hd.d25.body Hd.d25.scope, okFd p f18 Hd.d26.body Hd.d26.scope, okFd p f19 Hd.d27.body Hd.d27.scope, okFd p f20 Hd.d29.body Hd.d29.scope, okFd p f21 Hd.d30.body Hd.d30.scope, okFd p f22 Hd.d31.body Hd.d31.scope, okFd p f23 Hd.d32.body Hd.d32.scope, okFd p f24 Hd.d33.body Hd.d33.scope, okFd p f25 Hd.d34.body Hd.d34.scope, okFd p f26 Hd.d35.body Hd.d35.scope, okFd p f27 Hd.d36.body Hd.d36.scope, okFd p f28 Hd.d37.body Hd.d37.scope, okFd p f29 Hd.d38.body Hd.d38.scope, okFd p f30 Hd.d39.body Hd.d39.scope, okFd p f31 Hd.d40.body Hd.d40.scope, okFd p f32 Hd.d41.body Hd.d41.scope, okFd p f33 Hd.d42.body Hd.d42.scope]
def fnA (K : PySem.W.Frag) (f : Nat) : Option Addr := (Hd.fn[f]?).map fun d => He.fAd K d.at_
section
variable {K : PySem.W.Frag} {h : Heap} {mg : Str → Option Value}
theorem g0 (X : K.In h) (G : h.Ns mainGlobals mg) (c : He.SaysD Hd.fa Hd.fn K) : Good p (fnA K) K mg 0 f0 := good_of X G c Hd.d3 rfl (List.mem_of_getElem? (i := 0) rfl) rfl rfl rfl rfl ⟨rfl, rfl, rfl, by decide +kernel, rfl, by decide +kernel, by decide +kernel⟩ (by decide +kernel) (fun _ _ _ _ _ _ us hl => match us, hl with | [_], _ => rfl) (fun _ z => nomatch z)
theorem g1 (X : K.In h) (G : h.Ns mainGlobals mg) (c : He.SaysD Hd.fa Hd.fn K) : Good p (fnA K) K mg 1 f1 := good_of X G c Hd.d4 rfl (List.mem_of_getElem? (i := 1) rfl) rfl rfl rfl rfl ⟨rfl, rfl, rfl, by decide +kernel, rfl, by decide +kernel, by decide +kernel⟩ (by decide +kernel) (fun _ _ _ _ _ _ us hl => match us, hl with | [_, _], _ => rfl) (fun _ z => nomatch z)
theorem g2 (X : K.In h) (G : h.Ns mainGlobals mg) (c : He.SaysD Hd.fa Hd.fn K) : Good p (fnA K) K mg 2 f2 := good_of X G c Hd.d5 rfl (List.mem_of_getElem? (i := 2) rfl) rfl rfl rfl rfl ⟨rfl, rfl, rfl, by decide +kernel, rfl, by decide +kernel, by decide +kernel⟩ (by decide +kernel) (fun _ _ _ _ _ _ us hl => match us, hl with | [_, _, _], _ => rfl) (fun _ z => nomatch z)
theorem g3 (X : K.In h) (G : h.Ns mainGlobals mg) (c : He.SaysD Hd.fa Hd.fn K) : Good p (fnA K) K mg 3 f3 := good_of X G c Hd.d6 rfl (List.mem_of_getElem? (i := 3) rfl) rfl rfl rfl rfl ⟨rfl, rfl, rfl, by decide +kernel, rfl, by decide +kernel, by decide +kernel⟩ (by decide +kernel) (fun _ _ _ _ _ _ us hl => match us, hl with | [_, _], _ => rfl) (fun _ z => nomatch z)
theorem g4 (X : K.In h) (G : h.Ns mainGlobals mg) (c : He.SaysD Hd.fa Hd.fn K) : Good p (fnA K) K mg 4 f4 := good_of X G c Hd.d7 rfl (List.mem_of_getElem? (i := 4) rfl) rfl rfl rfl rfl ⟨rfl, rfl, rfl, by decide +kernel, rfl, by decide +kernel, by decide +kernel⟩ (by decide +kernel) (fun _ _ _ _ _ _ us hl => match us, hl with | [_], _ => rfl) (fun _ z => nomatch z)
theorem g5 (X : K.In h) (G : h.Ns mainGlobals mg) (c : He.SaysD Hd.fa Hd.fn K) : Good p (fnA K) K mg 5 f5 := good_of X G c Hd.d9 rfl (List.mem_of_getElem? (i := 5) rfl) rfl rfl rfl rfl ⟨rfl, rfl, rfl, by decide +kernel, rfl, by decide +kernel, by decide +kernel⟩ (by decide +kernel) (fun _ _ _ _ _ _ us hl => match us, hl with | [_], _ => rfl) (fun _ z => nomatch z)
theorem g6 (X : K.In h) (G : h.Ns mainGlobals mg) (c : He.SaysD Hd.fa Hd.fn K) : Good p (fnA K) K mg 6 f6 := good_of X G c Hd.d14 rfl (List.mem_of_getElem? (i := 6) rfl) rfl rfl rfl rfl ⟨rfl, rfl, rfl, by decide +kernel, rfl, by decide +kernel, by decide +kernel⟩ (by decide +kernel) (fun _ _ _ _ _ _ us hl => match us, hl with | [_], _ => rfl) (fun _ z => nomatch z)
theorem g7 (X : K.In h) (G : h.Ns mainGlobals mg) (c : He.SaysD Hd.fa Hd.fn K) : Good p (fnA K) K mg 7 f7 := good_of X G c Hd.d15 rfl (List.mem_of_getElem? (i := 7) rfl) rfl rfl rfl rfl ⟨rfl, rfl, rfl, by decide +kernel, rfl, by decide +kernel, by decide +kernel⟩ (by decide +kernel) (fun _ _ _ _ _ _ us hl => match us, hl with | [_], _ => rfl) (fun _ z => nomatch z)
theorem g8 (X : K.In h) (G : h.Ns mainGlobals mg) (c : He.SaysD Hd.fa Hd.fn K) : Good p (fnA K) K mg 8 f8 := good_of X G c Hd.d16 rfl (List.mem_of_getElem? (i := 8) rfl) rfl rfl rfl rfl ⟨rfl, rfl, rfl, by decide +kernel, rfl, by decide +kernel, by decide +kernel⟩ (by decide +kernel) (fun _ _ _ _ _ _ us hl => match us, hl with | [_, _], _ => rfl) (fun _ z => nomatch z)
theorem g9 (X : K.In h) (G : h.Ns mainGlobals mg) (c : He.SaysD Hd.fa Hd.fn K) : Good p (fnA K) K mg 9 f9 := good_of X G c Hd.d17 rfl (List.mem_of_getElem? (i := 9) rfl) rfl rfl rfl rfl ⟨rfl, rfl, rfl, by decide +kernel, rfl, by decide +kernel, by decide +kernel⟩ (by decide +kernel) (fun _ _ _ _ _ _ us hl => match us, hl with | [_], _ => rfl) (by intro ks hks; simp only [f9, List.mem_cons, List.not_mem_nil, or_false] at hks; rcases hks with rfl <;> exact fun _ _ _ _ _ _ ws hl => match ws, hl with | [_], _ => rfl)
theorem g10 (X : K.In h) (G : h.Ns mainGlobals mg) (c : He.SaysD Hd.fa Hd.fn K) : Good p (fnA K) K mg 10 f10 := good_of X G c Hd.d18 rfl (List.mem_of_getElem? (i := 10) rfl) rfl rfl rfl rfl ⟨rfl, rfl, rfl, by decide +kernel, rfl, by decide +kernel, by decide +kernel⟩ (by decide +kernel) (fun _ _ _ _ _ _ us hl => match us, hl with | [_, _], _ => rfl) (fun _ z => nomatch z)
theorem g11 (X : K.In h) (G : h.Ns mainGlobals mg) (c : He.SaysD Hd.fa Hd.fn K) : Good p (fnA K) K mg 11 f11 := good_of X G c Hd.d19 rfl (List.mem_of_getElem? (i := 11) rfl) rfl rfl rfl rfl ⟨rfl, rfl, rfl, by decide +kernel, rfl, by decide +kernel, by decide +kernel⟩ (by decide +kernel) (fun _ _ _ _ _ _ us hl => match us, hl with | [_, _], _ => rfl) (fun _ z => nomatch z)
theorem g12 (X : K.In h) (G : h.Ns mainGlobals mg) (c : He.SaysD Hd.fa Hd.fn K) : Good p (fnA K) K mg 12 f12 := good_of X G c Hd.d20 rfl (List.mem_of_getElem? (i := 12) rfl) rfl rfl rfl rfl ⟨rfl, rfl, rfl, by decide +kernel, rfl, by decide +kernel, by decide +kernel⟩ (by decide +kernel) (fun _ _ _ _ _ _ us hl => match us, hl with | [_, _], _ => rfl) (fun _ z => nomatch z)
theorem g13 (X : K.In h) (G : h.Ns mainGlobals mg) (c : He.SaysD Hd.fa Hd.fn K) : Good p (fnA K) K mg 13 f13 := good_of X G c Hd.d21 rfl (List.mem_of_getElem? (i := 13) rfl) rfl rfl rfl rfl ⟨rfl, rfl, rfl, by decide +kernel, rfl, by decide +kernel, by decide +kernel⟩ (by decide +kernel) (fun _ _ _ _ _ _ us hl => match us, hl with | [_], _ => rfl) (fun _ z => nomatch z)
theorem g14 (X : K.In h) (G : h.Ns mainGlobals mg) (c : He.SaysD Hd.fa Hd.fn K) : Good p (fnA K) K mg 14 f14 := good_of X G c Hd.d22 rfl (List.mem_of_getElem? (i := 14) rfl) rfl rfl rfl rfl ⟨rfl, rfl, rfl, by decide +kernel, rfl, by decide +kernel, by decide +kernel⟩ (by decide +kernel) (fun _ _ _ _ _ _ us hl => match us, hl with | [_], _ => rfl) (fun _ z => nomatch z)
theorem g15 (X : K.In h) (G : h.Ns mainGlobals mg) (c : He.SaysD Hd.fa Hd.fn K) : Good p (fnA K) K mg 15 f15 := good_of X G c Hd.d23 rfl (List.mem_of_getElem? (i := 15) rfl) rfl rfl rfl rfl ⟨rfl, rfl, rfl, by decide +kernel, rfl, by decide +kernel, by decide +kernel⟩ (by decide +kernel) (fun _ _ _ _ _ _ us hl => match us, hl with | [_, _], _ => rfl) (by intro ks hks; simp only [f15, List.mem_cons, List.not_mem_nil, or_false] at hks; rcases hks with rfl <;> exact fun _ _ _ _ _ _ ws hl => match ws, hl with | [_, _], _ => rfl)
theorem g16 (X : K.In h) (G : h.Ns mainGlobals mg) (c : He.SaysD Hd.fa Hd.fn K) : Good p (fnA K) K mg 16 f16 := good_of X G c Hd.d24 rfl (List.mem_of_getElem? (i := 16) rfl) rfl rfl rfl rfl ⟨rfl, rfl, rfl, by decide +kernel, rfl, by decide +kernel, by decide +kernel⟩ (by decide +kernel) (fun _ _ _ _ _ _ us hl => match us, hl with | [_, _], _ => rfl) (by intro ks hks; simp only [f16, List.mem_cons, List.not_mem_nil, or_false] at hks; rcases hks with rfl <;> exact fun _ _ _ _ _ _ ws hl => match ws, hl with | [_, _], _ => rfl)
theorem g17 (X : K.In h) (G : h.Ns mainGlobals mg) (c : He.SaysD Hd.fa Hd.fn K) : Good p (fnA K) K mg 17 f17 := good_of X G c Hd.d25 rfl (List.mem_of_getElem? (i := 17) rfl) rfl rfl rfl rfl ⟨rfl, rfl, rfl, by decide +kernel, rfl, by decide +kernel, by decide +kernel⟩ (by decide +kernel) (fun _ _ _ _ _ _ us hl => match us, hl with | [_, _], _ => rfl) (by intro ks hks; simp only [f17, List.mem_cons, List.not_mem_nil, or_false] at hks; rcases hks with rfl <;> exact fun _ _ _ _ _ _ ws hl => match ws, hl with | [_, _], _ => rfl)
theorem g18 (X : K.In h) (G : h.Ns mainGlobals mg) (c : He.SaysD Hd.fa Hd.fn K) : Good p (fnA K) K mg 18 f18 := good_of X G c Hd.d26 rfl (List.mem_of_getElem? (i := 18) rfl) rfl rfl rfl rfl ⟨rfl, rfl, rfl, by decide +kernel, rfl, by decide +kernel, by decide +kernel⟩ (by decide +kernel) (fun _ _ _ _ _ _ us hl => match us, hl with | [_, _], _ => rfl) (by intro ks hks; simp only [f18, List.mem_cons, List.not_mem_nil, or_false] at hks; rcases hks with rfl <;> exact fun _ _ _ _ _ _ ws hl => match ws, hl with | [_, _], _ => rfl)
theorem g19 (X : K.In h) (G : h.Ns mainGlobals mg) (c : He.SaysD Hd.fa Hd.fn K) : Good p (fnA K) K mg 19 f19 := good_of X G c Hd.d27 rfl (List.mem_of_getElem? (i := 19) rfl) rfl rfl rfl rfl ⟨rfl, rfl, rfl, by decide +kernel, rfl, by decide +kernel, by decide +kernel⟩ (by decide +kernel) (fun _ _ _ _ _ _ us hl => match us, hl with | [_], _ => rfl) (by intro ks hks; simp only [f19, List.mem_cons, List.not_mem_nil, or_false] at hks; rcases hks with rfl <;> exact fun _ _ _ _ _ _ ws hl => match ws, hl with | [_], _ => rfl)
theorem g20 (X : K.In h) (G : h.Ns mainGlobals mg) (c : He.SaysD Hd.fa Hd.fn K) : Good p (fnA K) K mg 20 f20 := good_of X G c Hd.d29 rfl (List.mem_of_getElem? (i := 20) rfl) rfl rfl rfl rfl ⟨rfl, rfl, rfl, by decide +kernel, rfl, by decide +kernel, by decide +kernel⟩ (by decide +kernel) (fun _ _ _ _ _ _ us hl => match us, hl with | [_, _], _ => rfl) (fun _ z => nomatch z)
theorem g21 (X : K.In h) (G : h.Ns mainGlobals mg) (c : He.SaysD Hd.fa Hd.fn K) : Good p (fnA K) K mg 21 f21 := good_of X G c Hd.d30 rfl (List.mem_of_getElem? (i := 21) rfl) rfl rfl rfl rfl ⟨rfl, rfl, rfl, by decide +kernel, rfl, by decide +kernel, by decide +kernel⟩ (by decide +kernel) (fun _ _ _ _ _ _ us hl => match us, hl with | [_, _], _ => rfl) (fun _ z => nomatch z)
theorem g22 (X : K.In h) (G : h.Ns mainGlobals mg) (c : He.SaysD Hd.fa Hd.fn K) : Good p (fnA K) K mg 22 f22 := good_of X G c Hd.d31 rfl (List.mem_of_getElem? (i := 22) rfl) rfl rfl rfl rfl ⟨rfl, rfl, rfl, by decide +kernel, rfl, by decide +kernel, by decide +kernel⟩ (by decide +kernel) (fun _ _ _ _ _ _ us hl => match us, hl with | [_, _], _ => rfl) (fun _ z => nomatch z)
theorem g23 (X : K.In h) (G : h.Ns mainGlobals mg) (c : He.SaysD Hd.fa Hd.fn K) : Good p (fnA K) K mg 23 f23 := good_of X G c Hd.d32 rfl (List.mem_of_getElem? (i := 23) rfl) rfl rfl rfl rfl ⟨rfl, rfl, rfl, by decide +kernel, rfl, by decide +kernel, by decide +kernel⟩ (by decide +kernel) (fun _ _ _ _ _ _ us hl => match us, hl with | [_], _ => rfl) (fun _ z => nomatch z)
theorem g24 (X : K.In h) (G : h.Ns mainGlobals mg) (c : He.SaysD Hd.fa Hd.fn K) : Good p (fnA K) K mg 24 f24 := good_of X G c Hd.d33 rfl (List.mem_of_getElem? (i := 24) rfl) rfl rfl rfl rfl ⟨rfl, rfl, rfl, by decide +kernel, rfl, by decide +kernel, by decide +kernel⟩ (by decide +kernel) (fun _ _ _ _ _ _ us hl => match us, hl with | [_, _], _ => rfl) (fun _ z => nomatch z)
theorem g25 (X : K.In h) (G : h.Ns mainGlobals mg) (c : He.SaysD Hd.fa Hd.fn K) : Good p (fnA K) K mg 25 f25 := good_of X G c Hd.d34 rfl (List.mem_of_getElem? (i := 25) rfl) rfl rfl rfl rfl ⟨rfl, rfl, rfl, by decide +kernel, rfl, by decide +kernel, by decide +kernel⟩ (by decide +kernel) (fun _ _ _ _ _ _ us hl => match us, hl with | [_, _], _ => rfl) (fun _ z => nomatch z)
theorem g26 (X : K.In h) (G : h.Ns mainGlobals mg) (c : He.SaysD Hd.fa Hd.fn K) : Good p (fnA K) K mg 26 f26 := good_of X G c Hd.d35 rfl (List.mem_of_getElem? (i := 26) rfl) rfl rfl rfl rfl ⟨rfl, rfl, rfl, by decide +kernel, rfl, by decide +kernel, by decide +kernel⟩ (by decide +kernel) (fun _ _ _ _ _ _ us hl => match us, hl with | [_, _], _ => rfl) (fun _ z => nomatch z)
theorem g27 (X : K.In h) (G : h.Ns mainGlobals mg) (c : He.SaysD Hd.fa Hd.fn K) : Good p (fnA K) K mg 27 f27 := good_of X G c Hd.d36 rfl (List.mem_of_getElem? (i := 27) rfl) rfl rfl rfl rfl ⟨rfl, rfl, rfl, by decide +kernel, rfl, by decide +kernel, by decide +kernel⟩ (by decide +kernel) (fun _ _ _ _ _ _ us hl => match us, hl with | [_, _], _ => rfl) (fun _ z => nomatch z)
theorem g28 (X : K.In h) (G : h.Ns mainGlobals mg) (c : He.SaysD Hd.fa Hd.fn K) : Good p (fnA K) K mg 28 f28 := good_of X G c Hd.d37 rfl (List.mem_of_getElem? (i := 28) rfl) rfl rfl rfl rfl ⟨rfl, rfl, rfl, by decide +kernel, rfl, by decide +kernel, by decide +kernel⟩ (by decide +kernel) (fun _ _ _ _ _ _ us hl => match us, hl with | [_, _], _ => rfl) (fun _ z => nomatch z)
theorem g29 (X : K.In h) (G : h.Ns mainGlobals mg) (c : He.SaysD Hd.fa Hd.fn K) : Good p (fnA K) K mg 29 f29 := good_of X G c Hd.d38 rfl (List.mem_of_getElem? (i := 29) rfl) rfl rfl rfl rfl ⟨rfl, rfl, rfl, by decide +kernel, rfl, by decide +kernel, by decide +kernel⟩ (by decide +kernel) (fun _ _ _ _ _ _ us hl => match us, hl with | [_, _, _], _ => rfl) (fun _ z => nomatch z)
theorem g30 (X : K.In h) (G : h.Ns mainGlobals mg) (c : He.SaysD Hd.fa Hd.fn K) : Good p (fnA K) K mg 30 f30 := good_of X G c Hd.d39 rfl (List.mem_of_getElem? (i := 30) rfl) rfl rfl rfl rfl ⟨rfl, rfl, rfl, by decide +kernel, rfl, by decide +kernel, by decide +kernel⟩ (by decide +kernel) (fun _ _ _ _ _ _ us hl => match us, hl with | [_, _, _], _ => rfl) (fun _ z => nomatch z)
theorem g31 (X : K.In h) (G : h.Ns mainGlobals mg) (c : He.SaysD Hd.fa Hd.fn K) : Good p (fnA K) K mg 31 f31 := good_of X G c Hd.d40 rfl (List.mem_of_getElem? (i := 31) rfl) rfl rfl rfl rfl ⟨rfl, rfl, rfl, by decide +kernel, rfl, by decide +kernel, by decide +kernel⟩ (by decide +kernel) (fun _ _ _ _ _ _ us hl => match us, hl with | [_, _], _ => rfl) (fun _ z => nomatch z)
theorem g32 (X : K.In h) (G : h.Ns mainGlobals mg) (c : He.SaysD Hd.fa Hd.fn K) : Good p (fnA K) K mg 32 f32 := good_of X G c Hd.d41 rfl (List.mem_of_getElem? (i := 32) rfl) rfl rfl rfl rfl ⟨rfl, rfl, rfl, by decide +kernel, rfl, by decide +kernel, by decide +kernel⟩ (by decide +kernel) (fun _ _ _ _ _ _ us hl => match us, hl with | [_], _ => rfl) (fun _ z => nomatch z)
theorem g33 (X : K.In h) (G : h.Ns mainGlobals mg) (c : He.SaysD Hd.fa Hd.fn K) : Good p (fnA K) K mg 33 f33 := good_of X G c Hd.d42 rfl (List.mem_of_getElem? (i := 33) rfl) rfl rfl rfl rfl ⟨rfl, rfl, rfl, by decide +kernel, rfl, by decide +kernel, by decide +kernel⟩ (by decide +kernel) (fun _ _ _ _ _ _ us hl => match us, hl with | [_], _ => rfl) (fun _ z => nomatch z)
theorem gl (X : K.In h) (G : h.Ns mainGlobals mg) (c : He.SaysD Hd.fa Hd.fn K) : GoodL p (fnA K) K mg 0 p.fns := ⟨g0 X G c, g1 X G c, g2 X G c, g3 X G c, g4 X G c, g5 X G c, g6 X G c, g7 X G c, g8 X G c, g9 X G c, g10 X G c, g11 X G c, g12 X G c, g13 X G c, g14 X G c, g15 X G c, g16 X G c, g17 X G c, g18 X G c, g19 X G c, g20 X G c, g21 X G c, g22 X G c, g23 X G c, g24 X G c, g25 X G c, g26 X G c, g27 X G c, g28 X G c, g29 X G c, g30 X G c, g31 X G c, g32 X G c, g33 X G c, trivial⟩
theorem pr (X : K.In h) (G : h.Ns mainGlobals mg) (c : He.SaysD Hd.fa Hd.fn K) : PrOk p (fnA K) K mg := pr_of X G c (gl X G c) 34 13 47 3 rfl rfl rfl
end
end Lw

set_option Elab.async false
set_option linter.all false
set_option maxRecDepth 100000
set_option maxHeartbeats 4000000
/-! k03, the mathematics: rows as short as can be. No program in sight. -/
namespace K3
def cy (o : List Int) (k : Nat) : Int := o.getD (k % o.length) 0
def isP (a : List Int) (m : Nat) : Bool := decide (a.length % m = 0) && decide ((List.replicate (a.length / m) (a.take m)).flatten = a)
theorem rep_get {w : List Int} {m : Nat} (hw : w.length = m) (hm : 0 < m) : ∀ (q k : Nat), (List.replicate q w).flatten[k]? = if k < q * m then w[k % m]? else none
  | 0, k => by simp
  | q + 1, k => by
    rw [List.replicate_succ, List.flatten_cons]
    by_cases h : k < m
    · rw [List.getElem?_append_left (by omega), Nat.mod_eq_of_lt h, if_pos (by rw [Nat.add_mul]; omega)]
    · rw [List.getElem?_append_right (by omega), rep_get hw hm q, hw]
      have e : (k - m) % m = k % m := by
        conv => rhs; rw [show k = (k - m) + m by omega]
        rw [Nat.add_mod_right]
      rw [e]
      by_cases h2 : k < (q + 1) * m
      · rw [if_pos h2, if_pos (by rw [Nat.add_mul] at h2; omega)]
      · rw [if_neg h2, if_neg (by rw [Nat.add_mul] at h2; omega)]
theorem cy_get {o : List Int} {k : Nat} (h : k < o.length) : o[k]? = some (cy o k) := by
  unfold cy
  rw [Nat.mod_eq_of_lt h, List.getD_eq_getElem?_getD, List.getElem?_eq_getElem h]
  rfl
theorem cy_mod {o : List Int} (k : Nat) : cy o (k % o.length) = cy o k := by unfold cy; rw [Nat.mod_mod]
theorem cy_len {o : List Int} (k : Nat) : cy o (k + o.length) = cy o k := by unfold cy; rw [Nat.add_mod_right]
theorem per_mul {g : Nat → Int} {m : Nat} (h : ∀ k, g (k + m) = g k) : ∀ i k, g (k + i * m) = g k
  | 0, k => by rw [Nat.zero_mul]; rfl
  | i + 1, k => by rw [Nat.add_mul, Nat.one_mul, ← Nat.add_assoc, h, per_mul h i]
theorem per_mod {g : Nat → Int} {m : Nat} (h : ∀ k, g (k + m) = g k) (k : Nat) : g (k % m) = g k := by
  have := per_mul h (k / m) (k % m)
  rw [Nat.mul_comm, Nat.mod_add_div] at this
  exact this.symm
theorem isP_iff {a : List Int} {m : Nat} (hm : 0 < m) (ha : a ≠ []) : isP a m = true ↔ (a.length % m = 0 ∧ ∀ k, cy a (k + m) = cy a k) := by
  unfold isP
  rw [Bool.and_eq_true, decide_eq_true_eq, decide_eq_true_eq]
  have hn : 0 < a.length := List.length_pos_iff.mpr ha
  constructor
  · rintro ⟨h1, h2⟩
    refine ⟨h1, ?_⟩
    have hle : m ≤ a.length := Nat.le_of_dvd hn (Nat.dvd_of_mod_eq_zero h1)
    have hq : a.length / m * m = a.length := Nat.div_mul_cancel (Nat.dvd_of_mod_eq_zero h1)
    have key : ∀ k, cy a k = cy a (k % m) := fun k => by
      have hk : k % a.length < a.length := Nat.mod_lt _ hn
      have e := rep_get (w := a.take m) (m := m) (by rw [List.length_take]; omega) hm (a.length / m) (k % a.length)
      rw [h2, hq, if_pos hk, Nat.mod_mod_of_dvd _ (Nat.dvd_of_mod_eq_zero h1), List.getElem?_take, if_pos (Nat.mod_lt _ hm), cy_get hk, cy_get (Nat.lt_of_lt_of_le (Nat.mod_lt _ hm) hle), cy_mod] at e
      exact Option.some.inj e
    intro k
    rw [key (k + m), key k, Nat.add_mod_right]
  · rintro ⟨h1, h2⟩
    refine ⟨h1, ?_⟩
    have hle : m ≤ a.length := Nat.le_of_dvd hn (Nat.dvd_of_mod_eq_zero h1)
    have hq : a.length / m * m = a.length := Nat.div_mul_cancel (Nat.dvd_of_mod_eq_zero h1)
    apply List.ext_getElem?
    intro k
    rw [rep_get (w := a.take m) (m := m) (by rw [List.length_take]; omega) hm, hq]
    by_cases hk : k < a.length
    · rw [if_pos hk, List.getElem?_take, if_pos (Nat.mod_lt _ hm), cy_get (Nat.lt_of_lt_of_le (Nat.mod_lt _ hm) hle), cy_get hk, per_mod h2]
    · rw [if_neg hk, List.getElem?_eq_none (by omega)]
def Prim (o : List Int) : Prop := ∀ m, 0 < m → m < o.length → isP o m = false
def per (a : List Int) : Nat := ((List.range a.length).find? fun i => isP a (i + 1)).elim a.length (· + 1)
theorem isP_len {a : List Int} (ha : a ≠ []) : isP a a.length = true := (isP_iff (List.length_pos_iff.mpr ha) ha).mpr ⟨Nat.mod_self _, cy_len⟩
theorem per_spec {a : List Int} (ha : a ≠ []) : 0 < per a ∧ per a ≤ a.length ∧ isP a (per a) = true ∧ ∀ m, 0 < m → m < per a → isP a m = false := by
  have hn : 0 < a.length := List.length_pos_iff.mpr ha
  unfold per
  cases e : (List.range a.length).find? fun i => isP a (i + 1) with
  | none =>
    refine ⟨hn, Nat.le_refl _, isP_len ha, fun m h1 h2 => ?_⟩
    have := List.find?_eq_none.mp e (m - 1) (List.mem_range.mpr (by show m - 1 < a.length; simp only [Option.elim] at h2; omega))
    rw [show m - 1 + 1 = m by omega] at this
    simpa using this
  | some i =>
    obtain ⟨h1, as, bs, hab, h2⟩ := List.find?_eq_some_iff_append.mp e
    have hi : i ∈ List.range a.length := by rw [hab]; simp
    refine ⟨Nat.succ_pos _, List.mem_range.mp hi, h1, fun m h3 h4 => ?_⟩
    simp only [Option.elim] at h4
    have hlen : as.length = i := by
      have e1 : (List.range a.length)[as.length]? = some i := by rw [hab]; simp
      rw [List.getElem?_range (by
        have := congrArg List.length hab
        rw [List.length_range, List.length_append, List.length_cons] at this
        omega)] at e1
      exact Option.some.inj e1
    have hm : m - 1 ∈ as := by
      have e1 : (List.range a.length)[m - 1]? = some (m - 1) := List.getElem?_range (by have := List.mem_range.mp hi; omega)
      rw [hab, List.getElem?_append_left (by omega)] at e1
      exact List.mem_of_getElem? e1
    have := h2 (m - 1) hm
    rw [show m - 1 + 1 = m by omega] at this
    simpa using this
theorem per_eq {a : List Int} {m : Nat} (ha : a ≠ []) (h1 : 0 < m) (h2 : isP a m = true) (h3 : ∀ j, 0 < j → j < m → isP a j = false) : per a = m := by
  obtain ⟨p1, p2, p3, p4⟩ := per_spec ha
  rcases Nat.lt_trichotomy (per a) m with h | h | h
  · rw [h3 _ p1 h] at p3; cases p3
  · exact h
  · rw [p4 _ h1 h] at h2; cases h2
theorem per_prim {o : List Int} (ho : o ≠ []) (h : Prim o) : per o = o.length := per_eq ho (List.length_pos_iff.mpr ho) (isP_len ho) h
def shR (a : List Int) : List Int := a.take (per a)
theorem shR_len {a : List Int} (ha : a ≠ []) : (shR a).length = per a := by
  unfold shR
  rw [List.length_take]
  have := (per_spec ha).2.1
  omega
theorem shR_ne {a : List Int} (ha : a ≠ []) : shR a ≠ [] := by
  intro e
  have := shR_len ha
  rw [e] at this
  have := (per_spec ha).1
  simp at *
  omega
theorem shR_cy {a : List Int} (ha : a ≠ []) (k : Nat) : cy (shR a) k = cy a k := by
  obtain ⟨p1, p2, p3, p4⟩ := per_spec ha
  have h := ((isP_iff p1 ha).mp p3).2
  have hl := shR_len ha
  rw [← cy_mod, hl, ← per_mod h k]
  have hk : k % per a < per a := Nat.mod_lt _ p1
  have e1 := cy_get (o := shR a) (k := k % per a) (by rw [hl]; exact hk)
  have e2 := cy_get (o := a) (k := k % per a) (by omega)
  unfold shR at e1
  rw [List.getElem?_take, if_pos hk, e2] at e1
  exact (Option.some.inj e1).symm
theorem shR_prim {a : List Int} (ha : a ≠ []) : Prim (shR a) := fun m h1 h2 => by
  obtain ⟨p1, p2, p3, p4⟩ := per_spec ha
  rw [shR_len ha] at h2
  cases e : isP (shR a) m with
  | false => rfl
  | true =>
    obtain ⟨e1, e2⟩ := (isP_iff h1 (shR_ne ha)).mp e
    rw [shR_len ha] at e1
    have : isP a m = true := by
      refine (isP_iff h1 ha).mpr ⟨?_, fun k => ?_⟩
      · exact Nat.mod_eq_zero_of_dvd (Nat.dvd_trans (Nat.dvd_of_mod_eq_zero e1) (Nat.dvd_of_mod_eq_zero ((isP_iff p1 ha).mp p3).1))
      · rw [← shR_cy ha, ← shR_cy ha, e2]
    rw [p4 m h1 h2] at this
    cases this
theorem shR_self {o : List Int} (ho : o ≠ []) (h : Prim o) : shR o = o := by
  unfold shR
  rw [per_prim ho h, List.take_length]
/-- a turned word -/
theorem prim_turn {o w : List Int} {c : Nat} (ho : o ≠ []) (hl : w.length = o.length) (hw : ∀ k, cy w k = cy o (c + k)) (h : Prim o) : Prim w := fun m h1 h2 => by
  have hwn : w ≠ [] := fun e => by rw [e] at hl; exact ho (List.length_eq_zero_iff.mp hl.symm)
  cases e : isP w m with
  | false => rfl
  | true =>
    obtain ⟨e1, e2⟩ := (isP_iff h1 hwn).mp e
    have hn : 0 < o.length := List.length_pos_iff.mpr ho
    have back : ∀ k, cy o k = cy w (k + (o.length * (c + 1) - c)) := fun k => by
      rw [hw]
      have hc : c ≤ o.length * (c + 1) := Nat.le_trans (Nat.le_succ c) (Nat.le_mul_of_pos_left _ hn)
      rw [show c + (k + (o.length * (c + 1) - c)) = k + (c + 1) * o.length by rw [Nat.mul_comm (c + 1)]; omega]
      exact (per_mul cy_len (c + 1) k).symm
    have : isP o m = true := by
      refine (isP_iff h1 ho).mpr ⟨by rw [← hl]; exact e1, fun k => ?_⟩
      rw [back (k + m), back k, show k + m + (o.length * (c + 1) - c) = (k + (o.length * (c + 1) - c)) + m by omega, e2]
    rw [h m h1 (by rw [← hl]; exact h2)] at this
    cases this
end K3

set_option Elab.async false
set_option linter.all false
set_option maxRecDepth 100000
set_option maxHeartbeats 4000000
/-! k03, the mathematics: tight rows, one for each run of sides. -/
namespace K3
def tlr : List Int → List Int → List Int × List Int
  | [], o => ([], o)
  | x :: r, o => if o.getLast? = some x then tlr r (x :: o.dropLast) else ((x :: r).reverse, o)
def tl (f o : List Int) : List Int × List Int := tlr f.reverse o
def sq (f o : List Int) (k : Nat) : Int := if k < f.length then f.getD k 0 else cy o (k - f.length)
structure Tight (f o : List Int) : Prop where
  ne : o ≠ []
  pr : Prim o
  last : ∀ x, f.getLast? = some x → o.getLast? ≠ some x
theorem last_cy {o : List Int} {x : Int} (h : o.getLast? = some x) : cy o (o.length - 1) = x ∧ 0 < o.length := by
  have hn : o ≠ [] := fun e => by rw [e] at h; cases h
  have hp : 0 < o.length := List.length_pos_iff.mpr hn
  rw [List.getLast?_eq_getElem?, cy_get (by omega)] at h
  exact ⟨Option.some.inj h, hp⟩
theorem last_of {o : List Int} (h : o ≠ []) : o.getLast? = some (cy o (o.length - 1)) := by
  have hp : 0 < o.length := List.length_pos_iff.mpr h
  rw [List.getLast?_eq_getElem?, cy_get (by omega)]
theorem turn_len {o : List Int} {x : Int} (h : o.getLast? = some x) : (x :: o.dropLast).length = o.length := by
  have := (last_cy h).2
  rw [List.length_cons, List.length_dropLast]
  omega
theorem turn_cy {o : List Int} {x : Int} (h : o.getLast? = some x) (k : Nat) : cy (x :: o.dropLast) k = cy o (o.length - 1 + k) := by
  obtain ⟨h1, h2⟩ := last_cy h
  have hl := turn_len h
  rw [← cy_mod, hl]
  have hk : k % o.length < o.length := Nat.mod_lt _ h2
  have e1 := cy_get (o := x :: o.dropLast) (k := k % o.length) (by rw [hl]; exact hk)
  have e2 : cy o (o.length - 1 + k) = cy o (o.length - 1 + k % o.length) := by
    rw [← cy_mod, ← cy_mod (o.length - 1 + k % o.length), Nat.add_mod_mod]
  rw [e2]
  cases hj : k % o.length with
  | zero =>
    rw [hj] at e1
    simp only [List.getElem?_cons_zero, Option.some.injEq] at e1
    rw [← e1, Nat.add_zero, h1]
  | succ j =>
    rw [hj] at e1 hk
    rw [List.getElem?_cons_succ, List.getElem?_dropLast, if_pos (by omega), cy_get (by omega)] at e1
    rw [← Option.some.inj e1, show o.length - 1 + (j + 1) = j + o.length by omega, cy_len]
theorem sq_app {f o : List Int} {x : Int} {o' : List Int} (h0 : cy o' 0 = x) (h : ∀ k, cy o' (k + 1) = cy o k) (k : Nat) : sq f o' k = sq (f ++ [x]) o k := by
  unfold sq
  rw [List.length_append, List.length_singleton]
  by_cases h1 : k < f.length
  · rw [if_pos h1, if_pos (by omega), List.getD_eq_getElem?_getD, List.getD_eq_getElem?_getD, List.getElem?_append_left h1]
  · rw [if_neg h1]
    by_cases h2 : k = f.length
    · subst h2
      rw [if_pos (by omega), Nat.sub_self, h0]
      simp
    · rw [if_neg (by omega), ← h, show k - (f.length + 1) + 1 = k - f.length by omega]
theorem tlr_spec : ∀ (r o : List Int), o ≠ [] → Prim o → Tight (tlr r o).1 (tlr r o).2 ∧ (tlr r o).2.length = o.length ∧ (tlr r o).1.length ≤ r.length ∧ (∀ k, sq (tlr r o).1 (tlr r o).2 k = sq r.reverse o k) ∧ (∀ x, x ∈ (tlr r o).1 ∨ x ∈ (tlr r o).2 → x ∈ r ∨ x ∈ o)
  | [], o, ho, hp => ⟨⟨ho, hp, fun x h => by cases h⟩, rfl, Nat.le_refl _, fun _ => rfl, fun x h => h⟩
  | x :: r, o, ho, hp => by
    unfold tlr
    by_cases h : o.getLast? = some x
    · rw [if_pos h]
      have hl := turn_len h
      have hn : 0 < o.length := List.length_pos_iff.mpr ho
      obtain ⟨a, b, c, d, e⟩ := tlr_spec r (x :: o.dropLast) (by simp) (prim_turn ho hl (turn_cy h) hp)
      refine ⟨a, b.trans hl, Nat.le_trans c (by simp), fun k => ?_, fun y hy => ?_⟩
      · rw [d, List.reverse_cons]
        refine sq_app ?_ (fun j => ?_) k
        · rw [turn_cy h, Nat.add_zero]; exact (last_cy h).1
        · rw [turn_cy h, show o.length - 1 + (j + 1) = j + o.length by omega, cy_len]
      · rcases e y hy with z | z
        · exact .inl (List.mem_cons_of_mem _ z)
        · rcases List.mem_cons.mp z with z | z
          · exact .inl (by rw [z]; exact List.mem_cons_self)
          · exact .inr ((List.dropLast_sublist _).subset z)
    · rw [if_neg h]
      refine ⟨⟨ho, hp, fun y hy => ?_⟩, rfl, by simp, fun _ => rfl, fun y hy => ?_⟩
      · rw [List.reverse_cons, List.getLast?_append] at hy
        simp at hy
        rw [← hy]; exact h
      · rcases hy with z | z
        · exact .inl (List.mem_reverse.mp z)
        · exact .inr z
theorem tl_tight {f o : List Int} (T : Tight f o) : tl f o = (f, o) := by
  unfold tl
  cases e : f.reverse with
  | nil =>
    have : f = [] := by simpa using e
    rw [this]; rfl
  | cons x r =>
    unfold tlr
    have hf : f = r.reverse ++ [x] := by
      have := congrArg List.reverse e
      rw [List.reverse_reverse, List.reverse_cons] at this
      exact this
    rw [if_neg, ← e, List.reverse_reverse]
    exact T.last x (by rw [hf, List.getLast?_append]; simp)
theorem gcd_per {g : Nat → Int} : ∀ m n : Nat, (∀ k, g (k + m) = g k) → (∀ k, g (k + n) = g k) → ∀ k, g (k + Nat.gcd m n) = g k := by
  intro m n
  induction m, n using Nat.gcd.induction with
  | H0 n => intro _ h k; rw [Nat.gcd_zero_left]; exact h k
  | H1 m n hm ih =>
    intro h1 h2
    rw [Nat.gcd_rec]
    refine ih (fun k => ?_) h1
    have := per_mul h1 (n / m) (k + n % m)
    rw [← this, Nat.add_assoc, Nat.mul_comm, Nat.mod_add_div]
    exact h2 k
theorem sq_per {f o : List Int} {k : Nat} (h : f.length ≤ k) : sq f o (k + o.length) = sq f o k := by
  unfold sq
  rw [if_neg (by omega), if_neg (by omega), show k + o.length - f.length = k - f.length + o.length by omega, cy_len]
theorem sq_perM {f o : List Int} {k : Nat} (h : f.length ≤ k) : ∀ i, sq f o (k + i * o.length) = sq f o k
  | 0 => by rw [Nat.zero_mul]; rfl
  | i + 1 => by rw [Nat.add_mul, Nat.one_mul, ← Nat.add_assoc, sq_per (by omega), sq_perM h i]
theorem sq_cy {f o : List Int} (k : Nat) : sq f o (f.length + k) = cy o k := by
  unfold sq
  rw [if_neg (by omega), Nat.add_sub_cancel_left]
/-- the round's length is told by the sides -/
theorem len_le {f o f' o' : List Int} (T : Tight f o) (T' : Tight f' o') (h : ∀ k, sq f o k = sq f' o' k) : o.length ∣ o'.length := by
  have hp : 0 < o.length := List.length_pos_iff.mpr T.ne
  have hq : 0 < o'.length := List.length_pos_iff.mpr T'.ne
  let N := f.length + f'.length * o.length
  have hN' : f'.length ≤ N := Nat.le_trans (Nat.le_mul_of_pos_right _ hp) (Nat.le_add_left _ _)
  have g1 : ∀ k, cy o (k + o.length) = cy o k := cy_len
  have eg : ∀ k, cy o k = sq f' o' (N + k) := fun k => by
    rw [← h, show N + k = (f.length + k) + f'.length * o.length by show f.length + f'.length * o.length + k = _; omega, sq_perM (by omega), sq_cy]
  have g2 : ∀ k, cy o (k + o'.length) = cy o k := fun k => by
    rw [eg, eg, ← Nat.add_assoc, sq_per (by omega)]
  have g3 := gcd_per o.length o'.length g1 g2
  have hd : Nat.gcd o.length o'.length ∣ o.length := Nat.gcd_dvd_left _ _
  have hd0 : 0 < Nat.gcd o.length o'.length := Nat.gcd_pos_of_pos_left _ hp
  have hle := Nat.le_of_dvd hp hd
  by_cases hlt : Nat.gcd o.length o'.length < o.length
  · have := (isP_iff hd0 T.ne).mpr ⟨Nat.mod_eq_zero_of_dvd hd, g3⟩
    rw [T.pr _ hd0 hlt] at this
    cases this
  · have e : Nat.gcd o.length o'.length = o.length := by omega
    rw [← e]
    exact Nat.gcd_dvd_right _ _
theorem head_le {f o f' o' : List Int} (T : Tight f o) (T' : Tight f' o') (h : ∀ k, sq f o k = sq f' o' k) (hl : o.length = o'.length) : f'.length ≤ f.length := by
  by_cases hlt : f.length < f'.length
  · exfalso
    have hq : 0 < o'.length := List.length_pos_iff.mpr T'.ne
    have e1 : sq f' o' (f'.length - 1 + o'.length) = sq f' o' (f'.length - 1) := by
      rw [← h, ← h, ← hl]
      exact sq_per (by omega)
    rw [show f'.length - 1 + o'.length = f'.length + (o'.length - 1) by omega, sq_cy] at e1
    have e2 : f'.getLast? = some (sq f' o' (f'.length - 1)) := by
      unfold sq
      rw [if_pos (by omega), List.getLast?_eq_getElem?, List.getD_eq_getElem?_getD, List.getElem?_eq_getElem (by omega)]
      rfl
    exact T'.last _ e2 (by rw [last_of T'.ne, e1])
  · omega
theorem uniq {f o f' o' : List Int} (T : Tight f o) (T' : Tight f' o') (h : ∀ k, sq f o k = sq f' o' k) : f = f' ∧ o = o' := by
  have hl : o.length = o'.length := Nat.dvd_antisymm (len_le T T' h) (len_le T' T fun k => (h k).symm)
  have hf : f.length = f'.length := Nat.le_antisymm (head_le T' T (fun k => (h k).symm) hl.symm) (head_le T T' h hl)
  constructor
  · apply List.ext_getElem hf
    intro k h1 h2
    have := h k
    unfold sq at this
    rw [if_pos h1, if_pos h2, List.getD_eq_getElem?_getD, List.getD_eq_getElem?_getD, List.getElem?_eq_getElem h1, List.getElem?_eq_getElem h2] at this
    exact this
  · apply List.ext_getElem? 
    intro k
    by_cases hk : k < o.length
    · rw [cy_get hk, cy_get (by omega), ← sq_cy (f := f), ← sq_cy (f := f'), h, hf]
    · rw [List.getElem?_eq_none (by omega), List.getElem?_eq_none (by omega)]
/-- few sides tell a row -/
theorem uniq_few {f o f' o' : List Int} (T : Tight f o) (T' : Tight f' o') (b1 : f.length ≤ 5) (b2 : o.length ≤ 6) (b3 : f'.length ≤ 5) (b4 : o'.length ≤ 6) (h : ∀ k, k < 130 → sq f o k = sq f' o' k) : f = f' ∧ o = o' := by
  refine uniq T T' fun k => ?_
  have hp : 0 < o.length := List.length_pos_iff.mpr T.ne
  have hq : 0 < o'.length := List.length_pos_iff.mpr T'.ne
  have hP : o.length * o'.length ≤ 36 := Nat.mul_le_mul b2 b4
  have hP0 : 0 < o.length * o'.length := Nat.mul_pos hp hq
  induction k using Nat.strongRecOn with
  | ind k ih =>
    by_cases hk : k < 130
    · exact h k hk
    · have e1 := sq_perM (f := f) (o := o) (k := k - o.length * o'.length) (by omega) o'.length
      have e2 := sq_perM (f := f') (o := o') (k := k - o.length * o'.length) (by omega) o.length
      rw [Nat.mul_comm o'.length, show k - o.length * o'.length + o.length * o'.length = k by omega] at e1
      rw [show k - o.length * o'.length + o.length * o'.length = k by omega] at e2
      rw [e1, e2]
      exact ih _ (by omega)
/-! ### a row from a beat on -/
def win (g : Nat → Int) (b n : Nat) : List Int := (List.range n).map fun k => g (b + k)
theorem win_len {g : Nat → Int} {b n : Nat} : (win g b n).length = n := by unfold win; simp
theorem win_get {g : Nat → Int} {b n k : Nat} (h : k < n) : (win g b n)[k]? = some (g (b + k)) := by unfold win; simp [h]
theorem win_succ {g : Nat → Int} {b n : Nat} : win g b (n + 1) = win g b n ++ [g (b + n)] := by unfold win; rw [List.range_succ, List.map_append]; rfl
theorem win_cons {g : Nat → Int} {b n : Nat} : win g b (n + 1) = g b :: win g (b + 1) n := by
  unfold win
  rw [List.range_succ_eq_map, List.map_cons, List.map_map]
  congr 1
  apply List.map_congr_left
  intro k _
  simp [Nat.add_comm, Nat.add_left_comm]
theorem win_cy {g : Nat → Int} {b n k : Nat} (hn : 0 < n) : cy (win g b n) k = g (b + k % n) := by
  rw [← cy_mod, win_len]
  have hk := Nat.mod_lt k hn
  have := cy_get (o := win g b n) (k := k % n) (by rw [win_len]; exact hk)
  rw [win_get hk] at this
  exact (Option.some.inj this).symm
theorem tl_back {g : Nat → Int} {b j n : Nat} (hn : 0 < n) (h : g (b + j + n) = g (b + j)) : tl (win g b (j + 1)) (win g (b + (j + 1)) n) = tl (win g b j) (win g (b + j) n) := by
  obtain ⟨n', rfl⟩ : ∃ n', n = n' + 1 := ⟨n - 1, by omega⟩
  unfold tl
  rw [win_succ, List.reverse_append, List.reverse_singleton, List.singleton_append]
  conv => lhs; unfold tlr
  have e : (win g (b + (j + 1)) (n' + 1)).getLast? = some (g (b + j)) := by
    rw [win_succ, List.getLast?_append]
    simp only [List.getLast?_singleton, Option.some_or]
    rw [← h, show b + (j + 1) + n' = b + j + (n' + 1) by omega]
  rw [if_pos e, win_succ (n := n'), List.dropLast_concat, win_cons (b := b + j)]
  rfl
def mv (f o : List Int) (beat : Nat) : List Int × List Int := if beat ≤ f.length then (f.drop beat, o) else ([], o.drop ((beat - f.length) % o.length) ++ o.take ((beat - f.length) % o.length))
theorem tl_down {f o : List Int} (ho : o ≠ []) {b : Nat} : ∀ j, f.length - b ≤ j → tl (win (sq f o) b j) (win (sq f o) (b + j) o.length) = tl (win (sq f o) b (f.length - b)) (win (sq f o) (b + (f.length - b)) o.length)
  | 0, h => by rw [show f.length - b = 0 by omega]
  | j + 1, h => by
    by_cases e : f.length - b = j + 1
    · rw [e]
    · rw [tl_back (List.length_pos_iff.mpr ho) (sq_per (by omega)), tl_down ho j (by omega)]
theorem win_prim {f o : List Int} (T : Tight f o) {b : Nat} (h : f.length ≤ b) : Prim (win (sq f o) b o.length) := by
  have hp : 0 < o.length := List.length_pos_iff.mpr T.ne
  refine prim_turn (c := b - f.length) T.ne win_len (fun k => ?_) T.pr
  rw [win_cy hp, show b + k % o.length = f.length + (b - f.length + k % o.length) by omega, sq_cy, ← cy_mod, Nat.add_mod_mod, cy_mod]
theorem on_eq {f o : List Int} (T : Tight f o) (beat b : Nat) (hb : b = if beat < f.length + o.length then beat else f.length + (beat - f.length) % o.length) :
    tl (win (sq f o) b (f.length + o.length)) (shR (win (sq f o) (b + (f.length + o.length)) o.length)) = mv f o beat := by
  have hp : 0 < o.length := List.length_pos_iff.mpr T.ne
  have hW : win (sq f o) (b + (f.length + o.length)) o.length ≠ [] := fun e => by
    have := congrArg List.length e
    rw [win_len] at this
    exact absurd this (by show ¬ o.length = 0; omega)
  rw [shR_self hW (win_prim T (by omega)), tl_down T.ne _ (by omega)]
  have low : b ≤ f.length → tl (win (sq f o) b (f.length - b)) (win (sq f o) (b + (f.length - b)) o.length) = (f.drop b, o) := fun h => by
    have e1 : win (sq f o) b (f.length - b) = f.drop b := by
      apply List.ext_getElem?
      intro k
      by_cases hk : k < f.length - b
      · rw [win_get hk, List.getElem?_drop]
        unfold sq
        rw [if_pos (by omega), List.getD_eq_getElem?_getD, List.getElem?_eq_getElem (by omega)]
        rfl
      · rw [List.getElem?_eq_none (by rw [win_len]; omega), List.getElem?_eq_none (by rw [List.length_drop]; omega)]
    have e2 : win (sq f o) (b + (f.length - b)) o.length = o := by
      rw [show b + (f.length - b) = f.length by omega]
      apply List.ext_getElem?
      intro k
      by_cases hk : k < o.length
      · rw [win_get hk, sq_cy, cy_get hk]
      · rw [List.getElem?_eq_none (by rw [win_len]; omega), List.getElem?_eq_none (by omega)]
    rw [e1, e2]
    refine tl_tight ⟨T.ne, T.pr, fun x hx => T.last x ?_⟩
    by_cases hd : b < f.length
    · rw [List.getLast?_drop, if_neg (by omega)] at hx
      exact hx
    · rw [List.drop_eq_nil_of_le (by omega)] at hx
      cases hx
  have high : ∀ t, t < o.length → b = f.length + t → tl (win (sq f o) b (f.length - b)) (win (sq f o) (b + (f.length - b)) o.length) = ([], o.drop t ++ o.take t) := fun t ht e => by
    rw [show f.length - b = 0 by omega]
    show tlr [] _ = _
    unfold tlr
    congr 1
    apply List.ext_getElem?
    intro k
    by_cases hk : k < o.length
    · rw [win_get hk, e, show f.length + t + 0 + k = f.length + (t + k) by omega, sq_cy]
      by_cases h2 : k < o.length - t
      · rw [List.getElem?_append_left (by rw [List.length_drop]; exact h2), List.getElem?_drop, cy_get (by omega)]
      · rw [List.getElem?_append_right (by rw [List.length_drop]; omega), List.length_drop, List.getElem?_take, if_pos (by omega), cy_get (by omega), show t + k = k - (o.length - t) + o.length by omega, cy_len]
    · rw [List.getElem?_eq_none (by rw [win_len]; omega), List.getElem?_eq_none (by rw [List.length_append, List.length_drop, List.length_take]; omega)]
  unfold mv
  by_cases h1 : beat ≤ f.length
  · rw [if_pos h1]
    have : b = beat := by rw [hb, if_pos (by omega)]
    rw [low (by omega), this]
  · rw [if_neg h1]
    have ht := Nat.mod_lt (beat - f.length) hp
    refine high _ ht ?_
    rw [hb]
    split
    · rw [Nat.mod_eq_of_lt (by omega)]; omega
    · rfl
end K3

set_option Elab.async false
set_option linter.all false
set_option maxRecDepth 1000000
set_option maxHeartbeats 4000000
/-! k03: what the defs answer, part 1. -/
namespace K3
open PySem Rf Lw
def divs (m : Nat) : List Nat := ((List.range m).map (· + 1)).filter fun d => m % d == 0
theorem e5 (c : Cfg) : ∀ m : Nat, m < 61 → runFd c f5 [.int (m : Nat)] = .ok (.lst ((divs m).map fun d => .int (d : Nat))) (.int (m : Nat))
  | 0, _ => by kernel_rfl
  | 1, _ => by kernel_rfl
  | 2, _ => by kernel_rfl
  | 3, _ => by kernel_rfl
  | 4, _ => by kernel_rfl
  | 5, _ => by kernel_rfl
  | 6, _ => by kernel_rfl
  | 7, _ => by kernel_rfl
  | 8, _ => by kernel_rfl
  | 9, _ => by kernel_rfl
  | 10, _ => by kernel_rfl
  | 11, _ => by kernel_rfl
  | 12, _ => by kernel_rfl
  | 13, _ => by kernel_rfl
  | 14, _ => by kernel_rfl
  | 15, _ => by kernel_rfl
  | 16, _ => by kernel_rfl
  | 17, _ => by kernel_rfl
  | 18, _ => by kernel_rfl
  | 19, _ => by kernel_rfl
  | 20, _ => by kernel_rfl
  | 21, _ => by kernel_rfl
  | 22, _ => by kernel_rfl
  | 23, _ => by kernel_rfl
  | 24, _ => by kernel_rfl
  | 25, _ => by kernel_rfl
  | 26, _ => by kernel_rfl
  | 27, _ => by kernel_rfl
  | 28, _ => by kernel_rfl
  | 29, _ => by kernel_rfl
  | 30, _ => by kernel_rfl
  | 31, _ => by kernel_rfl
  | 32, _ => by kernel_rfl
  | 33, _ => by kernel_rfl
  | 34, _ => by kernel_rfl
  | 35, _ => by kernel_rfl
  | 36, _ => by kernel_rfl
  | 37, _ => by kernel_rfl
  | 38, _ => by kernel_rfl
  | 39, _ => by kernel_rfl
  | 40, _ => by kernel_rfl
  | 41, _ => by kernel_rfl
  | 42, _ => by kernel_rfl
  | 43, _ => by kernel_rfl
  | 44, _ => by kernel_rfl
  | 45, _ => by kernel_rfl
  | 46, _ => by kernel_rfl
  | 47, _ => by kernel_rfl
  | 48, _ => by kernel_rfl
  | 49, _ => by kernel_rfl
  | 50, _ => by kernel_rfl
  | 51, _ => by kernel_rfl
  | 52, _ => by kernel_rfl
  | 53, _ => by kernel_rfl
  | 54, _ => by kernel_rfl
  | 55, _ => by kernel_rfl
  | 56, _ => by kernel_rfl
  | 57, _ => by kernel_rfl
  | 58, _ => by kernel_rfl
  | 59, _ => by kernel_rfl
  | 60, _ => by kernel_rfl
  | n + 61, h => by omega
theorem E5 {n m : Nat} (h : m < 61) : callN p (n + 1) 5 [.int (m : Nat)] = .ok (.lst ((divs m).map fun d => .int (d : Nat))) (.int (m : Nat)) := by
  rw [callN_eq (fd := f5) rfl]
  exact e5 _ m h
end K3

set_option Elab.async false
set_option linter.all false
set_option maxRecDepth 1000000
set_option maxHeartbeats 4000000
/-! k03: what the defs answer, part 2. -/
namespace K3
open PySem Rf Lw
def okS (xs : List Int) : Prop := ∀ x ∈ xs, 0 ≤ x ∧ x ≤ 2
theorem E2 {n : Nat} {x : Int} (h : 0 ≤ x ∧ x ≤ 2) : callN p (n + 2) 2 [.int x, .int 0, .int 2] = .ok (.bl true) (.int x) := by
  refine callN_run (fd := f2) rfl fun c hc _ _ => ?_
  have e0 := via hc (is_number_ok (p := p) (i := 0) (n := n) (v := .int x) rfl rfl)
  simp only at e0
  clear hc
  refine run_ret (r := [some (.int 0), some (.int 2)]) rfl ?_
  simp [f2, enter, e0, tru_bl, cmp_le_int, h.1, h.2]
theorem E6 {n : Nat} {xs : List Int} (h : okS xs) (hl : xs.length ≤ 60) : callN p (n + 3) 6 [tI xs] = .ok (.bl true) (tI xs) := by
  refine callN_run (fd := f6) rfl fun c hc hv _ => ?_
  have e2 : ∀ x ∈ xs, c.call 2 [.int x, .int 0, .int 2] = .ok (.bl true) (.int x) := fun x hx => by rw [hc]; exact E2 (h x hx)
  have hv : c.val ("LONGEST" : Str) = some (Val.int 60) := by rw [hv]; rfl
  clear hc
  have key : evE c (.comp [1] (.call 2 (.cons (.var 1) (.cons (.con (.int 0)) (.cons (.con (.int 2)) .nil)))) (.name 1) (.seq (.var 0)) .nil) [some (tI xs), none] = .ok (.lst ((xs.map Val.int).map fun _ => .bl true)) [some (tI xs), none] := by
    refine comp_pure (xs := xs.map Val.int) (fun _ => .bl true) ?_ (fun z m => ?_) (by rw [List.length_map, sizeLine_eq]; omega)
    · simp [items_tI]
    · obtain ⟨x, hx, rfl⟩ := List.mem_map.mp m
      refine ⟨[some (tI xs), some (.int x)], rfl, ?_, rfl⟩
      simp [C.val, e2 x hx]
  have hl2 : ((xs.length : Int) ≤ 60) := by omega
  have hb : biop .all [.lst ((xs.map Val.int).map fun _ => .bl true)] = some (.bl true) := by
    simp only [biop, bools_const, Option.map_some]
    congr 2
    simp
  refine run_ret (r := [none]) rfl ?_
  simp [f6, enter, tru_bl, hv, len_tI, cmp_le_int, hl2]
  rw [key]
  simp only [bind_ok, hb, ofO_some, toRt_ok, then_ret]
theorem divs_find {xs : List Int} (hx : xs ≠ []) : (divs xs.length).find? (isP xs) = some (per xs) := by
  unfold divs
  rw [List.find?_filter, List.find?_map]
  obtain ⟨p1, p2, p3, p4⟩ := per_spec hx
  have e : (fun a => ((fun d => (xs.length % d == 0)) a && isP xs a)) ∘ (fun x => x + 1) = fun i => isP xs (i + 1) := by
    funext i
    simp only [Function.comp]
    unfold isP
    by_cases h : xs.length % (i + 1) = 0
    · simp [h]
    · simp [h]
  have e2 : (List.range xs.length).find? ((fun a => decide ((xs.length % a == 0) = true ∧ isP xs a = true)) ∘ fun x => x + 1) = (List.range xs.length).find? fun i => isP xs (i + 1) := by
    rw [← e]
    congr 1
    funext i
    simp only [Function.comp]
    cases (xs.length % (i + 1) == 0) <;> cases isP xs (i + 1) <;> rfl
  unfold per at p1 p2 p3 ⊢
  first
    | rw [e2]
    | rw [e]
  cases h : (List.range xs.length).find? fun i => isP xs (i + 1) with
  | some i => rfl
  | none =>
    rw [h] at p3
    have := List.find?_eq_none.mp h (xs.length - 1) (List.mem_range.mpr (by have := List.length_pos_iff.mpr hx; omega))
    rw [show xs.length - 1 + 1 = xs.length by have := List.length_pos_iff.mpr hx; omega] at this
    exact absurd (isP_len hx) this
theorem divs_ok {m d : Nat} (h : d ∈ divs m) : 0 < d ∧ d ≤ m ∧ m % d = 0 := by
  unfold divs at h
  rw [List.mem_filter, List.mem_map] at h
  obtain ⟨⟨i, hi, rfl⟩, h2⟩ := h
  exact ⟨Nat.succ_pos _, List.mem_range.mp hi, by simpa using h2⟩
theorem E7 {n : Nat} {xs : List Int} (hx : xs ≠ []) (hl : xs.length ≤ 60) : callN p (n + 2) 7 [tI xs] = .ok (tI (shR xs)) (tI xs) := by
  refine callN_run (fd := f7) rfl fun c hc _ _ => ?_
  have e5'' := via hc (E5 (n := n) (m := xs.length) (by omega))
  clear hc
  have loop : ∀ (c : Cfg) (ds : List Nat) (a : Option Val), (∀ d ∈ ds, 0 < d ∧ d ≤ xs.length ∧ xs.length % d = 0) → (∃ d, ds.find? (isP xs) = some d) → ∃ b, forL (stepF c (.name 1) (.cons (.ife (.cmp .eq (.bin .mul (.slc (.var 0) .none (.some (.var 1))) (.bin .fdiv (.lnv 0) (.var 1))) (.var 0)) (.cons (.ret false (.slc (.var 0) .none (.some (.var 1)))) .nil) .nil) .nil)) (ds.map fun d => .int (d : Nat)) [some (tI xs), a] = .ret (tI (xs.take ((ds.find? (isP xs)).getD 0))) [some (tI xs), b] := by
    intro c ds
    induction ds with
    | nil => intro a _ ⟨d, h⟩; cases h
    | cons d ds ih =>
      intro a h1 h2
      obtain ⟨d1, d2, d3⟩ := h1 d List.mem_cons_self
      have q1 : binop .fdiv (.int (xs.length : Nat)) (.int (d : Nat)) = some (.int ((xs.length : Int) / (d : Int))) := fdiv_nat d1 (by omega)
      have q2 : binop .mul (tI (xs.take d)) (.int ((xs.length : Int) / (d : Int))) = some (tI (List.replicate (xs.length / d) (xs.take d)).flatten) := rep_tI (by rw [List.length_take]; omega) (by omega)
      have q3 : decide ((List.replicate (xs.length / d) (xs.take d)).flatten = xs) = isP xs d := by unfold isP; simp [d3]
      rw [List.map_cons, forL_cons]
      cases hp : isP xs d with
      | true =>
        refine ⟨some (.int (d : Nat)), ?_⟩
        rw [hp] at q3
        rw [List.find?_cons_of_pos hp]
        simp [stepF, Rf.assign, evT, lentE, lentO, lentOk, sl_tI, cut_to, len_tI, q1, q2, eq_tI, of_decide_eq_true q3, tru_bl]
      | false =>
        rw [hp] at q3
        rw [List.find?_cons_of_neg (by simp [hp])]
        obtain ⟨b, e⟩ := ih (some (.int (d : Nat))) (fun d hd => h1 d (List.mem_cons_of_mem _ hd)) (by rw [List.find?_cons_of_neg (by simp [hp])] at h2; exact h2)
        refine ⟨b, ?_⟩
        rw [← e]
        simp [stepF, Rf.assign, evT, lentE, lentO, lentOk, sl_tI, cut_to, len_tI, q1, q2, eq_tI, of_decide_eq_false q3, tru_bl]
  obtain ⟨b, e⟩ := loop c (divs xs.length) none (fun d h => divs_ok h) ⟨_, divs_find hx⟩
  rw [divs_find hx] at e
  simp only [Option.getD_some] at e
  refine run_ret (r := [b]) rfl ?_
  simp only [f7, enter, sv_cons, sv_fr, ev_seq, ev_call, ev_cons, ev_nil, ev_lnv, List.map_cons, List.map_nil, List.length_cons, List.length_nil, List.replicate, List.cons_append, List.nil_append, getV_cons0, Option.bind_some, len_tI, ofO_some, bind_ok, e5'', callR_ok, items_lst, toRt_ok]
  rw [e, then_ret]
  rfl
end K3

set_option Elab.async false
set_option linter.all false
set_option maxRecDepth 1000000
set_option maxHeartbeats 4000000
/-! k03: what the defs answer, part 3: tight rows. -/
namespace K3
open PySem Rf Lw
theorem whileN_succ {test : Rf.Env → Rs Bool} {body : Rf.Env → Rt} {n : Nat} {ρ : Rf.Env} : whileN test body (n + 1) ρ = (test ρ).toRt fun k ρ => if k then (body ρ).then (whileN test body n) else .nx ρ := rfl
theorem drop_last {o : List Int} {y : Int} (h : o.getLast? = some y) : o.drop (o.length - 1) = [y] := by
  have hp : o.length - 1 < o.length := by
    have := (last_cy h).2
    omega
  rw [List.getLast?_eq_getElem?, List.getElem?_eq_getElem hp] at h
  rw [List.drop_eq_getElem_cons hp, Option.some.inj h, show o.length - 1 + 1 = o.length by omega, List.drop_length]
theorem at_last_o (xs : List Int) : L2.atI xs (-1) = xs.getLast? := by
  by_cases h : xs = []
  · subst h; rfl
  · rw [at_last h, List.getLast?_eq_some_getLast h]
theorem W8 (c : Cfg) {A B : Option Val} : ∀ (r o : List Int), o ≠ [] → o.length ≤ 60 → ∀ N, r.length < N → whileN (evT c (.and (.cmp .ne (.var 2) (.tup .nil)) (.cmp .eq (.itv 2 (.neg (.con (.int 1)))) (.itv 3 (.neg (.con (.int 1))))))) (evSs c (.cons (.par [2, 3] [] (.cons (.slc (.var 2) .none (.some (.neg (.con (.int 1))))) (.cons (.bin .add (.slc (.var 3) (.some (.neg (.con (.int 1)))) .none) (.slc (.var 3) .none (.some (.neg (.con (.int 1)))))) .nil))) .nil)) N [A, B, some (tI r.reverse), some (tI o)] = .nx [A, B, some (tI (tlr r o).1), some (tI (tlr r o).2)]
  | _, _, _, _, 0, h => by omega
  | [], o, ho, hl, N + 1, h => by
    rw [whileN_succ]
    simp [evT, lentE, lentEs, lentOk, nil_tI, ne_tI, tru_bl, tlr]
  | x :: r, o, ho, hl, N + 1, h => by
    obtain ⟨y, hy⟩ : ∃ y, o.getLast? = some y := ⟨_, last_of ho⟩
    have h1 : (x :: r).reverse ≠ [] := by simp
    have h2 : (x :: r).reverse.getLast? = some x := by simp
    have h3 : (x :: r).reverse.dropLast = r.reverse := by simp
    have h4 : o.drop (o.length - 1) = [y] := drop_last hy
    have h5 : binop .add (tI [y]) (tI o.dropLast) = some (tI (y :: o.dropLast)) := add_tI (by simp; omega)
    rw [whileN_succ]
    generalize hq : (x :: r).reverse = q at h1 h2 h3 ⊢
    by_cases e : y = x
    · subst e
      have ih := W8 c (A := A) (B := B) r (y :: o.dropLast) (by simp) (by rw [turn_len hy]; exact hl) N (by simp at h; omega)
      unfold tlr
      rw [if_pos hy, ← ih]
      simp [evT, lentE, lentEs, lentOk, nil_tI, ne_tI, h1, tru_bl, C.val, it_tI, at_last_o, h2, hy, cmp_eq_int, sl_tI, cut_init, cut_last, h3, h4, h5, setAll]
    · have e' : ¬ x = y := fun z => e z.symm
      unfold tlr
      rw [if_neg (by rw [hy]; simpa using e), hq]
      simp [evT, lentE, lentEs, lentOk, nil_tI, ne_tI, h1, tru_bl, C.val, it_tI, at_last_o, h2, hy, cmp_eq_int, e']
theorem W25 (c : Cfg) {A B M : Option Val} : ∀ (r o : List Int), o ≠ [] → o.length ≤ 60 → ∀ N, r.length < N → whileN (evT c (.and (.cmp .ne (.var 3) (.tup .nil)) (.cmp .eq (.itv 3 (.neg (.con (.int 1)))) (.itv 4 (.neg (.con (.int 1))))))) (evSs c (.cons (.par [3, 4] [] (.cons (.slc (.var 3) .none (.some (.neg (.con (.int 1))))) (.cons (.bin .add (.slc (.var 4) (.some (.neg (.con (.int 1)))) .none) (.slc (.var 4) .none (.some (.neg (.con (.int 1)))))) .nil))) .nil)) N [A, B, M, some (tI r.reverse), some (tI o)] = .nx [A, B, M, some (tI (tlr r o).1), some (tI (tlr r o).2)]
  | _, _, _, _, 0, h => by omega
  | [], o, ho, hl, N + 1, h => by
    rw [whileN_succ]
    simp [evT, lentE, lentEs, lentOk, nil_tI, ne_tI, tru_bl, tlr]
  | x :: r, o, ho, hl, N + 1, h => by
    obtain ⟨y, hy⟩ : ∃ y, o.getLast? = some y := ⟨_, last_of ho⟩
    have h1 : (x :: r).reverse ≠ [] := by simp
    have h2 : (x :: r).reverse.getLast? = some x := by simp
    have h3 : (x :: r).reverse.dropLast = r.reverse := by simp
    have h4 : o.drop (o.length - 1) = [y] := drop_last hy
    have h5 : binop .add (tI [y]) (tI o.dropLast) = some (tI (y :: o.dropLast)) := add_tI (by simp; omega)
    rw [whileN_succ]
    generalize hq : (x :: r).reverse = q at h1 h2 h3 ⊢
    by_cases e : y = x
    · subst e
      have ih := W25 c (A := A) (B := B) (M := M) r (y :: o.dropLast) (by simp) (by rw [turn_len hy]; exact hl) N (by simp at h; omega)
      unfold tlr
      rw [if_pos hy, ← ih]
      simp [evT, lentE, lentEs, lentOk, nil_tI, ne_tI, h1, tru_bl, C.val, it_tI, at_last_o, h2, hy, cmp_eq_int, sl_tI, cut_init, cut_last, h3, h4, h5, setAll]
    · have e' : ¬ x = y := fun z => e z.symm
      unfold tlr
      rw [if_neg (by rw [hy]; simpa using e), hq]
      simp [evT, lentE, lentEs, lentOk, nil_tI, ne_tI, h1, tru_bl, C.val, it_tI, at_last_o, h2, hy, cmp_eq_int, e']
theorem E8 {n : Nat} {f o : List Int} (ho : o ≠ []) (hl : o.length ≤ 60) (hf : f.length ≤ 1000) : callN p (n + 3) 8 [tI f, tI o] = .ok (rI (tl f (shR o)).1 (tl f (shR o)).2) (tI f) := by
  refine callN_run (fd := f8) rfl fun c hc _ hw => ?_
  have e7 := via hc (E7 (n := n) ho hl)
  clear hc
  have hw : c.wh = 1000000000 := hw
  have w := W8 c (A := some (tI f)) (B := some (tI o)) f.reverse (shR o) (shR_ne ho) (by rw [shR_len ho]; have := (per_spec ho).2.1; omega) c.wh (by rw [hw, List.length_reverse]; omega)
  rw [List.reverse_reverse] at w
  refine run_ret (r := [some (tI o), some (tI (tl f (shR o)).1), some (tI (tl f (shR o)).2)]) rfl ?_
  simp only [f8, enter, sv_cons, sv_par, ev_cons, ev_nil, ev_var, ev_call, List.map_cons, List.map_nil, List.length_cons, List.length_nil, List.replicate, List.cons_append, List.nil_append, getV_cons0, getV_consS, ofO_some, bind_ok, e7, callR_ok, toRt_ok, setAll, setV_cons0, setV_consS, someT_some, then_nx, evS_whl]
  rw [w]
  simp [tl, rI, two_line]
/-- the law's own way to the shortest round -/
theorem W25m (c : Cfg) {A n1 n2 : Option Val} {a : List Int} (ha : a ≠ []) (hl : a.length ≤ 60) : ∀ (k m : Nat), 0 < m → m + k = per a → ∀ N, k < N → whileN (evT c (.or (.cmp .ne (.bin .mul (.slc (.var 1) .none (.some (.var 2))) (.bin .fdiv (.lnv 1) (.var 2))) (.var 1)) (.cmp .ne (.bin .mod (.lnv 1) (.var 2)) (.con (.int 0))))) (evSs c (.cons (.set (.name 2) .val (.bin .add (.var 2) (.con (.int 1)))) .nil)) N [A, some (tI a), some (.int (m : Nat)), n1, n2] = .nx [A, some (tI a), some (.int (per a : Nat)), n1, n2] := by
  obtain ⟨p1, p2, p3, p4⟩ := per_spec ha
  intro k
  induction k with
  | zero =>
    intro m hm he N hN
    obtain ⟨N, rfl⟩ : ∃ N', N = N' + 1 := ⟨N - 1, by omega⟩
    have hm2 : m = per a := by omega
    subst hm2
    have q1 : binop .fdiv (.int (a.length : Nat)) (.int (per a : Nat)) = some (.int ((a.length : Int) / (per a : Int))) := fdiv_nat p1 (by omega)
    have q2 : binop .mul (tI (a.take (per a))) (.int ((a.length : Int) / (per a : Int))) = some (tI (List.replicate (a.length / per a) (a.take (per a))).flatten) := rep_tI (by rw [List.length_take]; omega) (by omega)
    have q3 : binop .mod (.int (a.length : Nat)) (.int (per a : Nat)) = some (.int ((a.length : Int) % (per a : Int))) := mod_nat p1
    unfold isP at p3
    rw [Bool.and_eq_true, decide_eq_true_eq, decide_eq_true_eq] at p3
    have q4 : (a.length : Int) % (per a : Int) = 0 := by omega
    rw [whileN_succ]
    simp [evT, lentE, lentO, lentOk, C.val, sl_tI, cut_to, len_tI, q1, q2, q3, p3.2, q4, ne_tI, cmp_ne_int, tru_bl]
  | succ k ih =>
    intro m hm he N hN
    obtain ⟨N, rfl⟩ : ∃ N', N = N' + 1 := ⟨N - 1, by omega⟩
    have ih' := ih (m + 1) (by omega) (by omega) N (by omega)
    have q1 : binop .fdiv (.int (a.length : Nat)) (.int (m : Nat)) = some (.int ((a.length : Int) / (m : Int))) := fdiv_nat hm (by omega)
    have q2 : binop .mul (tI (a.take m)) (.int ((a.length : Int) / (m : Int))) = some (tI (List.replicate (a.length / m) (a.take m)).flatten) := rep_tI (by rw [List.length_take]; omega) (by omega)
    have q3 : binop .mod (.int (a.length : Nat)) (.int (m : Nat)) = some (.int ((a.length : Int) % (m : Int))) := mod_nat hm
    have p5 := p4 m hm (by omega)
    rw [whileN_succ, ← ih']
    by_cases e1 : (List.replicate (a.length / m) (a.take m)).flatten = a
    · have e2 : ¬ (a.length : Int) % (m : Int) = 0 := fun z => by
        have z2 : a.length % m = 0 := by omega
        unfold isP at p5
        simp [e1, z2] at p5
      simp [evT, lentE, lentO, lentOk, C.val, sl_tI, cut_to, len_tI, q1, q2, q3, e1, e2, ne_tI, cmp_ne_int, tru_bl, add_int, Rf.assign]
    · simp [evT, lentE, lentO, lentOk, C.val, sl_tI, cut_to, len_tI, q1, q2, q3, e1, ne_tI, cmp_ne_int, tru_bl, add_int, Rf.assign]
theorem E25 {n : Nat} {f o : List Int} (ho : o ≠ []) (hl : o.length ≤ 60) (hf : f.length ≤ 1000) : callN p (n + 1) 25 [tI f, tI o] = .ok (rI (tl f (shR o)).1 (tl f (shR o)).2) (tI f) := by
  refine callN_run (fd := f25) rfl fun c hc _ hw => ?_
  clear hc
  have hw : c.wh = 1000000000 := hw
  obtain ⟨p1, p2, p3, p4⟩ := per_spec ho
  have w1 := W25m c (A := some (tI f)) (n1 := none) (n2 := none) ho hl (per o - 1) 1 (by omega) (by omega) c.wh (by rw [hw]; omega)
  have w := W25 c (A := some (tI f)) (B := some (tI o)) (M := some (.int (per o : Nat))) f.reverse (shR o) (shR_ne ho) (by rw [shR_len ho]; omega) c.wh (by rw [hw, List.length_reverse]; omega)
  rw [List.reverse_reverse] at w
  have b1 : ∀ xs : List Int, biop .tup [tI xs] = some (tI xs) := fun _ => rfl
  refine run_ret (r := [some (tI o), some (.int (per o : Nat)), some (tI (tl f (shR o)).1), some (tI (tl f (shR o)).2)]) rfl ?_
  simp only [f25, enter, sv_cons, sv_set, evM_val, ev_con, C.val, List.map_cons, List.map_nil, List.length_cons, List.length_nil, List.replicate, List.cons_append, List.nil_append, toRt_ok, Rf.assign, setV_cons0, setV_consS, someT_some, then_nx, evS_whl]
  have w1 : whileN _ _ c.wh [some (tI f), some (tI o), some (.int 1), none, none] = _ := w1
  rw [w1, then_nx]
  simp only [sv_cons, sv_par, ev_cons, ev_nil, ev_var, ev_bi, ev_slc, ev_o0, ev_o1, getV_cons0, getV_consS, ofO_some, bind_ok, intR_int, sl_tI, cut_to, b1, toRt_ok, setAll, setV_cons0, setV_consS, someT_some, then_nx, evS_whl]
  have w : whileN _ _ c.wh [some (tI f), some (tI o), some (.int (per o : Nat)), some (tI f), some (tI (o.take (per o)))] = _ := w
  rw [w]
  simp [tl, rI, two_line]
end K3

set_option Elab.async false
set_option linter.all false
set_option maxRecDepth 1000000
set_option maxHeartbeats 4000000
/-! k03: what the defs answer, part 4: rows, sides, later rows. -/
namespace K3
open PySem Rf Lw
theorem mk_rI (f o : List Int) : Val.tup [tI f, tI o] = rI f o := rfl
structure Row (f o : List Int) : Prop where
  t : Tight f o
  s1 : okS f
  s2 : okS o
  l1 : f.length ≤ 60
  l2 : o.length ≤ 60
theorem E3 {n : Nat} {f o : List Int} : callN p (n + 1) 3 [rI f o, .int 2] = .ok (.bl true) (rI f o) := by
  refine callN_run (fd := f3) rfl fun c hc _ _ => ?_
  clear hc
  refine run_ret (r := [some (.int 2)]) rfl ?_
  simp [f3, enter, tru_bl, len_rI, cmp_eq_int]
theorem E3l {n : Nat} {xs : List Val} : callN p (n + 1) 3 [.lst xs, .int 2] = .ok (.bl false) (.lst xs) := by
  refine callN_run (fd := f3) rfl fun c hc _ _ => ?_
  clear hc
  refine run_ret (r := [some (.int 2)]) rfl ?_
  simp [f3, enter, tru_bl, isTy]
theorem E9 {n : Nat} {b a : List Int} (ha : a ≠ []) (s1 : okS b) (s2 : okS a) (l1 : b.length ≤ 60) (l2 : a.length ≤ 60) : callN p (n + 4) 9 [rI b a] = .ok (.bl (decide ((tl b (shR a)).1 = b ∧ (tl b (shR a)).2 = a))) (rI b a) := by
  refine callN_run (fd := f9) rfl fun c hc _ _ => ?_
  have e3 := via hc (E3 (n := n + 2) (f := b) (o := a))
  have e6 := via hc (E6 (n := n) s1 l1)
  have e6' := via hc (E6 (n := n) s2 l2)
  have e8 := via hc (E8 (n := n) (f := b) ha l2 (by omega))
  clear hc
  refine run_ret (r := []) rfl ?_
  simp [f9, enter, evT, lentE, lentEs, lentOk, C.val, e3, tru_bl, it0_rI, it1_rI, e6, e6', nil_tI, eq_tI, ha, e8, eq_rI]
theorem E9l {n : Nat} {xs : List Val} : callN p (n + 4) 9 [.lst xs] = .ok (.bl false) (.lst xs) := by
  refine callN_run (fd := f9) rfl fun c hc _ _ => ?_
  have e3 := via hc (E3l (n := n + 2) (xs := xs))
  clear hc
  refine run_ret (r := []) rfl ?_
  simp [f9, enter, evT, lentE, lentEs, lentOk, C.val, e3, tru_bl]
theorem asg_name {i : Nat} {v : Val} {ρ : Rf.Env} : Rf.assign (.name i) v ρ = some (setV ρ i v) := rfl
theorem asg_rI {i j : Nat} {f o : List Int} {ρ : Rf.Env} : Rf.assign (.tup [i, j]) (rI f o) ρ = some (setV (setV ρ i (tI f)) j (tI o)) := rfl
theorem at_sq {f o : List Int} {k : Nat} (ho : o ≠ []) (h : ¬ k < f.length) : ∃ z : Int, binop .mod (.int ((k : Int) - (f.length : Int))) (.int (o.length : Nat)) = some (.int z) ∧ L2.atI o z = some (sq f o k) := by
  have hp : 0 < o.length := List.length_pos_iff.mpr ho
  have hm := Nat.mod_lt (k - f.length) hp
  refine ⟨((k - f.length) % o.length : Nat), ?_, ?_⟩
  · rw [mod_pos (by omega)]
    have e : (k : Int) - (f.length : Int) = ((k - f.length : Nat) : Int) := by omega
    rw [e]
    rfl
  · rw [at_nat hm]
    have e := cy_get hm
    rw [List.getElem?_eq_getElem hm, cy_mod] at e
    rw [e]
    unfold sq
    rw [if_neg h]
theorem at_sq0 {f o : List Int} {k : Nat} (h : k < f.length) : L2.atI f (k : Int) = some (sq f o k) := by
  rw [at_nat h]
  unfold sq
  rw [if_pos h, List.getD_eq_getElem?_getD, List.getElem?_eq_getElem h]
  rfl
theorem E10 {n : Nat} {f o : List Int} {k : Nat} (ho : o ≠ []) : callN p (n + 1) 10 [rI f o, .int (k : Nat)] = .ok (.int (sq f o k)) (rI f o) := by
  refine callN_run (fd := f10) rfl fun c hc _ _ => ?_
  clear hc
  refine run_ret (r := [some (.int (k : Nat)), some (tI f), some (tI o)]) rfl ?_
  by_cases h : k < f.length
  · have h' : (k : Int) < (f.length : Int) := by omega
    simp [f10, enter, asg_rI, len_tI, cmp_lt_int, h', tru_bl, it_tI, at_sq0 (o := o) h]
  · have h' : ¬ (k : Int) < (f.length : Int) := by omega
    obtain ⟨z, e1, e2⟩ := at_sq ho h
    simp [f10, enter, asg_rI, len_tI, cmp_lt_int, h', tru_bl, it_tI, sub_int, e1, e2]
theorem E27 {n : Nat} {f o : List Int} {k : Nat} (ho : o ≠ []) : callN p (n + 1) 27 [rI f o, .int (k : Nat)] = .ok (.int (sq f o k)) (rI f o) := by
  refine callN_run (fd := f27) rfl fun c hc _ _ => ?_
  clear hc
  refine run_ret (r := [some (.int (k : Nat))]) rfl ?_
  by_cases h : k < f.length
  · have h' : (k : Int) < (f.length : Int) := by omega
    simp [f27, enter, C.val, it0_rI, len_tI, cmp_lt_int, h', tru_bl, it_tI, at_sq0 (o := o) h]
  · have h' : ¬ (k : Int) < (f.length : Int) := by omega
    obtain ⟨z, e1, e2⟩ := at_sq ho h
    simp [f27, enter, C.val, it0_rI, it1_rI, len_tI, cmp_lt_int, h', tru_bl, it_tI, sub_int, e1, e2]
theorem E11 {n : Nat} {f o : List Int} {k : Nat} (ho : o ≠ []) (l2 : o.length ≤ 60) : callN p (n + 1) 11 [rI f o, .int (k : Nat)] = .ok (rI (mv f o k).1 (mv f o k).2) (rI f o) := by
  refine callN_run (fd := f11) rfl fun c hc _ _ => ?_
  clear hc
  have hp : 0 < o.length := List.length_pos_iff.mpr ho
  by_cases h : k ≤ f.length
  · have h' : (k : Int) ≤ (f.length : Int) := by omega
    refine run_ret (r := [some (.int (k : Nat)), none, some (tI f), some (tI o)]) rfl ?_
    simp [f11, enter, asg_rI, evT, lentE, lentOk, len_tI, cmp_le_int, h', tru_bl, sl_tI, cut_from, mv, h, mk_rI, two_line]
  · have h' : ¬ (k : Int) ≤ (f.length : Int) := by omega
    have hm := Nat.mod_lt (k - f.length) hp
    have q1 : binop .mod (.int ((k : Int) - (f.length : Int))) (.int (o.length : Nat)) = some (.int (((k - f.length) % o.length : Nat) : Int)) := by
      rw [mod_pos (by omega)]
      have e : (k : Int) - (f.length : Int) = ((k - f.length : Nat) : Int) := by omega
      rw [e]
      rfl
    generalize hz : (k - f.length) % o.length = z at q1 hm
    have q2 : binop .add (tI (o.drop z)) (tI (o.take z)) = some (tI (o.drop z ++ o.take z)) := add_tI (by simp; omega)
    refine run_ret (r := [some (.int (k : Nat)), some (.int (z : Nat)), some (tI f), some (tI o)]) rfl ?_
    simp [f11, enter, asg_rI, evT, lentE, lentOk, len_tI, cmp_le_int, h', tru_bl, sl_tI, cut_from, cut_to, sub_int, q1, q2, asg_name, nil_tI, mv, h, hz, mk_rI, two_line]
theorem E14 {n : Nat} {f o : List Int} {v : Val} (R : Row f o) (hv : fine v = true) (hd : deep v = 2) (ht : tupV v = rI f o) : callN p (n + 5) 14 [v] = .ok (rI f o) v := by
  refine callN_run (fd := f14) rfl fun c hc _ _ => ?_
  have e4 := via hc (tupled_ok (p := p) (i := 4) (k := []) rfl (n + 4) v hv (by omega))
  rw [ht] at e4
  have e9 := via hc (E9 (n := n) R.t.ne R.s1 R.s2 R.l1 R.l2)
  rw [shR_self R.t.ne R.t.pr, tl_tight R.t] at e9
  clear hc
  refine run_ret (r := [some (rI f o)]) rfl ?_
  simp [f14, enter, e4, Rf.assign, evT, lentE, lentEs, lentOk, e9, tru_bl]
theorem E1 {n k : Nat} : callN p (n + 2) 1 [.int (k : Nat), .int 0] = .ok (.bl true) (.int (k : Nat)) := by
  refine callN_run (fd := f1) rfl fun c hc _ _ => ?_
  have e0 := via hc (is_number_ok (p := p) (i := 0) (n := n) (v := .int (k : Nat)) rfl rfl)
  simp only at e0
  clear hc
  refine run_ret (r := [some (.int 0)]) rfl ?_
  simp [f1, enter, e0, tru_bl, cmp_ge_int]
theorem E16 {n k : Nat} {f o : List Int} {v : Val} (R : Row f o) (hv : fine v = true) (hd : deep v = 2) (ht : tupV v = rI f o) : callN p (n + 6) 16 [v, .int (k : Nat)] = .ok (.int (sq f o k)) v := by
  refine callN_run (fd := f16) rfl fun c hc _ _ => ?_
  have e14 := via hc (E14 (n := n) R hv hd ht)
  have e1 := via hc (E1 (n := n + 3) (k := k))
  have e10 := via hc (E10 (n := n + 4) (f := f) (k := k) R.t.ne)
  clear hc
  refine run_ret (r := [some (.int (k : Nat)), some (rI f o)]) rfl ?_
  simp [f16, enter, e14, Rf.assign, evT, lentE, lentEs, lentOk, C.val, e1, tru_bl, e10]
theorem E17 {n k : Nat} {f o : List Int} {v : Val} (R : Row f o) (hv : fine v = true) (hd : deep v = 2) (ht : tupV v = rI f o) : callN p (n + 6) 17 [v, .int (k : Nat)] = .ok (rI (mv f o k).1 (mv f o k).2) v := by
  refine callN_run (fd := f17) rfl fun c hc _ _ => ?_
  have e14 := via hc (E14 (n := n) R hv hd ht)
  have e1 := via hc (E1 (n := n + 3) (k := k))
  have e11 := via hc (E11 (n := n + 4) (f := f) (k := k) R.t.ne R.l2)
  clear hc
  refine run_ret (r := [some (.int (k : Nat)), some (rI f o)]) rfl ?_
  simp [f17, enter, e14, Rf.assign, evT, lentE, lentEs, lentOk, C.val, e1, tru_bl, e11]
theorem E15 {n : Nat} {f o : List Int} {v w : Val} (ho : o ≠ []) (s1 : okS f) (s2 : okS o) (l1 : f.length ≤ 60) (l2 : o.length ≤ 60) (hv : fine v = true) (hv2 : deep v = 1) (hv3 : tupV v = tI f) (hw : fine w = true) (hw2 : deep w = 1) (hw3 : tupV w = tI o) :
    callN p (n + 4) 15 [v, w] = .ok (rI (tl f (shR o)).1 (tl f (shR o)).2) v := by
  refine callN_run (fd := f15) rfl fun c hc _ _ => ?_
  have e4 := via hc (tupled_ok (p := p) (i := 4) (k := []) rfl (n + 3) v hv (by omega))
  have e4' := via hc (tupled_ok (p := p) (i := 4) (k := []) rfl (n + 3) w hw (by omega))
  rw [hv3] at e4; rw [hw3] at e4'
  have e6 := via hc (E6 (n := n) s1 l1)
  have e6' := via hc (E6 (n := n) s2 l2)
  have e8 := via hc (E8 (n := n) (f := f) ho l2 (by omega))
  clear hc
  refine run_ret (r := [some w, some (tI f), some (tI o)]) rfl ?_
  simp [f15, enter, e4, e4', setAll, evT, lentE, lentEs, lentOk, e6, e6', tru_bl, nil_tI, eq_tI, ho, e8]
end K3

set_option Elab.async false
set_option linter.all false
set_option maxRecDepth 1000000
set_option maxHeartbeats 4000000
/-! k03: what the defs answer, part 5: from a beat on; two rows. -/
namespace K3
open PySem Rf Lw
theorem range_mem {n : Nat} {x : Val} (h : x ∈ rangeV 0 n 1) : ∃ k : Nat, k < n ∧ x = .int (k : Nat) := by
  unfold rangeV at h
  obtain ⟨k, hk, rfl⟩ := List.mem_map.mp h
  exact ⟨k, List.mem_range.mp hk, by simp⟩
theorem range_len {n : Nat} : (rangeV 0 n 1).length = n := by unfold rangeV; simp
def natOf : Val → Nat
  | .int i => i.toNat
  | _ => 0
theorem range_map {n : Nat} {α : Type} (g : Nat → α) : (rangeV 0 n 1).map (fun v => g (natOf v)) = (List.range n).map g := by
  unfold rangeV
  rw [List.map_map]
  apply List.map_congr_left
  intro k _
  simp [natOf]
theorem cut_mid {xs : List Int} {a b : Nat} (h : a ≤ b) (h2 : b ≤ xs.length) : cut xs (some (a : Int)) (some (b : Int)) = (xs.drop a).take (b - a) := by
  unfold cut sIx HT.sIx
  dsimp only
  rw [if_neg (by omega), if_neg (by omega), Int.toNat_natCast, Int.toNat_natCast, Nat.min_eq_left h2, Nat.min_eq_left (by omega)]
theorem win_take {g : Nat → Int} {b n m : Nat} (h : m ≤ n) : (win g b n).take m = win g b m := by
  unfold win
  rw [← List.map_take, List.take_range, Nat.min_eq_left h]
theorem win_mid {g : Nat → Int} {b n a m : Nat} (h : a + m ≤ n) : ((win g b n).drop a).take m = win g (b + a) m := by
  apply List.ext_getElem?
  intro k
  by_cases hk : k < m
  · rw [List.getElem?_take, if_pos hk, List.getElem?_drop, win_get (by omega), win_get hk, Nat.add_assoc]
  · rw [List.getElem?_take, if_neg hk, List.getElem?_eq_none (by rw [win_len]; omega)]
theorem r1_ok {c : Cfg} {a : E} {ρ ρ' : Rf.Env} {j : Int} (h : evE c a ρ = .ok (.int j) ρ') (hs : smallI j = true) : evIt c (.r1 a) ρ = .ok (rangeV 0 j.toNat 1) ρ' := by
  rw [ev_r1, h, bind_ok, intR_int, if_pos hs]
theorem set_step {c : Cfg} {i : Nat} {e : E} {r : Ss} {ρ ρ' : Rf.Env} {v : Val} (h : evE c e ρ = .ok v ρ') : evSs c (.cons (.set (.name i) .val e) r) ρ = evSs c r (setV ρ' i v) := by
  rw [sv_cons, sv_set, evM_val, h, toRt_ok]
  rfl
theorem ret_step {c : Cfg} {k : Bool} {e : E} {r : Ss} {ρ ρ' : Rf.Env} {v : Val} (h : evE c e ρ = .ok v ρ') : evSs c (.cons (.ret k e) r) ρ = .ret v ρ' := by
  rw [sv_cons, sv_ret, h, toRt_ok]
  rfl
theorem E28 {n k : Nat} {f o : List Int} (R : Row f o) : callN p (n + 2) 28 [rI f o, .int (k : Nat)] = .ok (rI (mv f o k).1 (mv f o k).2) (rI f o) := by
  have hp : 0 < o.length := List.length_pos_iff.mpr R.t.ne
  have l1 := R.l1
  have l2 := R.l2
  generalize hb : (if k < f.length + o.length then k else f.length + (k - f.length) % o.length) = b
  have on := on_eq R.t k b hb.symm
  have hW : win (sq f o) (b + (f.length + o.length)) o.length ≠ [] := fun e => by
    have := congrArg List.length e
    rw [win_len] at this
    exact absurd this (by show ¬ o.length = 0; omega)
  refine callN_run (fd := f28) rfl fun c hc _ _ => ?_
  have e27 : ∀ j : Nat, c.call 27 [rI f o, .int (j : Nat)] = .ok (.int (sq f o j)) (rI f o) := fun j => via hc (E27 (n := n) (f := f) (o := o) (k := j) R.t.ne)
  have e25 := via hc (E25 (n := n) (f := win (sq f o) b (f.length + o.length)) (o := win (sq f o) (b + (f.length + o.length)) o.length) hW (by rw [win_len]; exact l2) (by rw [win_len]; omega))
  rw [on] at e25
  clear hc
  have hat : evE c (.ite (.cmp .lt (.var 1) (.var 2)) (.var 1) (.bin .add (.bi .len (.cons (.itv 0 (.con (.int 0))) .nil)) (.bin .mod (.bin .sub (.var 1) (.bi .len (.cons (.itv 0 (.con (.int 0))) .nil))) (.bi .len (.cons (.itv 0 (.con (.int 1))) .nil))))) [some (rI f o), some (.int (k : Nat)), some (.int ((f.length : Int) + (o.length : Int))), none, none, none] = .ok (.int (b : Nat)) [some (rI f o), some (.int (k : Nat)), some (.int ((f.length : Int) + (o.length : Int))), none, none, none] := by
    by_cases h : k < f.length + o.length
    · have h' : (k : Int) < (f.length : Int) + (o.length : Int) := by omega
      rw [if_pos h] at hb
      subst hb
      simp [cmp_lt_int, h', tru_bl]
    · have h' : ¬ (k : Int) < (f.length : Int) + (o.length : Int) := by omega
      rw [if_neg h] at hb
      have q1 : binop .mod (.int ((k : Int) - (f.length : Int))) (.int (o.length : Nat)) = some (.int (((k - f.length) % o.length : Nat) : Int)) := by
        rw [mod_pos (by omega)]
        have e : (k : Int) - (f.length : Int) = ((k - f.length : Nat) : Int) := by omega
        rw [e]
        rfl
      generalize hz : (k - f.length) % o.length = z at q1 hb
      have e2 : (f.length : Int) + (z : Int) = (b : Int) := by omega
      simp [cmp_lt_int, h', tru_bl, C.val, it0_rI, it1_rI, len_tI, sub_int, q1, add_int, e2]
  have key : evE c (.comp [5] (.call 27 (.cons (.var 0) (.cons (.bin .add (.var 3) (.var 5)) .nil))) (.name 5) (.r1 (.bin .mul (.con (.int 2)) (.var 2))) .nil) [some (rI f o), some (.int (k : Nat)), some (.int ((f.length : Int) + (o.length : Int))), some (.int (b : Nat)), none, none] = .ok (.lst ((win (sq f o) b (2 * (f.length + o.length))).map .int)) [some (rI f o), some (.int (k : Nat)), some (.int ((f.length : Int) + (o.length : Int))), some (.int (b : Nat)), none, none] := by
    have := comp_pure (c := c) (own := [5]) (elt := .call 27 (.cons (.var 0) (.cons (.bin .add (.var 3) (.var 5)) .nil))) (tg := .name 5) (it := .r1 (.bin .mul (.con (.int 2)) (.var 2))) (ρ := [some (rI f o), some (.int (k : Nat)), some (.int ((f.length : Int) + (o.length : Int))), some (.int (b : Nat)), none, none]) (xs := rangeV 0 (2 * (f.length + o.length)) 1) (fun v => .int (sq f o (b + natOf v))) ?_ (fun x hx => ?_) (by rw [range_len, sizeLine_eq]; omega)
    · have e0 : (rangeV 0 (2 * (f.length + o.length)) 1).map (fun v => Val.int (sq f o (b + natOf v))) = (win (sq f o) b (2 * (f.length + o.length))).map .int := by
        rw [range_map (fun j => Val.int (sq f o (b + j)))]
        unfold win
        rw [List.map_map]
        apply List.map_congr_left
        intro j _
        simp only [Function.comp]
      rw [this, e0]
    · have m1 : binop .mul (.int 2) (.int ((f.length : Int) + (o.length : Int))) = some (.int (2 * ((f.length : Int) + (o.length : Int)))) := mul_l (by decide)
      have s1 : smallI (2 * ((f.length : Int) + (o.length : Int))) = true := by unfold smallI; simp; omega
      have t1 : (2 * ((f.length : Int) + (o.length : Int))).toNat = 2 * (f.length + o.length) := by omega
      rw [r1_ok (j := 2 * ((f.length : Int) + (o.length : Int))) (by rw [ev_bin, ev_con, bind_ok, ev_var]; exact congrArg (fun z => Rs.ofO z _) m1) s1, t1]
    · obtain ⟨j, hj, rfl⟩ := range_mem hx
      refine ⟨[some (rI f o), some (.int (k : Nat)), some (.int ((f.length : Int) + (o.length : Int))), some (.int (b : Nat)), none, some (.int (j : Nat))], rfl, ?_, rfl⟩
      have := e27 (b + j)
      rw [Int.natCast_add] at this
      simp [add_int, this, natOf]
  have b1 : ∀ xs : List Int, biop .tup [.lst (xs.map .int)] = some (tI xs) := fun _ => rfl
  have c1 : cut (win (sq f o) b (2 * (f.length + o.length))) none (some ((f.length : Int) + (o.length : Int))) = win (sq f o) b (f.length + o.length) := by
    have := cut_to (xs := win (sq f o) b (2 * (f.length + o.length))) (m := f.length + o.length)
    rw [Int.natCast_add] at this
    rw [this, win_take (by omega)]
  have c2 : cut (win (sq f o) b (2 * (f.length + o.length))) (some ((f.length : Int) + (o.length : Int))) (some ((f.length : Int) + (o.length : Int) + (o.length : Int))) = win (sq f o) (b + (f.length + o.length)) o.length := by
    have := cut_mid (xs := win (sq f o) b (2 * (f.length + o.length))) (a := f.length + o.length) (b := f.length + o.length + o.length) (by omega) (by rw [win_len]; omega)
    simp only [Int.natCast_add] at this
    rw [this, show f.length + o.length + o.length - (f.length + o.length) = o.length by omega, win_mid (by omega)]
  refine run_ret (r := [some (.int (k : Nat)), some (.int ((f.length : Int) + (o.length : Int))), some (.int (b : Nat)), some (tI (win (sq f o) b (2 * (f.length + o.length)))), none]) rfl ?_
  refine (set_step (ρ' := [some (rI f o), some (.int (k : Nat)), none, none, none, none]) (v := .int ((f.length : Int) + (o.length : Int))) ?_).trans ?_
  · show evE c _ [some (rI f o), some (.int (k : Nat)), none, none, none, none] = _
    simp [C.val, it0_rI, it1_rI, len_tI, add_int]
  refine (set_step hat).trans ?_
  refine (set_step (v := tI (win (sq f o) b (2 * (f.length + o.length)))) (ρ' := [some (rI f o), some (.int (k : Nat)), some (.int ((f.length : Int) + (o.length : Int))), some (.int (b : Nat)), none, none]) ?_).trans ?_
  · rewrite [ev_bi, ev_cons]
    refine (congrArg (fun z => Rs.bind (Rs.bind z _) _) key).trans ?_
    rfl
  have hA : evE c (.slc (.var 4) .none (.some (.var 2))) [some (rI f o), some (.int (k : Nat)), some (.int ((f.length : Int) + (o.length : Int))), some (.int (b : Nat)), some (tI (win (sq f o) b (2 * (f.length + o.length)))), none] = .ok (tI (win (sq f o) b (f.length + o.length))) [some (rI f o), some (.int (k : Nat)), some (.int ((f.length : Int) + (o.length : Int))), some (.int (b : Nat)), some (tI (win (sq f o) b (2 * (f.length + o.length)))), none] := by
    rewrite [ev_slc, ev_var]
    refine (congrArg (fun z => Rs.ofO z [some (rI f o), some (.int (k : Nat)), some (.int ((f.length : Int) + (o.length : Int))), some (.int (b : Nat)), some (tI (win (sq f o) b (2 * (f.length + o.length)))), none]) ((sl_tI _ _ _).trans (congrArg (fun z => some (tI z)) c1))).trans ?_
    rfl
  have hB : evE c (.slc (.var 4) (.some (.var 2)) (.some (.bin .add (.var 2) (.bi .len (.cons (.itv 0 (.con (.int 1))) .nil))))) [some (rI f o), some (.int (k : Nat)), some (.int ((f.length : Int) + (o.length : Int))), some (.int (b : Nat)), some (tI (win (sq f o) b (2 * (f.length + o.length)))), none] = .ok (tI (win (sq f o) (b + (f.length + o.length)) o.length)) [some (rI f o), some (.int (k : Nat)), some (.int ((f.length : Int) + (o.length : Int))), some (.int (b : Nat)), some (tI (win (sq f o) b (2 * (f.length + o.length)))), none] := by
    have h3 : evE c (.bin .add (.var 2) (.bi .len (.cons (.itv 0 (.con (.int 1))) .nil))) [some (rI f o), some (.int (k : Nat)), some (.int ((f.length : Int) + (o.length : Int))), some (.int (b : Nat)), some (tI (win (sq f o) b (2 * (f.length + o.length)))), none] = .ok (.int ((f.length : Int) + (o.length : Int) + (o.length : Int))) [some (rI f o), some (.int (k : Nat)), some (.int ((f.length : Int) + (o.length : Int))), some (.int (b : Nat)), some (tI (win (sq f o) b (2 * (f.length + o.length)))), none] := by
      simp [C.val, it1_rI, len_tI, add_int]
    have g4 : getV [some (rI f o), some (.int (k : Nat)), some (.int ((f.length : Int) + (o.length : Int))), some (.int (b : Nat)), some (tI (win (sq f o) b (2 * (f.length + o.length)))), none] 4 = some (tI (win (sq f o) b (2 * (f.length + o.length)))) := rfl
    have g2 : getV [some (rI f o), some (.int (k : Nat)), some (.int ((f.length : Int) + (o.length : Int))), some (.int (b : Nat)), some (tI (win (sq f o) b (2 * (f.length + o.length)))), none] 2 = some (.int ((f.length : Int) + (o.length : Int))) := rfl
    rewrite [ev_slc, ev_var, g4, ofO_some, bind_ok, ev_o1, ev_var, g2, ofO_some, bind_ok, intR_int, bind_ok, ev_o1, h3, bind_ok, intR_int, bind_ok]
    refine (congrArg (fun z => Rs.ofO z [some (rI f o), some (.int (k : Nat)), some (.int ((f.length : Int) + (o.length : Int))), some (.int (b : Nat)), some (tI (win (sq f o) b (2 * (f.length + o.length)))), none]) ((sl_tI _ _ _).trans (congrArg (fun z => some (tI z)) c2))).trans ?_
    rfl
  refine ret_step ?_
  rewrite [ev_call, ev_cons]
  show ((evE c (.slc (.var 4) .none (.some (.var 2))) [some (rI f o), some (.int (k : Nat)), some (.int ((f.length : Int) + (o.length : Int))), some (.int (b : Nat)), some (tI (win (sq f o) b (2 * (f.length + o.length)))), none]).bind _).bind _ = _
  rewrite [hA, bind_ok, ev_cons, hB, bind_ok, ev_nil, bind_ok, bind_ok, bind_ok, e25]
  rfl
end K3

set_option Elab.async false
set_option linter.all false
set_option maxRecDepth 1000000
set_option maxHeartbeats 4000000
/-! k03: what the defs answer, part 6: two rows. -/
namespace K3
open PySem Rf Lw
/-! two rows -/
theorem E12e {n : Nat} {f o : List Int} : callN p (n + 1) 12 [rI f o, rI f o] = .ok .non (rI f o) := by
  refine callN_run (fd := f12) rfl fun c hc _ _ => ?_
  clear hc
  refine run_ret (r := [some (rI f o), none]) rfl ?_
  simp [f12, enter, evT, lentE, lentOk, eq_rI, tru_bl, C.val]
theorem W12 (c : Cfg) {f o f' o' : List Int} {A B : Option Val} {d : Nat} (ca : ∀ j : Nat, c.call 10 [rI f o, .int (j : Nat)] = .ok (.int (sq f o j)) (rI f o)) (cb : ∀ j : Nat, c.call 10 [rI f' o', .int (j : Nat)] = .ok (.int (sq f' o' j)) (rI f' o')) (h1 : ∀ j, j < d → sq f o j = sq f' o' j) (h2 : sq f o d ≠ sq f' o' d) :
    ∀ (k j : Nat), j + k = d → ∀ N, k < N → whileN (evT c (.cmp .eq (.call 10 (.cons (.var 0) (.cons (.var 2) .nil))) (.call 10 (.cons (.var 1) (.cons (.var 2) .nil))))) (evSs c (.cons (.set (.name 2) .val (.bin .add (.var 2) (.con (.int 1)))) .nil)) N [some (rI f o), some (rI f' o'), some (.int (j : Nat))] = .nx [some (rI f o), some (rI f' o'), some (.int (d : Nat))] := by
  intro k
  induction k with
  | zero =>
    intro j he N hN
    obtain ⟨N, rfl⟩ : ∃ N', N = N' + 1 := ⟨N - 1, by omega⟩
    have : j = d := by omega
    subst this
    rw [whileN_succ]
    simp [evT, lentE, lentEs, lentOk, ca, cb, cmp_eq_int, h2, tru_bl]
  | succ k ih =>
    intro j he N hN
    obtain ⟨N, rfl⟩ : ∃ N', N = N' + 1 := ⟨N - 1, by omega⟩
    have := ih (j + 1) (by omega) N (by omega)
    rw [whileN_succ, ← this]
    simp [evT, lentE, lentEs, lentOk, ca, cb, cmp_eq_int, h1 j (by omega), tru_bl, C.val, add_int, asg_name]
theorem E12n {n d : Nat} {f o f' o' : List Int} (ho : o ≠ []) (ho' : o' ≠ []) (hd : d < 1000) (h1 : ∀ j, j < d → sq f o j = sq f' o' j) (h2 : sq f o d ≠ sq f' o' d) : callN p (n + 2) 12 [rI f o, rI f' o'] = .ok (.int (d : Nat)) (rI f o) := by
  refine callN_run (fd := f12) rfl fun c hc _ hw => ?_
  have hne : ¬ (f = f' ∧ o = o') := fun ⟨e1, e2⟩ => by subst e1 e2; exact h2 rfl
  have hw : c.wh = 1000000000 := hw
  have w := W12 c (A := none) (B := none) (fun j => via hc (E10 (n := n) (f := f) (k := j) ho)) (fun j => via hc (E10 (n := n) (f := f') (k := j) ho')) h1 h2 d 0 (by omega) c.wh (by rw [hw]; omega)
  clear hc
  refine run_ret (r := [some (rI f' o'), some (.int (d : Nat))]) rfl ?_
  simp only [f12, enter, sv_cons, sv_ife, sv_set, sv_ret, sv_nil, evM_val, ev_con, C.val, List.map_cons, List.map_nil, List.length_cons, List.length_nil, List.replicate, List.cons_append, List.nil_append, evS_whl]
  have w : whileN _ _ c.wh [some (rI f o), some (rI f' o'), some (.int 0)] = _ := w
  simp [evT, lentE, lentOk, eq_rI, hne, tru_bl, asg_name, C.val, evS_whl]
  rw [w]
  simp
end K3

set_option Elab.async false
set_option linter.all false
set_option maxRecDepth 1000000
set_option maxHeartbeats 4000000
/-! k03: what the defs answer, part 7: unlike_at. -/
namespace K3
open PySem Rf Lw
theorem E18e {n : Nat} {f o : List Int} {v w : Val} (R : Row f o) (hv : fine v = true) (hd : deep v = 2) (ht : tupV v = rI f o) (hw : fine w = true) (hw2 : deep w = 2) (hw3 : tupV w = rI f o) : callN p (n + 6) 18 [v, w] = .ok .non v := by
  refine callN_run (fd := f18) rfl fun c hc _ _ => ?_
  have e1 := via hc (E14 (n := n) (f := f) (o := o) (v := v) R hv hd ht)
  have e2 := via hc (E14 (n := n) (f := f) (o := o) (v := w) R hw hw2 hw3)
  have e3 := via hc (E12e (n := n + 4) (f := f) (o := o))
  clear hc
  refine run_ret (r := [some w]) rfl ?_
  simp [f18, enter, e1, e2, e3]
theorem E18n {n d : Nat} {f o f' o' : List Int} {v w : Val} (R : Row f o) (R' : Row f' o') (hv : fine v = true) (hd : deep v = 2) (ht : tupV v = rI f o) (hw : fine w = true) (hw2 : deep w = 2) (hw3 : tupV w = rI f' o') (hdd : d < 1000) (h1 : ∀ j, j < d → sq f o j = sq f' o' j) (h2 : sq f o d ≠ sq f' o' d) : callN p (n + 6) 18 [v, w] = .ok (.int (d : Nat)) v := by
  refine callN_run (fd := f18) rfl fun c hc _ _ => ?_
  have e1 := via hc (E14 (n := n) (f := f) (o := o) (v := v) R hv hd ht)
  have e2 := via hc (E14 (n := n) (f := f') (o := o') (v := w) R' hw hw2 hw3)
  have e3 := via hc (E12n (n := n + 3) (d := d) (f := f) (o := o) (f' := f') (o' := o') R.t.ne R'.t.ne hdd h1 h2)
  clear hc
  refine run_ret (r := [some w]) rfl ?_
  simp [f18, enter, e1, e2, e3]
end K3

set_option Elab.async false
set_option linter.all false
set_option maxRecDepth 1000000
set_option maxHeartbeats 4000000
/-! k03: what the defs answer, part 8: the law's pairs, drawn sides. -/
namespace K3
open PySem Rf Lw
/-- a state of the script's numbers -/
def Tin (v : Val) (m : Int) : Prop := ∃ a b c : Int, v = tinV a b c ∧ 0 ≤ a ∧ 0 ≤ b ∧ 0 ≤ c ∧ c ≤ m
theorem E21 {n : Nat} {v : Val} {m t : Int} (h : Tin v t) (ht : t < 2 ^ 59) (hm : 0 < m) (hm2 : m ≤ 1000) : ∃ r v', callN p (n + 1) 21 [v, .int m] = .ok (.int r) v' ∧ 0 ≤ r ∧ r < m ∧ Tin v' (t + 1) := by
  obtain ⟨a, b, c, rfl, ha, hb, hc, hc2⟩ := h
  obtain ⟨r, a', c', e, h1, h2, h3, h4, h5⟩ := take_ok (p := p) (i := 21) (n := n) (m := m) rfl ha hb hc (by omega) hm (Int.lt_of_le_of_lt hm2 (by decide))
  exact ⟨r, _, e, h1, h2, a', b, c', rfl, h3, hb, h4, by omega⟩
end K3

set_option Elab.async false
set_option linter.all false
set_option maxRecDepth 1000000
set_option maxHeartbeats 4000000
/-! k03: what the defs answer, part 9: two rows, by the law. -/
namespace K3
open PySem Rf Lw
theorem range_filter {n : Nat} {b : Nat → Bool} : (rangeV 0 n 1).filter (fun v => b (natOf v)) = ((List.range n).filter b).map fun k => Val.int (k : Nat) := by
  unfold rangeV
  rw [List.filter_map]
  have e : ((fun v => b (natOf v)) ∘ fun k : Nat => Val.int (0 + (k : Nat) * 1)) = b := by
    funext k
    simp [Function.comp, natOf]
  rw [e]
  apply List.map_congr_left
  intro k _
  simp
theorem found31 (c : Cfg) {f o f' o' : List Int} {ρ : Rf.Env} (hρ : ρ = [some (rI f o), some (rI f' o'), none, none, none]) (ca : ∀ j : Nat, c.call 27 [rI f o, .int (j : Nat)] = .ok (.int (sq f o j)) (rI f o)) (cb : ∀ j : Nat, c.call 27 [rI f' o', .int (j : Nat)] = .ok (.int (sq f' o' j)) (rI f' o')) :
    evE c (.comp [4] (.var 4) (.name 4) (.r1 (.con (.int 130))) (.cons (.cmp .ne (.call 27 (.cons (.var 0) (.cons (.var 4) .nil))) (.call 27 (.cons (.var 1) (.cons (.var 4) .nil)))) .nil)) ρ = .ok (.lst (((List.range 130).filter fun k => !decide (sq f o k = sq f' o' k)).map fun k => Val.int (k : Nat))) ρ := by
  subst hρ
  have := comp_filter (c := c) (own := [4]) (elt := .var 4) (t := .cmp .ne (.call 27 (.cons (.var 0) (.cons (.var 4) .nil))) (.call 27 (.cons (.var 1) (.cons (.var 4) .nil)))) (tg := .name 4) (it := .r1 (.con (.int 130))) (ρ := [some (rI f o), some (rI f' o'), none, none, none]) (xs := rangeV 0 130 1) (fun v => v) (fun v => !decide (sq f o (natOf v) = sq f' o' (natOf v))) ?_ (fun x hx => ?_) (by rw [range_len, sizeLine_eq]; decide)
  · rewrite [this, List.map_id', range_filter (b := fun k => !decide (sq f o k = sq f' o' k))]
    rfl
  · exact r1_ok (j := 130) (by rw [ev_con]; rfl) (by decide)
  · obtain ⟨j, hj, rfl⟩ := range_mem hx
    refine ⟨[some (rI f o), some (rI f' o'), none, none, some (.int (j : Nat))], rfl, ⟨.bl (!decide (sq f o j = sq f' o' j)), ?_, ?_⟩, fun _ => ?_, rfl⟩
    · simp [ca, cb, cmp_ne_int]
    · show some (!decide (sq f o j = sq f' o' j)) = some (!decide (sq f o (natOf (.int (j : Nat))) = sq f' o' (natOf (.int (j : Nat)))))
      have e : natOf (.int (j : Nat)) = j := by simp [natOf]
      rw [e]
    · simp
end K3

set_option Elab.async false
set_option linter.all false
set_option maxRecDepth 1000000
set_option maxHeartbeats 4000000
/-! k03: what the defs answer, part 10: first differences. -/
namespace K3
open PySem Rf Lw
/-- the beats below 130 at which two rows differ: none, or a first one -/
theorem first_diff (g g' : Nat → Int) : ((List.range 130).filter fun k => !decide (g k = g' k)) = [] ∧ (∀ k, k < 130 → g k = g' k) ∨ ∃ d r, ((List.range 130).filter fun k => !decide (g k = g' k)) = d :: r ∧ d < 130 ∧ g d ≠ g' d ∧ ∀ j, j < d → g j = g' j := by
  by_cases h : ∀ k, k < 130 → g k = g' k
  · refine .inl ⟨?_, h⟩
    rw [List.filter_eq_nil_iff]
    intro k hk
    simp [h k (List.mem_range.mp hk)]
  · right
    have : ∃ d, d < 130 ∧ g d ≠ g' d ∧ ∀ j, j < d → g j = g' j := by
      have h2 : ∃ k, k < 130 ∧ g k ≠ g' k := Classical.byContradiction fun z => h fun k hk => Classical.byContradiction fun y => z ⟨k, hk, y⟩
      obtain ⟨k, hk, hne⟩ := h2
      induction k using Nat.strongRecOn with
      | ind k ih =>
        by_cases z : ∀ j, j < k → g j = g' j
        · exact ⟨k, hk, hne, z⟩
        · have ⟨j, hj, hj2⟩ : ∃ j, j < k ∧ g j ≠ g' j := Classical.byContradiction fun y => z fun j hj => Classical.byContradiction fun x => y ⟨j, hj, x⟩
          exact ih j hj (by omega) hj2
    obtain ⟨d, h1, h2, h3⟩ := this
    have e : List.range 130 = List.range d ++ d :: (List.range' (d + 1) (129 - d)) := by
      rw [List.range_eq_range', List.range_eq_range', ← List.range'_succ, show 129 - d + 1 = 130 - d by omega]
      have := List.range'_append (s := 0) (m := d) (n := 130 - d) (step := 1)
      simp at this
      rw [this]
      congr 1
      omega
    refine ⟨d, (List.range' (d + 1) (129 - d)).filter (fun k => !decide (g k = g' k)), ?_, h1, h2, h3⟩
    rw [e, List.filter_append, List.filter_cons]
    have e1 : (List.range d).filter (fun k => !decide (g k = g' k)) = [] := by
      rw [List.filter_eq_nil_iff]
      intro k hk
      simp [h3 k (List.mem_range.mp hk)]
    rw [e1, if_pos (by simp [h2]), List.nil_append]
end K3

set_option Elab.async false
set_option linter.all false
set_option maxRecDepth 1000000
set_option maxHeartbeats 4000000
/-! k03: what the defs answer, part 11: _law_two_right. -/
namespace K3
open PySem Rf Lw
theorem lstV_rI (f o : List Int) : lstV (rI f o) = .lst [.lst (f.map .int), .lst (o.map .int)] := by
  unfold rI
  simp [lstV, lstVs, lstV_tI]
theorem tupV_lr (f o : List Int) : tupV (lstV (rI f o)) = rI f o := by
  rw [lstV_rI]
  simp only [tupV, tupVs, tupV_ints]
  rfl
theorem fine_lr {f o : List Int} (h1 : f.length ≤ 16777216) (h2 : o.length ≤ 16777216) : fine (lstV (rI f o)) = true := by
  rw [lstV_rI]
  simp [fine, fines, fine_ints, h1, h2]
theorem deep_lr (f o : List Int) : deep (lstV (rI f o)) = 2 := by
  rw [lstV_rI]
  simp [deep, deeps, deeps_ints]
end K3

set_option Elab.async false
set_option linter.all false
set_option maxRecDepth 1000000
set_option maxHeartbeats 4000000
/-! k03: what the defs answer, part 12: _law_two_right. -/
namespace K3
open PySem Rf Lw
def lI (xs : List Int) : Val := .lst (xs.map .int)
theorem okD_lI (xs : List Int) : okD (lI xs) = true := by
  unfold okD SeqAt.shaped lI
  simp only [toD, PyData.canLay0, PyData.depth, lay_ints, depth_ints]
  rfl
theorem eqV_lI (xs ys : List Int) : eqV (lI xs) (lI ys) = decide (xs = ys) := by
  unfold eqV lI
  simp only [toD, PyData.eqv, eqv_ints]
theorem ne_lI (xs ys : List Int) : cmpop .ne (lI xs) (lI ys) = some (!decide (xs = ys)) := by
  have e : cmpop .ne (lI xs) (lI ys) = if okD (lI xs) && okD (lI ys) then some (!eqV (lI xs) (lI ys)) else none := rfl
  rw [e, okD_lI, okD_lI, eqV_lI]; rfl
theorem perm10 (a b : Val) : permK [1, 0] [a, b] = [b, a] := rfl
theorem h23 : p.fns[23]? = some (Sh.lists 23) := rfl
theorem h24 : p.fns[24]? = some (Sh.same 24) := rfl
theorem E31 {n : Nat} {f o f' o' : List Int} (R : Row f o) (R' : Row f' o') (b1 : f.length ≤ 5) (b2 : o.length ≤ 6) (b3 : f'.length ≤ 5) (b4 : o'.length ≤ 6) : callN p (n + 8) 31 [rI f o, rI f' o'] = .ok (.bl true) (rI f o) := by
  have fr : fine (rI f o) = true := fine_rI (by omega) (by omega)
  have fr' : fine (rI f' o') = true := fine_rI (by omega) (by omega)
  have fl' : fine (lstV (rI f' o')) = true := fine_lr (by omega) (by omega)
  refine callN_run (fd := f31) rfl fun c hc _ _ => ?_
  have c27 : ∀ j : Nat, c.call 27 [rI f o, .int (j : Nat)] = .ok (.int (sq f o j)) (rI f o) := fun j => via hc (E27 (n := n + 6) (f := f) (o := o) (k := j) R.t.ne)
  have c27' : ∀ j : Nat, c.call 27 [rI f' o', .int (j : Nat)] = .ok (.int (sq f' o' j)) (rI f' o') := fun j => via hc (E27 (n := n + 6) (f := f') (o := o') (k := j) R'.t.ne)
  have c23 := via hc (lists_ok (p := p) (i := 23) h23 (n + 7) (rI f' o') fr' (by rw [deep_rI]; omega))
  have c18s := via hc (E18e (n := n + 1) (f := f) (o := o) (v := rI f o) (w := rI f o) R fr (deep_rI f o) (tupV_rI f o) fr (deep_rI f o) (tupV_rI f o))
  have fnd := found31 c (f := f) (o := o) (f' := f') (o' := o') rfl c27 c27'
  rcases first_diff (sq f o) (sq f' o') with ⟨e, h⟩ | ⟨d, r, e, hd, hne, hlt⟩
  · obtain ⟨rfl, rfl⟩ := uniq_few R.t R'.t b1 b2 b3 b4 h
    have c18 := via hc (E18e (n := n + 1) (f := f) (o := o) (v := lstV (rI f o)) (w := rI f o) R fl' (deep_lr f o) (tupV_lr f o) fr (deep_rI f o) (tupV_rI f o))
    have c24 := via hc (same_ok (p := p) (i := 24) h24 (n + 7) (.lst [.non, .non, .non]) rfl (by simp [deep, deeps]) (by simp [deep, deeps]))
    clear hc
    rw [e] at fnd
    refine run_ret (r := [some (rI f o), some (.lst []), some .non, none]) rfl ?_
    refine (set_step fnd).trans ?_
    refine (set_step (v := .non) (ρ' := [some (rI f o), some (rI f o), some (.lst []), none, none]) ?_).trans ?_
    · have := ne_lI [] []
      have this : cmpop .ne (.lst []) (.lst []) = some false := this
      show evE c _ [some (rI f o), some (rI f o), some (.lst []), none, none] = _
      simp [this, tru_bl, C.val]
    refine ret_step ?_
    show evE c _ [some (rI f o), some (rI f o), some (.lst []), some .non, none] = _
    simp [c18, c18s, c23, c24, perm10, C.val, three_line]
  · have c18a := via hc (E18n (n := n + 1) (d := d) (f := f) (o := o) (f' := f') (o' := o') (v := rI f o) (w := rI f' o') R R' fr (deep_rI f o) (tupV_rI f o) fr' (deep_rI f' o') (tupV_rI f' o') (by omega) hlt hne)
    have c18b := via hc (E18n (n := n + 1) (d := d) (f := f') (o := o') (f' := f) (o' := o) (v := lstV (rI f' o')) (w := rI f o) R' R fl' (deep_lr f' o') (tupV_lr f' o') fr (deep_rI f o) (tupV_rI f o) (by omega) (fun j hj => (hlt j hj).symm) (Ne.symm hne))
    have c24 := via hc (same_ok (p := p) (i := 24) h24 (n + 7) (.lst [.int (d : Nat), .int (d : Nat), .non]) rfl (by simp [deep, deeps]) (by simp [deep, deeps]))
    clear hc
    rw [e] at fnd
    refine run_ret (r := [some (rI f' o'), some (.lst ((d :: r).map fun k => Val.int (k : Nat))), some (.int (d : Nat)), none]) rfl ?_
    refine (set_step fnd).trans ?_
    refine (set_step (v := .int (d : Nat)) (ρ' := [some (rI f o), some (rI f' o'), some (.lst ((d :: r).map fun k => Val.int (k : Nat))), none, none]) ?_).trans ?_
    · have e1 : Val.lst ((d :: r).map fun k => Val.int (k : Nat)) = lI ((d :: r).map fun k => ((k : Nat) : Int)) := by unfold lI; rw [List.map_map]; rfl
      have this : cmpop .ne (.lst ((d :: r).map fun k => Val.int (k : Nat))) (.lst []) = some true := by
        rw [e1]
        exact ne_lI _ []
      have i0 : itemop (.lst ((d :: r).map fun k => Val.int (k : Nat))) (.int 0) = some (.int (d : Nat)) := by
        show L2.atI _ 0 = _
        unfold L2.atI L2.ixN
        rw [if_pos (by decide), if_pos (by simp)]
        rfl
      show evE c _ [some (rI f o), some (rI f' o'), some (.lst ((d :: r).map fun k => Val.int (k : Nat))), none, none] = _
      generalize Val.lst ((d :: r).map fun k => Val.int (k : Nat)) = q at this i0 ⊢
      simp [this, i0, tru_bl, C.val]
    refine ret_step ?_
    show evE c _ [some (rI f o), some (rI f' o'), some (.lst ((d :: r).map fun k => Val.int (k : Nat))), some (.int (d : Nat)), none] = _
    generalize Val.lst ((d :: r).map fun k => Val.int (k : Nat)) = q
    simp [c18a, c18b, c18s, c23, c24, perm10, C.val, three_line]
end K3

set_option Elab.async false
set_option linter.all false
set_option maxRecDepth 1000000
set_option maxHeartbeats 4000000
/-! k03: what the defs answer, part 13: pairs; drawn sides. -/
namespace K3
open PySem Rf Lw
theorem ext_step {c : Cfg} {i : Nat} {e : E} {r : Ss} {ρ ρ' : Rf.Env} {xs ys zs : List Val} (h0 : getV ρ i = some (.lst xs)) (h : evE c e ρ = .ok (.lst zs) ρ') (h1 : getV ρ' i = some (.lst ys)) (hl : ys.length + zs.length ≤ PySem.sizeLine) : evSs c (.cons (.ext i e) r) ρ = evSs c r (setV ρ' i (.lst (ys ++ zs))) := by
  rw [sv_cons]
  have : evS c (.ext i e) ρ = .nx (setV ρ' i (.lst (ys ++ zs))) := by
    simp only [evS, h0, h, toRt_ok, h1, if_pos hl]
  rw [this, then_nx]
theorem set_frsh {c : Cfg} {i : Nat} {e : E} {r : Ss} {ρ ρ' : Rf.Env} {v : Val} (h : evE c e ρ = .ok v ρ') : evSs c (.cons (.set (.name i) .frsh e) r) ρ = evSs c r (setV ρ' i v) := by
  rw [sv_cons, sv_set, evM_frsh, h, toRt_ok]
  rfl
theorem E26 {n : Nat} {A B : List Val} (h : A.length * B.length ≤ 1000) (hB : B.length ≤ 1000) : ∃ o, callN p (n + 1) 26 [.lst A, .lst B] = .ok (.lst (A.flatMap fun a => B.map fun b => .tup [a, b])) o := by
  refine ⟨.lst A, callN_run (fd := f26) rfl fun c hc _ _ => ?_⟩
  clear hc
  have hs : PySem.sizeLine = 16777216 := PySem.sizeLine_eq
  have loop : ∀ (L : List Val) (acc : List Val) (x : Option Val), acc.length + L.length * B.length ≤ 1000 → ∃ y, forL (stepF c (.name 3) (.cons (.ext 2 (.comp [4] (.tup (.cons (.var 3) (.cons (.var 4) .nil))) (.name 4) (.seq (.var 1)) .nil)) .nil)) L [some (.lst A), some (.lst B), some (.lst acc), x, none] = .nx [some (.lst A), some (.lst B), some (.lst (acc ++ L.flatMap fun a => B.map fun b => .tup [a, b])), y, none] := by
    intro L
    induction L with
    | nil => intro acc x _; exact ⟨x, by rw [forL_nil]; simp⟩
    | cons a L ih =>
      intro acc x hl
      rw [List.length_cons, Nat.add_mul, Nat.one_mul] at hl
      obtain ⟨y, e⟩ := ih (acc ++ B.map fun b => .tup [a, b]) (some a) (by rw [List.length_append, List.length_map]; omega)
      refine ⟨y, ?_⟩
      rw [forL_cons]
      have key : evE c (.comp [4] (.tup (.cons (.var 3) (.cons (.var 4) .nil))) (.name 4) (.seq (.var 1)) .nil) [some (.lst A), some (.lst B), some (.lst acc), some a, none] = .ok (.lst (B.map fun b => .tup [a, b])) [some (.lst A), some (.lst B), some (.lst acc), some a, none] := by
        refine comp_pure (xs := B) (fun b => .tup [a, b]) ?_ (fun b hb => ⟨[some (.lst A), some (.lst B), some (.lst acc), some a, some b], rfl, ?_, rfl⟩) (by rw [hs]; omega)
        · simp [items_lst]
        · simp [two_line]
      have st : stepF c (.name 3) (.cons (.ext 2 (.comp [4] (.tup (.cons (.var 3) (.cons (.var 4) .nil))) (.name 4) (.seq (.var 1)) .nil)) .nil) a [some (.lst A), some (.lst B), some (.lst acc), x, none] = .nx [some (.lst A), some (.lst B), some (.lst (acc ++ B.map fun b => .tup [a, b])), some a, none] := by
        show evSs c _ [some (.lst A), some (.lst B), some (.lst acc), some a, none] = _
        refine (ext_step (xs := acc) (ys := acc) rfl key rfl (by rw [List.length_map, hs]; omega)).trans ?_
        rw [sv_nil]
        rfl
      rw [st, then_nx, e, List.flatMap_cons, List.append_assoc]
  obtain ⟨y, e⟩ := loop A [] none (by simpa using h)
  rw [List.nil_append] at e
  refine run_ret (r := [some (.lst B), some (.lst (A.flatMap fun a => B.map fun b => .tup [a, b])), y, none]) rfl ?_
  refine (set_frsh (v := .lst []) (ρ' := [some (.lst A), some (.lst B), none, none, none]) ?_).trans ?_
  · rw [ev_lst, ev_nil, bind_ok, if_pos (show ([] : List Val).length ≤ PySem.sizeLine from Nat.zero_le _)]
    rfl
  show evSs c (.cons (.fr (.name 3) (.seq (.var 0)) _) _) [some (.lst A), some (.lst B), some (.lst []), none, none] = _
  rw [sv_cons, sv_fr, ev_seq, ev_var]
  show (forL _ A [some (.lst A), some (.lst B), some (.lst []), none, none]).then _ = _
  rw [e, then_nx]
  exact ret_step rfl
end K3

set_option Elab.async false
set_option linter.all false
set_option maxRecDepth 1000000
set_option maxHeartbeats 4000000
/-! k03: what the defs answer, part 14: drawn sides. -/
namespace K3
open PySem Rf Lw
theorem forC_inv {step : Val → Rf.Env → Rs (List Val)} {P : List Val → Rf.Env → Prop} : ∀ {xs acc : List Val} {ρ : Rf.Env}, (∀ x ∈ xs, ∀ acc ρ, P acc ρ → ∃ ys ρ', step x ρ = .ok ys ρ' ∧ P (acc ++ ys) ρ') → P acc ρ → ∃ ys ρ', forC step xs ρ = .ok ys ρ' ∧ P (acc ++ ys) ρ'
  | [], acc, ρ, _, h => ⟨[], ρ, rfl, by simpa using h⟩
  | x :: xs, acc, ρ, H, h => by
    obtain ⟨ys, ρ1, e1, h1⟩ := H x List.mem_cons_self acc ρ h
    obtain ⟨zs, ρ2, e2, h2⟩ := forC_inv (xs := xs) (fun x hx => H x (List.mem_cons_of_mem _ hx)) h1
    refine ⟨ys ++ zs, ρ2, ?_, by rw [← List.append_assoc]; exact h2⟩
    show (step x ρ).bind _ = _
    rw [e1, bind_ok, e2]
    rfl
theorem E29 {n m : Nat} {v : Val} {t k : Int} (h : Tin v t) (ht : t < 2 ^ 58) (hm : m ≤ 60) (hk : 0 < k) (hk2 : k ≤ 1000) : ∃ xs v', callN p (n + 2) 29 [v, .int (m : Nat), .int k] = .ok (tI xs) v' ∧ xs.length = m ∧ (∀ x ∈ xs, 0 ≤ x ∧ x < k) ∧ Tin v' (t + m) := by
  have H := fun (v : Val) (t : Int) (h : Tin v t) (ht : t < 2 ^ 59) => E21 (n := n) h ht hk hk2
  obtain ⟨ys, ρ', e, v', g, rfl, hT, zs, rfl, hb⟩ : ∃ ys ρ', forC (stepC ⟨callN p (n + 1), fun x => p.vals.lookup x, p.wh⟩ [3] (.calll 21 0 (.cons (.var 2) .nil)) (.name 3) .nil) (rangeV 0 m 1) [some v, some (.int (m : Nat)), some (.int k), none] = .ok ys ρ' ∧ ∃ v' g, ρ' = [some v', some (.int (m : Nat)), some (.int k), g] ∧ Tin v' (t + ys.length) ∧ ∃ zs : List Int, ys = zs.map .int ∧ (zs.length = m) ∧ ∀ x ∈ zs, 0 ≤ x ∧ x < k := by
    have key : ∀ j : Nat, j ≤ m → ∀ (ρ : Rf.Env) (v : Val) (g : Option Val), Tin v (t + (m - j : Nat)) → ρ = [some v, some (.int (m : Nat)), some (.int k), g] → ∀ xs : List Val, xs.length = j → ∃ ys ρ', forC (stepC ⟨callN p (n + 1), fun x => p.vals.lookup x, p.wh⟩ [3] (.calll 21 0 (.cons (.var 2) .nil)) (.name 3) .nil) xs ρ = .ok ys ρ' ∧ ∃ v' g, ρ' = [some v', some (.int (m : Nat)), some (.int k), g] ∧ Tin v' (t + m) ∧ ∃ zs : List Int, ys = zs.map .int ∧ (zs.length = j) ∧ ∀ x ∈ zs, 0 ≤ x ∧ x < k := by
      intro j
      induction j with
      | zero =>
        intro _ ρ v g hv hρ xs hx
        cases List.length_eq_zero_iff.mp hx
        exact ⟨[], ρ, rfl, v, g, hρ, by simpa using hv, [], rfl, rfl, fun x hx => by cases hx⟩
      | succ j ih =>
        intro hj ρ v g hv hρ xs hx
        match xs, hx with
        | x :: xs, hx =>
          obtain ⟨r, v1, e1, r0, r1, T1⟩ := H v _ hv (by omega)
          obtain ⟨ys, ρ', e2, v', g', hρ', hT, zs, rfl, hz, hb⟩ := ih (by omega) [some v1, some (.int (m : Nat)), some (.int k), some x] v1 (some x) (by
            have : t + ((m - (j + 1) : Nat) : Int) + 1 = t + ((m - j : Nat) : Int) := by omega
            rw [← this]; exact T1) rfl xs (by simpa using hx)
          refine ⟨.int r :: zs.map .int, ρ', ?_, v', g', hρ', hT, r :: zs, rfl, by simp [hz], fun y hy => ?_⟩
          · subst hρ
            have st : stepC ⟨callN p (n + 1), fun x => p.vals.lookup x, p.wh⟩ [3] (.calll 21 0 (.cons (.var 2) .nil)) (.name 3) .nil x [some v, some (.int (m : Nat)), some (.int k), g] = .ok [.int r] [some v1, some (.int (m : Nat)), some (.int k), some x] := by
              unfold stepC
              have w : Rf.assign (.name 3) x (wipe [some v, some (.int (m : Nat)), some (.int k), g] [3]) = some [some v, some (.int (m : Nat)), some (.int k), some x] := rfl
              rw [w]
              simp only [evIf, bind_ok, if_true, ev_calll, ev_cons, ev_nil, ev_var, getV_cons0, getV_consS, ofO_some, someR_some]
              rw [e1]
              rfl
            show (stepC _ _ _ _ _ x _).bind _ = _
            rw [st, bind_ok, e2, bind_ok]
            rfl
          · rcases List.mem_cons.mp hy with z | z
            · rw [z]; exact ⟨r0, r1⟩
            · exact hb y z
    obtain ⟨ys, ρ', e, v', g, hρ, hT, zs, rfl, hz, hb⟩ := key m (Nat.le_refl m) _ v none (by simpa using h) rfl (rangeV 0 m 1) range_len
    exact ⟨_, ρ', e, v', g, hρ, by simpa [hz] using hT, zs, rfl, hz, hb⟩
  obtain ⟨hz, hb⟩ := hb
  refine ⟨zs, v', ?_, hz, hb, by simpa [hz] using hT⟩
  rw [callN_eq (fd := f29) rfl]
  refine run_ret (r := [some (.int (m : Nat)), some (.int k), none]) rfl ?_
  refine ret_step ?_
  have s1 : smallI (m : Int) = true := by unfold smallI; simp; omega
  have hl : (zs.map Val.int).length ≤ PySem.sizeLine := by rw [List.length_map, PySem.sizeLine_eq]; omega
  show evE _ (.bi .tup (.cons (.comp [3] _ _ _ _) .nil)) [some v, some (.int (m : Nat)), some (.int k), none] = _
  have g1 : evE ⟨callN p (n + 1), fun x => p.vals.lookup x, p.wh⟩ (.var 1) [some v, some (.int (m : Nat)), some (.int k), none] = .ok (.int (m : Nat)) [some v, some (.int (m : Nat)), some (.int k), none] := by rw [ev_var]; rfl
  rw [ev_bi, ev_cons, comp_eq, r1_ok g1 s1, bind_ok, Int.toNat_natCast, e, calm_ok, bind_ok, if_pos hl, bind_ok]
  simp only [ev_nil, bind_ok]
  rfl
end K3

set_option Elab.async false
set_option linter.all false
set_option maxRecDepth 1000000
set_option maxHeartbeats 4000000
/-! k03: what the defs answer, part 15: _law_row_right. -/
namespace K3
open PySem Rf Lw
theorem row_of {b a : List Int} (ha : a ≠ []) (sb : okS b) (sa : okS a) (lb : b.length ≤ 60) (la : a.length ≤ 60) : Row (tl b (shR a)).1 (tl b (shR a)).2 ∧ (tl b (shR a)).1.length ≤ b.length ∧ (tl b (shR a)).2.length ≤ a.length ∧ (tl b (shR a)).2.length = per a := by
  obtain ⟨h1, h2, h3, h4, h5⟩ := tlr_spec b.reverse (shR a) (shR_ne ha) (shR_prim ha)
  have hl := shR_len ha
  have hp := (per_spec ha).2.1
  have hs : okS (shR a) := fun x hx => sa x (List.mem_of_mem_take hx)
  rw [List.length_reverse] at h3
  have mem : ∀ x, x ∈ (tl b (shR a)).1 ∨ x ∈ (tl b (shR a)).2 → 0 ≤ x ∧ x ≤ 2 := fun x hx => by
    rcases h5 x hx with z | z
    · exact sb x (List.mem_reverse.mp z)
    · exact hs x z
  have e2 : (tl b (shR a)).2.length = (shR a).length := h2
  have e1 : (tl b (shR a)).1.length ≤ b.length := h3
  exact ⟨⟨h1, fun x hx => mem x (.inl hx), fun x hx => mem x (.inr hx), by omega, by omega⟩, e1, by omega, by omega⟩
theorem E30 {n : Nat} {v : Val} {t : Int} {b a : List Int} (h : Tin v t) (ht : t < 2 ^ 58) (ha : a ≠ []) (sb : okS b) (sa : okS a) (lb : b.length ≤ 60) (la : a.length ≤ 60) : ∃ v', callN p (n + 8) 30 [v, tI b, tI a] = .ok (.bl true) v' ∧ Tin v' (t + 2) := by
  obtain ⟨R, l1, l2, l3⟩ := row_of ha sb sa lb la
  have E := fun (c : Cfg) (hc : c.call = callN p (n + 7)) => via hc (E25 (n := n + 6) (f := b) (o := a) ha la (by omega))
  have D := fun (c : Cfg) (hc : c.call = callN p (n + 7)) => via hc (E15 (n := n + 3) (v := tI b) (w := tI a) ha sb sa lb la (fine_tI (by omega)) (deep_tI b) (tupV_tI b) (fine_tI (by omega)) (deep_tI a) (tupV_tI a))
  have fb : fine (.lst (b.map Val.int)) = true := by simp [fine, fine_ints]; omega
  have fa : fine (.lst (a.map Val.int)) = true := by simp [fine, fine_ints]; omega
  have db : deep (.lst (b.map Val.int)) = 1 := by simp only [deep, deeps_ints]
  have da : deep (.lst (a.map Val.int)) = 1 := by simp only [deep, deeps_ints]
  have D2 := fun (c : Cfg) (hc : c.call = callN p (n + 7)) => via hc (E15 (n := n + 3) (v := .lst (b.map .int)) (w := .lst (a.map .int)) ha sb sa lb la fb db (tupV_lI b) fa da (tupV_lI a))
  have D3 := fun (c : Cfg) (hc : c.call = callN p (n + 7)) => via hc (E9 (n := n + 3) (b := b) (a := a) ha sb sa lb la)
  generalize (tl b (shR a)).1 = f at *
  generalize (tl b (shR a)).2 = o at *
  have fr : fine (rI f o) = true := fine_rI (by have := R.l1; omega) (by have := R.l2; omega)
  have fl : fine (lstV (rI f o)) = true := fine_lr (by have := R.l1; omega) (by have := R.l2; omega)
  have D4 := fun (c : Cfg) (hc : c.call = callN p (n + 7)) => via hc (E9 (n := n + 3) (b := f) (a := o) R.t.ne R.s1 R.s2 R.l1 R.l2)
  rw [shR_self R.t.ne R.t.pr, tl_tight R.t] at D4
  obtain ⟨r1, v1, e1, r10, r11, T1⟩ := E21 (n := n + 6) h (by omega) (m := 20) (by decide) (by decide)
  obtain ⟨r2, v2, e2, r20, r21, T2⟩ := E21 (n := n + 6) T1 (by omega) (m := 60) (by decide) (by decide)
  have T2 : Tin v2 (t + 2) := by have := T2; rwa [Int.add_assoc] at this
  refine ⟨v2, ?_, T2⟩
  refine callN_run (fd := f30) rfl fun c hc _ _ => ?_
  have c25 := E c hc
  have c15 := D c hc
  have c15l := D2 c hc
  have c9a := D3 c hc
  have c9b := D4 c hc
  have c9l := via hc (E9l (n := n + 3) (xs := [tI f, tI o]))
  have c23a := via hc (lists_ok (p := p) (i := 23) h23 (n + 7) (tI a) (fine_tI (by omega)) (by rw [deep_tI]; omega))
  have c23b := via hc (lists_ok (p := p) (i := 23) h23 (n + 7) (tI b) (fine_tI (by omega)) (by rw [deep_tI]; omega))
  have c23 := via hc (lists_ok (p := p) (i := 23) h23 (n + 7) (rI f o) fr (by rw [deep_rI]; omega))
  rw [lstV_tI] at c23a c23b
  have c21a := via hc e1
  have c21b := via hc e2
  have c16 : ∀ k : Nat, c.call 16 [rI f o, .int (k : Nat)] = .ok (.int (sq f o k)) (rI f o) := fun k => via hc (E16 (n := n + 1) (k := k) R fr (deep_rI f o) (tupV_rI f o))
  have c16l : ∀ k : Nat, c.call 16 [lstV (rI f o), .int (k : Nat)] = .ok (.int (sq f o k)) (lstV (rI f o)) := fun k => via hc (E16 (n := n + 1) (k := k) R fl (deep_lr f o) (tupV_lr f o))
  have c17 : ∀ k : Nat, c.call 17 [rI f o, .int (k : Nat)] = .ok (rI (mv f o k).1 (mv f o k).2) (rI f o) := fun k => via hc (E17 (n := n + 1) (k := k) R fr (deep_rI f o) (tupV_rI f o))
  have c27 : ∀ k : Nat, c.call 27 [rI f o, .int (k : Nat)] = .ok (.int (sq f o k)) (rI f o) := fun k => via hc (E27 (n := n + 6) (k := k) R.t.ne)
  have c28 : ∀ k : Nat, c.call 28 [rI f o, .int (k : Nat)] = .ok (rI (mv f o k).1 (mv f o k).2) (rI f o) := fun k => via hc (E28 (n := n + 5) (k := k) R)
  have hg : fine (.lst [rI f o, rI f o, .bl true, .bl (decide (f = b ∧ o = a)), .bl false]) = true := by simp [fine, fines, fr]
  have hgd : deep (.lst [rI f o, rI f o, .bl true, .bl (decide (f = b ∧ o = a)), .bl false]) = 3 := by simp [deep, deeps, deep_rI]
  have c24 := via hc (same_ok (p := p) (i := 24) h24 (n + 7) _ hg (by omega) (by omega))
  have mvl : ∀ k, (mv f o k).1.length ≤ 60 ∧ (mv f o k).2.length ≤ 120 := fun k => by
    have h1 := R.l1
    have h2 := R.l2
    unfold mv
    split
    · simp; omega
    · simp; omega
  have c24k : ∀ k : Nat, c.call 24 [.lst [.int (sq f o k), .int (sq f o k), rI (mv f o k).1 (mv f o k).2, rI (mv f o k).1 (mv f o k).2], .lst [.int (sq f o k), .int (sq f o k), rI (mv f o k).1 (mv f o k).2, rI (mv f o k).1 (mv f o k).2]] = .ok (.bl true) (.lst [.int (sq f o k), .int (sq f o k), rI (mv f o k).1 (mv f o k).2, rI (mv f o k).1 (mv f o k).2]) := fun k => by
    have hk : fine (rI (mv f o k).1 (mv f o k).2) = true := fine_rI (by have := mvl k; omega) (by have := mvl k; omega)
    exact via hc (same_ok (p := p) (i := 24) h24 (n + 7) _ (by simp [fine, fines, hk]) (by simp [deep, deeps, deep_rI]) (by simp [deep, deeps, deep_rI]))
  clear hc
  have body : ∀ (k : Nat) (g q s z : Option Val), ∃ g' s' z', stepF c (.name 5) (.cons (.set (.name 4) .val (.lst (.cons (.call 16 (.cons (.var 3) (.cons (.var 5) .nil))) (.cons (.callk 16 [1, 0] (.cons (.var 5) (.cons (.call 23 (.cons (.var 3) .nil)) .nil))) (.cons (.call 17 (.cons (.var 3) (.cons (.var 5) .nil))) (.cons (.callk 17 [1, 0] (.cons (.var 5) (.cons (.var 3) .nil))) .nil)))))) (.cons (.par [6, 7] [] (.cons (.call 27 (.cons (.var 3) (.cons (.var 5) .nil))) (.cons (.call 28 (.cons (.var 3) (.cons (.var 5) .nil))) .nil))) (.cons (.ife (.not (.call 24 (.cons (.var 4) (.cons (.lst (.cons (.var 6) (.cons (.var 6) (.cons (.var 7) (.cons (.var 7) .nil))))) .nil)))) (.cons (.ret false (.con (.bl false))) .nil) .nil) .nil))) (.int (k : Nat)) [some v2, some (tI b), some (tI a), some (rI f o), g, q, s, z] = .nx [some v2, some (tI b), some (tI a), some (rI f o), g', some (.int (k : Nat)), s', z'] := fun k g q s z => by
    have w1 := c16 k
    have w2 := c16l k
    have w3 := c17 k
    have w4 := c27 k
    have w5 := c28 k
    have w6 := c24k k
    generalize Val.int (k : Nat) = K at *
    generalize rI (mv f o k).1 (mv f o k).2 = M at *
    generalize Val.int (sq f o k) = Q at *
    refine ⟨some (.lst [Q, Q, M, M]), some Q, some M, ?_⟩
    simp [stepF, asg_name, w1, w2, w3, w4, w5, w6, c23, perm10, four_line, setAll, evT, lentE, lentEs, lentOk, tru_bl]
  have e10 : binop .pow (.int 10) (.int 30) = some (.int ((1000000000000000000000000000000 : Nat) : Int)) := by simp [binop]
  obtain ⟨g1, s1, z1, b1⟩ := body 0 (some (.lst [rI f o, rI f o, .bl true, .bl (decide (f = b ∧ o = a)), .bl false])) none none none
  obtain ⟨g2, s2, z2, b2⟩ := body r1.toNat g1 (some (.int ((0 : Nat) : Int))) s1 z1
  obtain ⟨g3, s3, z3, b3⟩ := body r2.toNat g2 (some (.int (r1.toNat : Nat))) s2 z2
  obtain ⟨g4, s4, z4, b4⟩ := body 1000000000000000000000000000000 g3 (some (.int (r2.toNat : Nat))) s3 z3
  rw [Int.toNat_of_nonneg r10] at b2 b3
  rw [Int.toNat_of_nonneg r20] at b3 b4
  refine run_ret (r := [some (tI b), some (tI a), some (rI f o), g4, some (.int ((1000000000000000000000000000000 : Nat) : Int)), s4, z4]) rfl ?_
  refine (set_step (v := rI f o) (ρ' := [some v, some (tI b), some (tI a), none, none, none, none, none]) ?_).trans ?_
  · show evE c _ [some v, some (tI b), some (tI a), none, none, none, none, none] = _
    simp [c25]
  refine (set_step (v := .lst [rI f o, rI f o, .bl true, .bl (decide (f = b ∧ o = a)), .bl false]) (ρ' := [some v, some (tI b), some (tI a), some (rI f o), none, none, none, none]) ?_).trans ?_
  · show evE c _ [some v, some (tI b), some (tI a), some (rI f o), none, none, none, none] = _
    have c9l' : biop .lst [rI f o] = some (.lst [tI f, tI o]) := rfl
    simp [c15, c15l, c23a, c23b, c9a, c9b, c9l, c9l', perm10, five_line, two_line, mk_rI, eq_comm]
  show evSs c _ [some v, some (tI b), some (tI a), some (rI f o), some (.lst [rI f o, rI f o, .bl true, .bl (decide (f = b ∧ o = a)), .bl false]), none, none, none] = _
  have h5 : evE c (.lst (.cons (.var 3) (.cons (.var 3) (.cons (.con (.bl true)) (.cons (.cmp .eq (.tup (.cons (.var 1) (.cons (.var 2) .nil))) (.var 3)) (.cons (.con (.bl false)) .nil)))))) [some v, some (tI b), some (tI a), some (rI f o), some (.lst [rI f o, rI f o, .bl true, .bl (decide (f = b ∧ o = a)), .bl false]), none, none, none] = .ok (.lst [rI f o, rI f o, .bl true, .bl (decide (f = b ∧ o = a)), .bl false]) [some v, some (tI b), some (tI a), some (rI f o), some (.lst [rI f o, rI f o, .bl true, .bl (decide (f = b ∧ o = a)), .bl false]), none, none, none] := by
    have e : (decide (b = f ∧ a = o)) = decide (f = b ∧ o = a) := by simp only [eq_comm]
    have e' := eq_rI b a f o
    rw [e] at e'
    simp [two_line, mk_rI, e', five_line, C.val]
  generalize Val.lst [rI f o, rI f o, .bl true, .bl (decide (f = b ∧ o = a)), .bl false] = G at *
  rw [sv_cons, sv_ife]
  have hT : evT c (.not (.call 24 (.cons (.var 4) (.cons (.lst (.cons (.var 3) (.cons (.var 3) (.cons (.con (.bl true)) (.cons (.cmp .eq (.tup (.cons (.var 1) (.cons (.var 2) .nil))) (.var 3)) (.cons (.con (.bl false)) .nil)))))) .nil)))) [some v, some (tI b), some (tI a), some (rI f o), some G, none, none, none] = .ok false [some v, some (tI b), some (tI a), some (rI f o), some G, none, none, none] := by
    unfold evT
    rw [ev_not, ev_call, ev_cons, ev_var]
    simp only [getV_cons0, getV_consS, ofO_some, bind_ok]
    rw [ev_cons, h5]
    simp only [bind_ok, ev_nil, c24, callR_ok, tru_bl, Option.map_some, ofO_some, lentE, lentEs, List.nil_append]
    simp [lentOk, tru_bl]
  rw [hT, toRt_ok]
  simp only [Bool.false_eq_true, if_false, sv_nil, then_nx]
  rw [sv_cons, sv_fr]
  have hI : evIt c (.seq (.tup (.cons (.con (.int 0)) (.cons (.calll 21 0 (.cons (.con (.int 20)) .nil)) (.cons (.calll 21 0 (.cons (.con (.int 60)) .nil)) (.cons (.bin .pow (.con (.int 10)) (.con (.int 30))) .nil)))))) [some v, some (tI b), some (tI a), some (rI f o), some G, none, none, none] = .ok [.int ((0 : Nat) : Int), .int r1, .int r2, .int ((1000000000000000000000000000000 : Nat) : Int)] [some v2, some (tI b), some (tI a), some (rI f o), some G, none, none, none] := by
    simp [C.val, c21a, c21b, e10, four_line, items?]
  rw [hI, toRt_ok, forL_cons, b1, then_nx, forL_cons, b2, then_nx, forL_cons, b3, then_nx, forL_cons, b4, then_nx, forL_nil, then_nx]
  exact ret_step (by simp [C.val])
end K3

set_option Elab.async false
set_option linter.all false
set_option maxRecDepth 1000000
set_option maxHeartbeats 4000000
/-! k03: the law. -/
namespace K3
open PySem Rf Lw
def RV (x : Val) : Prop := ∃ f o, x = rI f o ∧ Row f o ∧ f.length ≤ 5 ∧ o.length ≤ 6
theorem per_rep {xs : List Int} {k : Nat} (hx : xs ≠ []) (hk : 0 < k) : per (List.replicate k xs).flatten ≤ xs.length := by
  have hp : 0 < xs.length := List.length_pos_iff.mpr hx
  have hlen : (List.replicate k xs).flatten.length = k * xs.length := by simp
  have hne : (List.replicate k xs).flatten ≠ [] := fun e => by
    rw [e] at hlen
    have := Nat.mul_pos hk hp
    simp at hlen
    omega
  have h : isP (List.replicate k xs).flatten xs.length = true := by
    unfold isP
    rw [Bool.and_eq_true, decide_eq_true_eq, decide_eq_true_eq, hlen]
    refine ⟨Nat.mul_mod_left _ _, ?_⟩
    rw [Nat.mul_div_cancel _ hp]
    congr 2
    obtain ⟨j, rfl⟩ : ∃ j, k = j + 1 := ⟨k - 1, by omega⟩
    rw [List.replicate_succ, List.flatten_cons]
    exact List.take_left
  rcases Nat.lt_or_ge xs.length (per (List.replicate k xs).flatten) with z | z
  · rw [(per_spec hne).2.2.2 xs.length hp z] at h
    cases h
  · exact z
theorem callL_drawn {c : Cfg} {v v' : Val} {m : Nat} {k : Int} {xs : List Int} (h : c.call 29 [v, .int (m : Nat), .int k] = .ok (tI xs) v') : c.call 29 [v, .int (m : Nat), .int k] = .ok (tI xs) v' := h
theorem ext2 : ∀ k : Int, 0 ≤ k → k < 2 → k = 0 ∨ k = 1 := fun k _ _ => by omega
def bod : Ss := (.cons (.par [7, 6] [] (.cons (.calll 29 1 (.cons (.calll 21 1 (.cons (.con (.int 6)) .nil)) (.cons (.bin .add (.con (.int 2)) (.calll 21 1 (.cons (.con (.int 2)) .nil))) .nil))) (.cons (.calll 29 1 (.cons (.bin .add (.con (.int 1)) (.calll 21 1 (.cons (.con (.int 6)) .nil))) (.cons (.bin .add (.con (.int 2)) (.calll 21 1 (.cons (.con (.int 2)) .nil))) .nil))) .nil))) (.cons (.set (.name 6) .val (.bin .mul (.var 6) (.bin .add (.con (.int 1)) (.calll 21 1 (.cons (.con (.int 2)) .nil))))) (.cons (.ife (.not (.calll 30 1 (.cons (.var 7) (.cons (.var 6) .nil)))) (.cons (.ret false (.con (.bl false))) .nil) .nil) (.cons (.app 2 (.call 25 (.cons (.var 7) (.cons (.var 6) .nil)))) .nil))))
theorem body33 {c : Cfg} (hc : c.call = callN p 120) {S v x : Val} {L : List Val} {t : Int} {g3 g6 g7 : Option Val} (hv : Tin v t) (ht : t < 2 ^ 50) (hl : L.length ≤ 3) : ∃ v' r g6' g7', stepF c (.name 3) bod x [some S, some v, some (.lst L), g3, none, none, g6, g7, none, none] = .nx [some S, some v', some (.lst (L ++ [r])), some x, none, none, g6', g7', none, none] ∧ RV r ∧ Tin v' (t + 200) := by
  obtain ⟨r1, v1, e1, a1, b1, T1⟩ := E21 (n := 119) hv (by omega) (m := 6) (by decide) (by decide)
  obtain ⟨r2, v2, e2, a2, b2, T2⟩ := E21 (n := 119) T1 (by omega) (m := 2) (by decide) (by decide)
  obtain ⟨xs, v3, e3, l3, b3, T3⟩ := E29 (n := 118) (m := r1.toNat) (k := 2 + r2) T2 (by omega) (by omega) (by omega) (by omega)
  rw [Int.toNat_of_nonneg a1] at e3 T3
  obtain ⟨r4, v4, e4, a4, b4, T4⟩ := E21 (n := 119) T3 (by omega) (m := 6) (by decide) (by decide)
  obtain ⟨r5, v5, e5, a5, b5, T5⟩ := E21 (n := 119) T4 (by omega) (m := 2) (by decide) (by decide)
  obtain ⟨ys, v6, e6, l6, b6, T6⟩ := E29 (n := 118) (m := (1 + r4).toNat) (k := 2 + r5) T5 (by omega) (by omega) (by omega) (by omega)
  rw [Int.toNat_of_nonneg (by omega)] at e6 T6
  obtain ⟨r7, v7, e7, a7, b7, T7⟩ := E21 (n := 119) T6 (by omega) (m := 2) (by decide) (by decide)
  have hys : ys ≠ [] := fun e => by subst e; simp at l6; omega
  have hk : (1 + r7).toNat ≤ 2 := by omega
  have hk0 : 0 < (1 + r7).toNat := by omega
  have ms := mul_tI (xs := ys) (k := (1 + r7).toNat) (by omega) (by omega)
  rw [Int.toNat_of_nonneg (by omega)] at ms
  have hza : (List.replicate (1 + r7).toNat ys).flatten.length ≤ 12 := by
    have : (List.replicate (1 + r7).toNat ys).flatten.length = (1 + r7).toNat * ys.length := by simp
    have h6 : ys.length ≤ 6 := by omega
    have := Nat.mul_le_mul hk h6
    omega
  have hzn : (List.replicate (1 + r7).toNat ys).flatten ≠ [] := fun e => by
    have h1 : (List.replicate (1 + r7).toNat ys).flatten.length = (1 + r7).toNat * ys.length := by simp
    rw [e] at h1
    have := Nat.mul_pos hk0 (List.length_pos_iff.mpr hys)
    simp at h1
    omega
  have hzs : okS (List.replicate (1 + r7).toNat ys).flatten := fun y hy => by
    obtain ⟨q, hq, hy⟩ := List.mem_flatten.mp hy
    rw [List.eq_of_mem_replicate hq] at hy
    have := b6 y hy
    omega
  have hper := per_rep hys hk0
  generalize (List.replicate (1 + r7).toNat ys).flatten = zs at *
  have hxs : okS xs := fun y hy => by have := b3 y hy; omega
  obtain ⟨v8, e8, T8⟩ := E30 (n := 112) (b := xs) (a := zs) T7 (by omega) hzn hxs hzs (by omega) (by omega)
  obtain ⟨R, q1, q2, q3⟩ := row_of hzn hxs hzs (by omega) (by omega)
  have e9 := E25 (n := 119) (f := xs) (o := zs) hzn (by omega) (by omega)
  refine ⟨v8, rI (tl xs (shR zs)).1 (tl xs (shR zs)).2, some (tI zs), some (tI xs), ?_, ⟨_, _, rfl, R, by omega, by omega⟩, ?_⟩
  · rw [← hc] at e1 e2 e3 e4 e5 e6 e7 e8 e9
    clear hc
    generalize rI (tl xs (shR zs)).1 (tl xs (shR zs)).2 = W at *
    have hl' : L.length < PySem.sizeLine := by rw [PySem.sizeLine_eq]; omega
    have ht8 : scalarL v8 = true := by obtain ⟨a, b, cc, rfl, _⟩ := T8; rfl
    simp [bod, stepF, asg_name, ht8, C.val, e1, e2, e3, e4, e5, e6, e7, e8, e9, add_int, setAll, ms, evT, lentE, lentEs, lentOk, tru_bl, lstT, hl']
  · obtain ⟨a, b, cc, rfl, h1, h2, h3, h4⟩ := T8
    exact ⟨a, b, cc, rfl, h1, h2, h3, by omega⟩
theorem loop33 {c : Cfg} (hc : c.call = callN p 120) {S : Val} : ∀ (xs : List Val) (L : List Val) (v : Val) (t : Int) (g3 g6 g7 : Option Val), (∀ x ∈ L, RV x) → Tin v t → t + 200 * xs.length < 2 ^ 50 → L.length + xs.length ≤ 4 → ∃ v' L' g3' g6' g7', forL (stepF c (.name 3) bod) xs [some S, some v, some (.lst L), g3, none, none, g6, g7, none, none] = .nx [some S, some v', some (.lst L'), g3', none, none, g6', g7', none, none] ∧ (∀ x ∈ L', RV x) ∧ L'.length ≤ 4 ∧ Tin v' (t + 200 * xs.length)
  | [], L, v, t, g3, g6, g7, hL, hv, ht, hl => ⟨v, L, g3, g6, g7, rfl, hL, by simpa using hl, by simpa using hv⟩
  | x :: xs, L, v, t, g3, g6, g7, hL, hv, ht, hl => by
    simp only [List.length_cons] at ht hl
    obtain ⟨v1, r, h6, h7, e1, hr, T1⟩ := body33 hc (S := S) (v := v) (x := x) (L := L) (t := t) (g3 := g3) (g6 := g6) (g7 := g7) hv (by omega) (by omega)
    obtain ⟨v', L', g3', g6', g7', e2, hL', hl', T'⟩ := loop33 hc (S := S) xs (L ++ [r]) v1 (t + 200) (some x) h6 h7 (fun y hy => by
      rcases List.mem_append.mp hy with z | z
      · exact hL y z
      · rw [List.mem_singleton.mp z]; exact hr) T1 (by omega) (by rw [List.length_append]; simp; omega)
    refine ⟨v', L', g3', g6', g7', ?_, hL', hl', ?_⟩
    · rw [forL_cons, e1, then_nx, e2]
    · simp only [List.length_cons]
      have : t + 200 + 200 * (xs.length : Int) = t + 200 * ((xs.length + 1 : Nat) : Int) := by omega
      rw [← this]; exact T'
theorem fine_of_RV {x : Val} (h : RV x) : fine x = true := by
  obtain ⟨f, o, rfl, R, _, _⟩ := h
  exact fine_rI (by have := R.l1; omega) (by have := R.l2; omega)
end K3
namespace Pl
open PySem Rf Lw K3
theorem sum_const {α : Type} (q : Nat) : ∀ L : List α, (L.map fun _ => q).sum = L.length * q
  | [] => by simp
  | x :: L => by simp only [List.map_cons, List.sum_cons, sum_const q L, List.length_cons, Nat.add_mul]; omega
theorem things (v : Val) : callN p 120 32 [v] = .ok (.bl true) v := by kernel_rfl
theorem law (ns : List Int) (h1 : ns.length ≤ 63) (h2 : ∀ z ∈ ns, Builtin.Int.intBits z ≤ 1048576) : ∃ o, callN p 121 33 [.lst (ns.map .int)] = .ok (.bl true) o := by
  obtain ⟨z, e1⟩ := cells_ok (p := p) (i := 22) (n := 119) (ns := ns) rfl h1
  obtain ⟨a, b, e2, ha, hb, hb2⟩ := box_ok (p := p) (i := 20) (n := 119) (k := 6073003) (z := z) rfl (by decide) (by decide)
  have T0 : Tin (tinV a b 0) 0 := ⟨a, b, 0, rfl, ha, hb, Int.le_refl 0, Int.le_refl 0⟩
  generalize tinV a b 0 = v0 at e2 T0
  generalize hS : Val.lst (ns.map .int) = S at e1 ⊢
  obtain ⟨v1, L, g3, g6, g7, e3, hL, hl, T1⟩ := loop33 (c := ⟨callN p 120, fun x => p.vals.lookup x, p.wh⟩) rfl (S := S) (rangeV 0 4 1) [] v0 0 none none none (fun x hx => by cases hx) T0 (by decide) (by decide)
  have T1 : Tin v1 800 := by have := T1; rwa [range_len] at this
  obtain ⟨xs, v2, e4, l4, b4, T2⟩ := E29 (n := 118) (m := 60) (k := 3) T1 (by decide) (by decide) (by decide) (by decide)
  obtain ⟨ys, v3, e5, l5, b5, T3⟩ := E29 (n := 118) (m := 60) (k := 3) T2 (by decide) (by decide) (by decide) (by decide)
  have hys : ys ≠ [] := fun e => by subst e; cases l5
  have sx : okS xs := fun y hy => by have := b4 y hy; omega
  have sy : okS ys := fun y hy => by have := b5 y hy; omega
  obtain ⟨R, q1, q2, q3⟩ := row_of hys sx sy (by omega) (by omega)
  have e6 := E25 (n := 119) (f := xs) (o := ys) hys (by omega) (by omega)
  generalize (tl xs (shR ys)).1 = f at *
  generalize (tl xs (shR ys)).2 = o at *
  have e7 := E15 (n := 116) (v := tI f) (w := tI o) R.t.ne R.s1 R.s2 R.l1 R.l2 (fine_tI (by have := R.l1; omega)) (deep_tI f) (tupV_tI f) (fine_tI (by have := R.l2; omega)) (deep_tI o) (tupV_tI o)
  rw [shR_self R.t.ne R.t.pr, tl_tight R.t] at e7
  have fr : fine (rI f o) = true := fine_rI (by have := R.l1; omega) (by have := R.l2; omega)
  have e8 := same_ok (p := p) (i := 24) h24 120 (rI f o) fr (by rw [deep_rI]; decide) (by rw [deep_rI]; decide)
  obtain ⟨o9, e9⟩ := E26 (n := 119) (A := L) (B := L) (by have := Nat.mul_le_mul hl hl; omega) (by omega)
  have e10 := things v3
  have e11 : ∀ x ∈ L, ∀ y ∈ L, callN p 120 31 [x, y] = .ok (.bl true) x := fun x hx y hy => by
    obtain ⟨f1, o1, rfl, R1, h1, h2⟩ := hL x hx
    obtain ⟨f2, o2, rfl, R2, h3, h4⟩ := hL y hy
    exact E31 (n := 112) R1 R2 h1 h2 h3 h4
  refine ⟨S, callN_run (fd := f33) rfl fun c hc hv hw => ?_⟩
  have e3 : forL (stepF c (.name 3) bod) (rangeV 0 4 1) [some S, some v0, some (.lst []), none, none, none, none, none, none, none] = .nx [some S, some v1, some (.lst L), g3, none, none, g6, g7, none, none] := by
    obtain ⟨_, _, _⟩ := c
    simp only at hc hv hw
    subst hc hv hw
    exact e3
  rw [← hc] at e1 e2 e4 e5 e6 e7 e8 e9 e10 e11
  clear hc
  refine run_ret (r := [some v3, some (.lst L), g3, some (rI f o), some (.lst (L.flatMap fun a => L.map fun b => .tup [a, b])), g6, g7, none, none]) rfl ?_
  refine (set_frsh (v := v0) (ρ' := [some S, none, none, none, none, none, none, none, none, none]) ?_).trans ?_
  · show evE c _ [some S, none, none, none, none, none, none, none, none, none] = _
    simp [e1, e2, C.val]
  refine (set_frsh (v := .lst []) (ρ' := [some S, some v0, none, none, none, none, none, none, none, none]) ?_).trans ?_
  · show evE c _ [some S, some v0, none, none, none, none, none, none, none, none] = _
    rw [ev_lst, ev_nil, bind_ok, if_pos (show ([] : List Val).length ≤ PySem.sizeLine from Nat.zero_le _)]
  show evSs c _ [some S, some v0, some (.lst []), none, none, none, none, none, none, none] = _
  rw [sv_cons, sv_fr, r1_ok (show evE c (.con (.int 4)) _ = .ok (.int 4) _ from by rw [ev_con]; rfl) (by decide), toRt_ok]
  show (forL (stepF c (.name 3) bod) (rangeV 0 4 1) _).then _ = _
  rw [e3, then_nx]
  refine (set_step (v := rI f o) (ρ' := [some S, some v3, some (.lst L), g3, none, none, g6, g7, none, none]) ?_).trans ?_
  · have e4' : c.call 29 [v1, .int 60, .int 3] = .ok (tI xs) v2 := e4
    have e5' : c.call 29 [v2, .int 60, .int 3] = .ok (tI ys) v3 := e5
    simp [C.val, e4', e5', e6]
  show evSs c _ [some S, some v3, some (.lst L), g3, some (rI f o), none, g6, g7, none, none] = _
  rw [sv_cons, sv_ife]
  have hT : evT c (.not (.call 24 (.cons (.call 15 (.cons (.itv 4 (.con (.int 0))) (.cons (.itv 4 (.con (.int 1))) .nil))) (.cons (.var 4) .nil)))) [some S, some v3, some (.lst L), g3, some (rI f o), none, g6, g7, none, none] = .ok false [some S, some v3, some (.lst L), g3, some (rI f o), none, g6, g7, none, none] := by
    simp [evT, lentE, lentEs, lentOk, C.val, it0_rI, it1_rI, e7, e8, tru_bl]
  rw [hT, toRt_ok]
  simp only [Bool.false_eq_true, if_false, sv_nil, then_nx]
  refine (set_step (v := .lst (L.flatMap fun a => L.map fun b => .tup [a, b])) (ρ' := [some S, some v3, some (.lst L), g3, some (rI f o), none, g6, g7, none, none]) ?_).trans ?_
  · simp [e9]
  refine ret_step ?_
  show evE c _ [some S, some v3, some (.lst L), g3, some (rI f o), some (.lst (L.flatMap fun a => L.map fun b => .tup [a, b])), g6, g7, none, none] = _
  have hlen : (L.flatMap fun a => L.map fun b => Val.tup [a, b]).length ≤ 16 := by
    have e : (L.flatMap fun a => L.map fun b => Val.tup [a, b]).length = L.length * L.length := by
      rw [List.length_flatMap]
      simp only [List.length_map]
      exact sum_const _ L
    rw [e]
    have := Nat.mul_le_mul hl hl
    omega
  have key := comp_pure (c := c) (own := [8, 9]) (elt := .call 31 (.cons (.var 8) (.cons (.var 9) .nil))) (tg := .tup [8, 9]) (it := .seq (.var 5)) (ρ := [some S, some v3, some (.lst L), g3, some (rI f o), some (.lst (L.flatMap fun a => L.map fun b => .tup [a, b])), g6, g7, none, none]) (xs := L.flatMap fun a => L.map fun b => .tup [a, b]) (fun _ => .bl true) (by simp [items_lst]) (fun x hx => by
    obtain ⟨u, hu, hx⟩ := List.mem_flatMap.mp hx
    obtain ⟨w, hw, rfl⟩ := List.mem_map.mp hx
    refine ⟨[some S, some v3, some (.lst L), g3, some (rI f o), some (.lst (L.flatMap fun a => L.map fun b => .tup [a, b])), g6, g7, some u, some w], rfl, ?_, rfl⟩
    simp [e11 u hu w hw]) (by rw [PySem.sizeLine_eq]; omega)
  have hall : biop .all [.lst ((L.flatMap fun a => L.map fun b => Val.tup [a, b]).map fun _ => .bl true)] = some (.bl true) := by
    simp only [biop, bools_const, Option.map_some]
    congr 2
    simp
  generalize (L.flatMap fun a => L.map fun b => Val.tup [a, b]) = P at *
  rw [ev_and, ev_bi, ev_cons, key]
  simp only [bind_ok, ev_nil, hall, ofO_some, tru_bl, ifR_t, ev_call, ev_cons, ev_var, getV_cons0, getV_consS, e10, callR_ok]
end Pl

set_option Elab.async false
set_option linter.all false
set_option maxRecDepth 1000000
set_option maxHeartbeats 0
open PySem PySem.W PySem.Calls PyProof.Rows
theorem PySem.Challenge.cw_twiceround_k03_whole_rows_and_beats_holds : PySem.Challenge.rw_twiceround_k03_whole_rows_and_beats.Holds := by
  w_on; o_law
  refine HandSHeadRun.head_any (r := OpenLaw.row PySem.Challenge.rw_twiceround_k03_whole_rows_and_beats) (q := view (OpenLaw.row PySem.Challenge.rw_twiceround_k03_whole_rows_and_beats).prog [42]) (H := Hd.hk) (ob := Hd.ob) (M := 4300) (loose := Hd.loose) (d := HandSHeadRun.topDef (OpenLaw.row PySem.Challenge.rw_twiceround_k03_whole_rows_and_beats).prog 42) (kwd := []) Hd.ob_eq
    (by kernel_rfl) (fun s => by kernel_rfl) Hd.run (by kernel_rfl) (by kernel_rfl) (by kernel_rfl) (by rfl) (by first | assumption | decide +kernel) (by decide +kernel) ⟨rfl, rfl, rfl, rfl, rfl, by decide +kernel⟩ ?hw ?hc
  case hw => w_witness2
  case hc =>
    refine Rf.walk (l := PySem.Challenge.rw_twiceround_k03_whole_rows_and_beats) (n := 63) (k := 121) rfl (by decide) (by kernel_rfl) ⟨rfl, by decide, by decide⟩ ?F
    intro w mg fa h Y G hmg0
    obtain ⟨K, KX, c⟩ := Y
    exact ⟨K, Lw.p, Lw.fnA K, 33, Lw.f33, "script", KX, Lw.pr KX G c, rfl, by kernel_rfl, rfl, rfl, fun ns h1 h2 => Pl.law ns h1 h2⟩
