import PyProof.Rows.All
import Wide.All
import OpenK.AllK
import Wide.FinOn
import HandS.ForMost
import HandS.ForExc
import HandS.Conv
import HandS.Walk
import HandS.TupAny
import HandS.Zip
import HandS.Deep
import HandS.IsInst
import HandS.SortInts
import HandS.DictComp
import HandS.DictTup
import HandS.Wide
import KE.GoesMore
import HandS.Flow
import HandS.TryOnly
import HandS.Style
import HandS.HeadEnd
import HandS.Head2
import HandS.HeadHook2
import HandS.HeadHook4
import HandS.Defaults
import Lean
import PySem.Challenge.RW_likewebs_k02_one_behind_the_other
set_option Elab.async false
set_option linter.all false
set_option maxRecDepth 100000
set_option maxHeartbeats 4000000
/-! Mi0: a small language with a store, and its meaning as plain functions. -/
namespace Mi
open PySem

/-- what a name may hold: tuples are trees, what can change has a place in the store; fl: a list that nobody changes (the script) -/
inductive D where
  | non | bl (b : Bool) | int (i : Int) | str (x : Str) | tup (xs : List D) | fl (xs : List D) | loc (n : Nat)

/-- what stands in the store -/
inductive O where
  | lst (xs : List D) | dct (kvs : List (D × D)) | dtt (kvs : List (D × D)) | ins (c : Str) (fs : List (Str × D)) | exn (c : Str) (fs : List (Str × D))

abbrev Sto := List O
abbrev Env := List (Option D)

inductive Res (α : Type) where
  | ok (a : α) (S : Sto) | exc (c : Str) (fs : List (Str × D)) (S : Sto) | bad

namespace Res
def bind {α β : Type} (r : Res α) (f : α → Sto → Res β) : Res β := match r with
  | .ok a S => f a S
  | .exc c fs S => .exc c fs S
  | .bad => .bad
@[simp] theorem bind_ok {α β : Type} (a : α) (S : Sto) (f : α → Sto → Res β) : (Res.ok a S).bind f = f a S := rfl
@[simp] theorem bind_exc {α β : Type} (c : Str) (fs : List (Str × D)) (S : Sto) (f : α → Sto → Res β) : (Res.exc c fs S : Res α).bind f = .exc c fs S := rfl
@[simp] theorem bind_bad {α β : Type} (f : α → Sto → Res β) : (Res.bad : Res α).bind f = .bad := rfl
end Res

def opt {α : Type} (o : Option α) (S : Sto) : Res α := match o with
  | some a => .ok a S
  | none => .bad
@[simp] theorem opt_some {α : Type} (a : α) (S : Sto) : opt (some a) S = .ok a S := rfl
@[simp] theorem opt_none {α : Type} (S : Sto) : opt (none : Option α) S = .bad := rfl
def grd {α : Type} (p : Prop) [Decidable p] (r : Res α) : Res α := if p then r else .bad
theorem grd_pos {α : Type} {p : Prop} [Decidable p] {r : Res α} (h : p) : grd p r = r := if_pos h
theorem grd_cases {α : Type} {p : Prop} [Decidable p] {r : Res α} (P : Res α → Prop) (h1 : p → P r) (h2 : P .bad) : P (grd p r) := by
  unfold grd; split
  · exact h1 (by assumption)
  · exact h2

/-- a new thing -/
def alloc (o : O) (S : Sto) : Res D := .ok (.loc S.length) (S ++ [o])

/-! ### what is read of the store -/
def getLst (S : Sto) (n : Nat) : Option (List D) := match S[n]? with
  | some (.lst xs) => some xs
  | _ => none
def getDct (S : Sto) (n : Nat) : Option (List (D × D)) := match S[n]? with
  | some (.dct kvs) => some kvs
  | _ => none
/-- a list that is read -/
def lstOf (S : Sto) : D → Option (List D)
  | .loc n => getLst S n
  | .fl xs => some xs
  | _ => none
/-- a list or a tuple that is read -/
def seqOf (S : Sto) : D → Option (List D)
  | .loc n => getLst S n
  | .fl xs => some xs
  | .tup xs => some xs
  | _ => none

mutual
/-- data as a whole -/
def snap (S : Sto) : Nat → D → Option PyData
  | _, .non => some .none
  | _, .bl b => some (.bool b)
  | _, .int i => some (.int i)
  | _, .str x => some (.str x)
  | n + 1, .tup xs => (snaps S n xs).map .tuple
  | n + 1, .fl xs => (snaps S n xs).map .list
  | n + 1, .loc l => (getLst S l).bind fun xs => (snaps S n xs).map .list
  | 0, .tup _ => none
  | 0, .fl _ => none
  | 0, .loc _ => none
def snaps (S : Sto) : Nat → List D → Option (List PyData)
  | _, [] => some []
  | n, x :: xs => (snap S n x).bind fun d => (snaps S n xs).map (d :: ·)
end
/-- how deep data may be here -/
def deep : Nat := 62

/-- == of two things, where it is known -/
def eqD (S : Sto) : D → D → Option Bool
  | .int i, .int j => some (decide (i = j))
  | .bl i, .bl j => some (decide (i = j))
  | .str i, .str j => some (decide (i = j))
  | .non, .non => some true
  | a, b => (snap S deep a).bind fun x => (snap S deep b).bind fun y => if SeqAt.shaped x && SeqAt.shaped y then some (PyData.eqv x y) else none

def reprD (S : Sto) (a : D) : Option Str := (snap S deep a).bind fun x => if x.showable && SeqAt.shaped x && decide (x.shown.length ≤ sizeLine) then some x.shown else none

def truthD (S : Sto) : D → Option Bool
  | .non => some false
  | .bl b => some b
  | .int i => some (i != 0)
  | .tup xs => some (!xs.isEmpty)
  | .fl xs => some (!xs.isEmpty)
  | .loc n => (getLst S n).map fun xs => !xs.isEmpty
  | .str x => if x.length ≤ sizeLine then some (x.length != 0) else none

/-! ### keys of dicts: numbers, texts, tuples of these -/
def flatKey : D → Bool
  | .int _ => true
  | .str _ => true
  | _ => false
def eqKey : D → D → Bool
  | .int i, .int j => decide (i = j)
  | .str i, .str j => decide (i = j)
  | _, _ => false
def eqKeys : List D → List D → Bool
  | [], [] => true
  | x :: xs, y :: ys => eqKey x y && eqKeys xs ys
  | _, _ => false
/-- is it a key of the second kind; do two keys meet -/
def tupKey : D → Bool
  | .tup (x :: xs) => flatKey x && xs.all flatKey
  | _ => false
def sameKey : D → D → Bool
  | .tup xs, .tup ys => eqKeys xs ys
  | a, b => eqKey a b
def dget (k : D) : List (D × D) → Option D
  | [] => none
  | (x, v) :: r => if sameKey x k then some v else dget k r
def dput (k v : D) (kvs : List (D × D)) : List (D × D) :=
  if (kvs.any fun p => sameKey p.1 k) = true then kvs.map (fun p => if sameKey p.1 k = true then (p.1, v) else p) else kvs ++ [(k, v)]
def isNon : D → Bool
  | .non => true
  | _ => false

/-! ### operators -/
def mulOk (i j : Int) : Bool := (decide (-(2 ^ 64) < i) && decide (i < 2 ^ 64)) || (decide (-(2 ^ 64) < j) && decide (j < 2 ^ 64))
def opBin : Operator → D → D → Sto → Res D
  | .Add, .int i, .int j, S => .ok (.int (i + j)) S
  | .Add, .tup a, .tup b, S => grd (a.length + b.length ≤ sizeLine) (.ok (.tup (a ++ b)) S)
  | .Add, .loc l, .loc k, S => match getLst S l, getLst S k with
    | some a, some b => grd (a.length + b.length ≤ sizeLine) (alloc (.lst (a ++ b)) S)
    | _, _ => .bad
  | .Add, .str a, .str b, S => grd (a.length + b.length ≤ sizeLine) (.ok (.str (a ++ b)) S)
  | .Sub, .int i, .int j, S => .ok (.int (i - j)) S
  | .Mult, .int i, .int j, S => grd (mulOk i j = true) (.ok (.int (i * j)) S)
  | .FloorDiv, .int i, .int j, S => grd (0 < j ∧ j < 1073741824) (.ok (.int (i / j)) S)
  | .Mod, .int i, .int j, S => grd (0 < j) (.ok (.int (i % j)) S)
  | .Pow, .int i, .int j, S => grd (0 ≤ j ∧ j ≤ 1000000 ∧ i.natAbs < 2 ^ 64) (.ok (.int (i ^ j.toNat)) S)
  | _, _, _, _ => .bad
def inD (S : Sto) (a b : D) : Option Bool := match b with
  | .loc n => match S[n]? with
    | some (.dct kvs) => if flatKey a then some (dget a kvs).isSome else none
    | some (.dtt kvs) => if tupKey a then some (dget a kvs).isSome else none
    | some (.lst xs) => (snap S deep a).bind fun x => (snaps S deep xs).bind fun ys => if SeqAt.shaped x && SeqAt.shaped (.list ys) then some (ys.any fun y => PyData.eqv y x) else none
    | _ => none
  | _ => none
def opCmp : CmpOp → D → D → Sto → Res D
  | .Eq, a, b, S => (opt (eqD S a b) S).bind fun r S => .ok (.bl r) S
  | .NotEq, a, b, S => (opt (eqD S a b) S).bind fun r S => .ok (.bl (!r)) S
  | .Lt, .int i, .int j, S => .ok (.bl (decide (i < j))) S
  | .LtE, .int i, .int j, S => .ok (.bl (decide (i ≤ j))) S
  | .Gt, .int i, .int j, S => .ok (.bl (decide (j < i))) S
  | .GtE, .int i, .int j, S => .ok (.bl (decide (j ≤ i))) S
  | .In, a, b, S => (opt (inD S a b) S).bind fun r S => .ok (.bl r) S
  | .NotIn, a, b, S => (opt (inD S a b) S).bind fun r S => .ok (.bl (!r)) S
  | .Is, a, .non, S => .ok (.bl (isNon a)) S
  | .IsNot, a, .non, S => .ok (.bl (!isNon a)) S
  | _, _, _, _ => .bad

/-! ### places -/
def atD (xs : List D) (i : Int) : Option D := L2.atI xs i
def ixD (S : Sto) (a i : D) : Option D := match a, i with
  | a, .int i => match seqOf S a with
    | some xs => atD xs i
    | none => none
  | _, _ => none
def cutD (xs : List D) (lo hi : Option Int) : List D := (xs.drop (HT.sIx xs.length 0 lo)).take (HT.sIx xs.length xs.length hi - HT.sIx xs.length 0 lo)
def sliceD (a : D) (lo hi : Option Int) (S : Sto) : Res D := match a with
  | .tup xs => .ok (.tup (cutD xs lo hi)) S
  | .fl xs => alloc (.lst (cutD xs lo hi)) S
  | .loc n => match getLst S n with
    | some xs => alloc (.lst (cutD xs lo hi)) S
    | none => .bad
  | _ => .bad
def intOf : D → Option Int
  | .int i => some i
  | _ => none
def setIx (o i v : D) (S : Sto) : Res Unit := match o, i with
  | .loc n, i => match S[n]? with
    | some (.lst xs) => match i with
      | .int k => match L2.ixN xs.length k with
        | some j => .ok () (S.set n (.lst (xs.set j v)))
        | none => .bad
      | _ => .bad
    | some (.dct kvs) => grd (flatKey i = true ∧ kvs.length < sizeLine) (.ok () (S.set n (.dct (dput i v kvs))))
    | some (.dtt kvs) => grd (tupKey i = true ∧ kvs.length < sizeLine) (.ok () (S.set n (.dtt (dput i v kvs))))
    | _ => .bad
  | _, _ => .bad

/-! ### built-in defs and methods -/
inductive Bi where
  | abs | len | int | list | tuple | max | min | repr | sorted | all | any
  deriving DecidableEq
def allBl : List D → Option (List Bool)
  | [] => some []
  | .bl b :: r => (allBl r).map (b :: ·)
  | _ => none
def allInt : List D → Option (List Int)
  | [] => some []
  | .int b :: r => (allInt r).map (b :: ·)
  | _ => none
def insI (x : Int) : List Int → List Int
  | [] => [x]
  | y :: r => if x ≤ y then x :: y :: r else y :: insI x r
def srtI : List Int → List Int
  | [] => []
  | x :: r => insI x (srtI r)
def biD : Bi → List D → Sto → Res D
  | .abs, [.int i], S => .ok (.int (if i < 0 then -i else i)) S
  | .len, [.str x], S => grd (x.length ≤ sizeLine) (.ok (.int x.length) S)
  | .len, [a], S => match seqOf S a with
    | some xs => .ok (.int xs.length) S
    | none => .bad
  | .int, [.int i], S => .ok (.int i) S
  | .int, [.bl b], S => .ok (.int (if b then 1 else 0)) S
  | .list, [a], S => match seqOf S a with
    | some xs => alloc (.lst xs) S
    | none => .bad
  | .tuple, [a], S => match seqOf S a with
    | some xs => .ok (.tup xs) S
    | none => .bad
  | .max, [.int i, .int j], S => .ok (.int (if j > i then j else i)) S
  | .min, [.int i, .int j], S => .ok (.int (if j < i then j else i)) S
  | .repr, [a], S => (opt (reprD S a) S).bind fun x S => .ok (.str x) S
  | .sorted, [.loc n], S => match getLst S n with
    | some xs => match allInt xs with
      | some is => alloc (.lst ((srtI is).map .int)) S
      | none => .bad
    | none => .bad
  | .all, [.loc n], S => match getLst S n with
    | some xs => match allBl xs with
      | some bs => .ok (.bl (bs.all id)) S
      | none => .bad
    | none => .bad
  | .any, [.loc n], S => match getLst S n with
    | some xs => match allBl xs with
      | some bs => .ok (.bl (bs.any id)) S
      | none => .bad
    | none => .bad
  | _, _, _ => .bad

inductive Mt where
  | append | pop | index
  deriving DecidableEq
def idxI (x : Int) : List Int → Option Nat
  | [] => none
  | y :: r => if y = x then some 0 else (idxI x r).map (· + 1)
def mtD : Mt → D → List D → Sto → Res D
  | .append, .loc n, [x], S => match getLst S n with
    | some xs => grd (xs.length < sizeLine) (.ok .non (S.set n (.lst (xs ++ [x]))))
    | none => .bad
  | .pop, .loc n, [.int i], S => match getLst S n with
    | some xs => match L2.ixN xs.length i with
      | some k => match xs[k]? with
        | some y => .ok y (S.set n (.lst (xs.eraseIdx k)))
        | none => .bad
      | none => .bad
    | none => .bad
  | .index, .loc n, [.int i], S => match getLst S n with
    | some xs => match allInt xs with
      | some is => match idxI i is with
        | some k => .ok (.int k) S
        | none => .bad
      | none => .bad
    | none => .bad
  | _, _, _, _ => .bad

instance (i j : Int) : Decidable (L2.RgOk i j) := by unfold L2.RgOk; infer_instance
/-- is it a receiver of that method -/
def recvOk (m : Mt) (x : D) (S : Sto) : Bool := match m, x with
  | .append, .loc n => (getLst S n).isSome
  | .pop, .loc n => (getLst S n).isSome
  | .index, .loc n => (getLst S n).isSome
  | _, _ => false
/-- classes that isinstance asks for -/
inductive Cl where
  | ty (n : String) | own (n : Str)

/-! ### the language -/
mutual
inductive ME where
  | var (i : Nat) | cst (d : D) | glb (x : Str)
  | bin (op : Operator) (a b : ME) | neg (a : ME)
  | cmp (op : CmpOp) (a b : ME) | cmp2 (op op' : CmpOp) (a b c : ME)
  | and (a : MA) | or (a : MA) | not (a : ME)
  | ife (c a b : ME)
  | tup (es : MA) | lst (es : MA)
  | ix (a i : ME) | slc (a : ME) (lo hi : MO)
  | call (f : Str) (es : MA) | bi (b : Bi) (es : MA) | mt (m : Mt) (o : ME) (es : MA)
  | lrg (a b : ME) | trg (a b : ME)
  | isi (e : ME) (cs : List Cl)
  | lc (elt : ME) (tg : MG) (it : MI) (ifs : MA) (own : List Nat)
inductive MO where
  | no | yes (e : ME)
inductive MA where
  | nil | cons (e : ME) (r : MA)
inductive MG where
  | nm (i : Nat) | tup (gs : MGs) | sub (o i : ME)
inductive MGs where
  | nil | cons (g : MG) (r : MGs)
inductive MI where
  | ex (e : ME) | rng (a b : ME) | enm (e : ME) | zip (a b : ME)
end
inductive MS where
  | expr (e : ME) | asg (g : MG) (e : ME) | aug (i : Nat) (op : Operator) (e : ME)
  | ret (e : ME) | retN | pass | brk | cnt
  | ite (c : ME) (a b : List MS) | forr (g : MG) (it : MI) (b : List MS) | whil (c : ME) (b : List MS)

def lenGs : MGs → Nat
  | .nil => 0
  | .cons _ r => lenGs r + 1
/-- what a loop walks -/
inductive Src where
  | fix (xs : List D) | live (g : Sto → Option (List D)) (len : Nat)

structure Gb where
  call : Str → List D → Sto → Res D
  const : Str → Option D
  fuel : Nat

def wipeE (env : Env) : List Nat → Env
  | [] => env
  | v :: vs => (wipeE env vs).set v none

/-- an error within is not spoken of -/
def calmly {α : Type} (r : Res α) : Res α := match r with
  | .ok a S => .ok a S
  | _ => .bad
@[simp] theorem calmly_ok {α : Type} (a : α) (S : Sto) : calmly (.ok a S) = .ok a S := rfl
/-- the items of a comprehension, one by one -/
def lcStep (st : D → Env → Sto → Res Env) (tt : Env → Sto → Res Bool) (el : Env → Sto → Res D) (env : Env) (acc : List D) (x : D) (S : Sto) : Res (List D) :=
  calmly <| (st x env S).bind fun env' S => (tt env' S).bind fun b S => if b then (el env' S).bind fun y S => grd (acc.length < sizeLine) (.ok (acc ++ [y]) S) else .ok acc S
def lcFix (f : List D → D → Sto → Res (List D)) : List D → List D → Sto → Res (List D)
  | [], acc, S => .ok acc S
  | x :: xs, acc, S => (f acc x S).bind fun acc S => lcFix f xs acc S
def lcLive (f : List D → D → Sto → Res (List D)) (g : Sto → Option (List D)) : Nat → Nat → List D → Sto → Res (List D)
  | 0, i, acc, S => match g S with
    | some xs => grd (xs.length = i) (.ok acc S)
    | none => .bad
  | k + 1, i, acc, S => match g S with
    | some xs => match xs[i]? with
      | some x => (f acc x S).bind fun acc S => lcLive f g k (i + 1) acc S
      | none => .bad
    | none => .bad

def lookE (env : Env) (i : Nat) : Option D := (env[i]?).bind id
/-- type names of what isinstance asks -/
def tyD (S : Sto) : D → Option String
  | .non => some "NoneType"
  | .bl _ => some "bool"
  | .int _ => some "int"
  | .str _ => some "str"
  | .tup _ => some "tuple"
  | .fl _ => some "list"
  | .loc n => match S[n]? with
    | some (.lst _) => some "list"
    | some (.dct _) => some "dict"
    | some (.dtt _) => some "dict"
    | _ => none
def isTy (t : String) : Cl → Option Bool
  | .ty n => L2.kitB t n
  | .own _ => none
def isAny (t : String) : List Cl → Option Bool
  | [] => some false
  | c :: cs => (isTy t c).bind fun b => if b then some true else isAny t cs

mutual
def ev (G : Gb) : ME → Env → Sto → Res D
  | .var i, env, S => opt (lookE env i) S
  | .cst d, _, S => .ok d S
  | .glb x, _, S => opt (G.const x) S
  | .bin op a b, env, S => (ev G a env S).bind fun x S => (ev G b env S).bind fun y S => opBin op x y S
  | .neg a, env, S => (ev G a env S).bind fun x S => (opt (intOf x) S).bind fun i S => .ok (.int (-i)) S
  | .cmp op a b, env, S => (ev G a env S).bind fun x S => (ev G b env S).bind fun y S => opCmp op x y S
  | .cmp2 op op' a b c, env, S => (ev G a env S).bind fun x S => (ev G b env S).bind fun y S => (opCmp op x y S).bind fun z S => match z with
    | .bl true => (ev G c env S).bind fun w S => opCmp op' y w S
    | .bl false => .ok (.bl false) S
    | _ => .bad
  | .and a, env, S => evAnd G a env S
  | .or a, env, S => evOr G a env S
  | .not a, env, S => (ev G a env S).bind fun x S => (opt (truthD S x) S).bind fun b S => .ok (.bl (!b)) S
  | .ife c a b, env, S => (evT G c env S).bind fun t S => if t then ev G a env S else ev G b env S
  | .tup es, env, S => (evs G es env S).bind fun xs S => grd (xs.length ≤ sizeLine) (.ok (.tup xs) S)
  | .lst es, env, S => (evs G es env S).bind fun xs S => grd (xs.length ≤ sizeLine) (alloc (.lst xs) S)
  | .ix a i, env, S => (ev G a env S).bind fun x S => (ev G i env S).bind fun y S => opt (ixD S x y) S
  | .slc a lo hi, env, S => (ev G a env S).bind fun x S => (evO G lo env S).bind fun l S => (evO G hi env S).bind fun h S => sliceD x l h S
  | .call f es, env, S => (evs G es env S).bind fun xs S => G.call f xs S
  | .bi b es, env, S => (evs G es env S).bind fun xs S => biD b xs S
  | .mt m o es, env, S => (ev G o env S).bind fun x S => grd (recvOk m x S = true) ((evs G es env S).bind fun xs S => mtD m x xs S)
  | .lrg a b, env, S => (ev G a env S).bind fun x S => (ev G b env S).bind fun y S => match x, y with
    | .int i, .int j => grd (L2.RgOk i j) (alloc (.lst ((List.range (j - i).toNat).map fun k => .int (i + (k : Nat)))) S)
    | _, _ => .bad
  | .trg a b, env, S => (ev G a env S).bind fun x S => (ev G b env S).bind fun y S => match x, y with
    | .int i, .int j => grd (L2.RgOk i j) (.ok (.tup ((List.range (j - i).toNat).map fun k => .int (i + (k : Nat)))) S)
    | _, _ => .bad
  | .isi e cs, env, S => (ev G e env S).bind fun x S => (opt ((tyD S x).bind fun t => isAny t cs) S).bind fun b S => .ok (.bl b) S
  | .lc elt tg it ifs own, env, S => (evI G it env S).bind fun s S =>
    (match s with
      | .fix xs => lcFix (lcStep (asgG G tg) (evTs G ifs) (ev G elt) (wipeE env own)) xs [] S
      | .live g n => lcLive (lcStep (asgG G tg) (evTs G ifs) (ev G elt) (wipeE env own)) g n 0 [] S).bind fun acc S => alloc (.lst acc) S
def evT (G : Gb) : ME → Env → Sto → Res Bool
  | .and a, env, S => tAnd G a env S
  | .or a, env, S => tOr G a env S
  | .not a, env, S => (evT G a env S).bind fun b S => .ok (!b) S
  | .var i, env, S => (opt (lookE env i) S).bind fun x S => opt (truthD S x) S
  | .cst x, env, S => opt (truthD S x) S
  | .glb x, env, S => (opt (G.const x) S).bind fun x S => opt (truthD S x) S
  | .cmp op a b, env, S => ((ev G a env S).bind fun x S => (ev G b env S).bind fun y S => opCmp op x y S).bind fun x S => opt (truthD S x) S
  | .cmp2 op op' a b c, env, S => ((ev G a env S).bind fun x S => (ev G b env S).bind fun y S => (opCmp op x y S).bind fun z S => match z with
    | .bl true => (ev G c env S).bind fun w S => opCmp op' y w S
    | .bl false => .ok (.bl false) S
    | _ => .bad).bind fun x S => opt (truthD S x) S
  | .call f es, env, S => ((evs G es env S).bind fun xs S => G.call f xs S).bind fun x S => opt (truthD S x) S
  | .bi b es, env, S => ((evs G es env S).bind fun xs S => biD b xs S).bind fun x S => opt (truthD S x) S
  | .mt m o es, env, S => ((ev G o env S).bind fun x S => grd (recvOk m x S = true) ((evs G es env S).bind fun xs S => mtD m x xs S)).bind fun x S => opt (truthD S x) S
  | .isi e cs, env, S => ((ev G e env S).bind fun x S => (opt ((tyD S x).bind fun t => isAny t cs) S).bind fun b S => .ok (.bl b) S).bind fun x S => opt (truthD S x) S
  | _, _, _ => .bad
def evTs (G : Gb) : MA → Env → Sto → Res Bool
  | .nil, _, S => .ok true S
  | .cons e .nil, env, S => evT G e env S
  | .cons _ (.cons _ _), _, _ => .bad
def evAnd (G : Gb) : MA → Env → Sto → Res D
  | .nil, _, _ => .bad
  | .cons a .nil, env, S => ev G a env S
  | .cons a (.cons b r), env, S => (ev G a env S).bind fun x S => (opt (truthD S x) S).bind fun t S => if t then evAnd G (.cons b r) env S else .ok x S
def evOr (G : Gb) : MA → Env → Sto → Res D
  | .nil, _, _ => .bad
  | .cons a .nil, env, S => ev G a env S
  | .cons a (.cons b r), env, S => (ev G a env S).bind fun x S => (opt (truthD S x) S).bind fun t S => if t then .ok x S else evOr G (.cons b r) env S
def tAnd (G : Gb) : MA → Env → Sto → Res Bool
  | .nil, _, _ => .bad
  | .cons a .nil, env, S => evT G a env S
  | .cons a (.cons b r), env, S => (evT G a env S).bind fun t S => if t then tAnd G (.cons b r) env S else .ok false S
def tOr (G : Gb) : MA → Env → Sto → Res Bool
  | .nil, _, _ => .bad
  | .cons a .nil, env, S => evT G a env S
  | .cons a (.cons b r), env, S => (evT G a env S).bind fun t S => if t then .ok true S else tOr G (.cons b r) env S
def evO (G : Gb) : MO → Env → Sto → Res (Option Int)
  | .no, _, S => .ok none S
  | .yes e, env, S => (ev G e env S).bind fun x S => (opt (intOf x) S).bind fun i S => .ok (some i) S
def evs (G : Gb) : MA → Env → Sto → Res (List D)
  | .nil, _, S => .ok [] S
  | .cons e r, env, S => (ev G e env S).bind fun x S => (evs G r env S).bind fun xs S => .ok (x :: xs) S
def evI (G : Gb) : MI → Env → Sto → Res Src
  | .ex e, env, S => (ev G e env S).bind fun x S => match x with
    | .tup xs => .ok (.fix xs) S
    | .fl xs => .ok (.fix xs) S
    | .loc n => match getLst S n with
      | some xs => .ok (.live (fun S => getLst S n) xs.length) S
      | none => .bad
    | _ => .bad
  | .rng a b, env, S => (ev G a env S).bind fun x S => (ev G b env S).bind fun y S => match x, y with
    | .int i, .int j => grd ((-(2 ^ 62) ≤ i ∧ i < 2 ^ 62) ∧ -(2 ^ 62) ≤ j ∧ j < 2 ^ 62) (.ok (.fix ((List.range (j - i).toNat).map fun k => .int (i + (k : Nat)))) S)
    | _, _ => .bad
  | .enm e, env, S => (ev G e env S).bind fun x S => match x with
    | .tup xs => .ok (.fix ((List.range xs.length).zipWith (fun k x => .tup [.int (k : Nat), x]) xs)) S
    | .loc n => match getLst S n with
      | some xs => .ok (.live (fun S => (getLst S n).map fun ys => (List.range ys.length).zipWith (fun k x => .tup [.int (k : Nat), x]) ys) xs.length) S
      | none => .bad
    | _ => .bad
  | .zip a b, env, S => (ev G a env S).bind fun x S => (ev G b env S).bind fun y S => match x, y with
    | .tup xs, .tup ys => .ok (.fix (xs.zipWith (fun x y => .tup [x, y]) ys)) S
    | .loc n, .loc m => match getLst S n, getLst S m with
      | some xs, some ys => .ok (.live (fun S => (getLst S n).bind fun xs => (getLst S m).map fun ys => xs.zipWith (fun x y => .tup [x, y]) ys) (min xs.length ys.length)) S
      | _, _ => .bad
    | _, _ => .bad
def asgG (G : Gb) : MG → D → Env → Sto → Res Env
  | .nm i, v, env, S => .ok (env.set i (some v)) S
  | .tup gs, v, env, S => match v with
    | .tup xs => grd (xs.length = lenGs gs) (asgGs G gs xs env S)
    | .loc n => match getLst S n with
      | some xs => grd (xs.length = lenGs gs) (asgGs G gs xs env S)
      | none => .bad
    | _ => .bad
  | .sub o i, v, env, S => (ev G o env S).bind fun x S => (ev G i env S).bind fun y S => (setIx x y v S).bind fun _ S => .ok env S
def asgGs (G : Gb) : MGs → List D → Env → Sto → Res Env
  | .nil, [], env, S => .ok env S
  | .cons g r, x :: xs, env, S => (asgG G g x env S).bind fun env S => asgGs G r xs env S
  | .nil, _ :: _, _, _ => .bad
  | .cons _ _, [], _, _ => .bad
end

/-! ### statements -/
inductive Fl where
  | nx (env : Env) | rt (d : D) | bk (env : Env) | ct (env : Env) | xc (c : Str) (fs : List (Str × D)) (env : Env)

/-- an error of an expression, with the names as they stood -/
def atE {α : Type} (env : Env) (r : Res α) (f : α → Sto → Res Fl) : Res Fl := match r with
  | .ok a S => f a S
  | .exc c fs S => .ok (.xc c fs env) S
  | .bad => .bad
@[simp] theorem atE_ok {α : Type} (env : Env) (a : α) (S : Sto) (f : α → Sto → Res Fl) : atE env (.ok a S) f = f a S := rfl
@[simp] theorem atE_exc {α : Type} (env : Env) (c : Str) (fs : List (Str × D)) (S : Sto) (f : α → Sto → Res Fl) : atE env (.exc c fs S) f = .ok (.xc c fs env) S := rfl
@[simp] theorem atE_bad {α : Type} (env : Env) (f : α → Sto → Res Fl) : atE env .bad f = .bad := rfl
/-- one turn's end -/
def turnEnd (f : Fl) (S : Sto) (k : Env → Sto → Res Fl) : Res Fl := match f with
  | .nx env => k env S
  | .ct env => k env S
  | .bk env => .ok (.nx env) S
  | .rt d => .ok (.rt d) S
  | .xc c fs env => .ok (.xc c fs env) S
@[simp] theorem turnEnd_nx (env : Env) (S : Sto) (k : Env → Sto → Res Fl) : turnEnd (.nx env) S k = k env S := rfl
@[simp] theorem turnEnd_ct (env : Env) (S : Sto) (k : Env → Sto → Res Fl) : turnEnd (.ct env) S k = k env S := rfl
@[simp] theorem turnEnd_bk (env : Env) (S : Sto) (k : Env → Sto → Res Fl) : turnEnd (.bk env) S k = .ok (.nx env) S := rfl
@[simp] theorem turnEnd_rt (d : D) (S : Sto) (k : Env → Sto → Res Fl) : turnEnd (.rt d) S k = .ok (.rt d) S := rfl
@[simp] theorem turnEnd_xc (c : Str) (fs : List (Str × D)) (env : Env) (S : Sto) (k : Env → Sto → Res Fl) : turnEnd (.xc c fs env) S k = .ok (.xc c fs env) S := rfl
def forFix (st : D → Env → Sto → Res Env) (bd : Env → Sto → Res Fl) : List D → Env → Sto → Res Fl
  | [], env, S => .ok (.nx env) S
  | x :: xs, env, S => (calmly (st x env S)).bind fun env S => (bd env S).bind fun f S => turnEnd f S fun env S => forFix st bd xs env S
def forLive (st : D → Env → Sto → Res Env) (bd : Env → Sto → Res Fl) (g : Sto → Option (List D)) : Nat → Nat → Env → Sto → Res Fl
  | 0, i, env, S => match g S with
    | some xs => grd (xs.length = i) (.ok (.nx env) S)
    | none => .bad
  | k + 1, i, env, S => match g S with
    | some xs => match xs[i]? with
      | some x => (calmly (st x env S)).bind fun env S => (bd env S).bind fun f S => turnEnd f S fun env S => forLive st bd g k (i + 1) env S
      | none => .bad
    | none => .bad
def whileM (c : Env → Sto → Res Bool) (bd : Env → Sto → Res Fl) : Nat → Env → Sto → Res Fl
  | 0, _, _ => .bad
  | n + 1, env, S => atE env (c env S) fun b S => if b then (bd env S).bind fun f S => turnEnd f S fun env S => whileM c bd n env S else .ok (.nx env) S
def andThen (f : Fl) (S : Sto) (k : Env → Sto → Res Fl) : Res Fl := match f with
  | .nx env => k env S
  | f => .ok f S
@[simp] theorem andThen_nx (env : Env) (S : Sto) (k : Env → Sto → Res Fl) : andThen (.nx env) S k = k env S := rfl
@[simp] theorem andThen_rt (d : D) (S : Sto) (k : Env → Sto → Res Fl) : andThen (.rt d) S k = .ok (.rt d) S := rfl
@[simp] theorem andThen_bk (env : Env) (S : Sto) (k : Env → Sto → Res Fl) : andThen (.bk env) S k = .ok (.bk env) S := rfl
@[simp] theorem andThen_ct (env : Env) (S : Sto) (k : Env → Sto → Res Fl) : andThen (.ct env) S k = .ok (.ct env) S := rfl
@[simp] theorem andThen_xc (c : Str) (fs : List (Str × D)) (env : Env) (S : Sto) (k : Env → Sto → Res Fl) : andThen (.xc c fs env) S k = .ok (.xc c fs env) S := rfl
def augD : Operator → D → D → Option D
  | .Add, .int a, .int b => some (.int (a + b))
  | .Sub, .int a, .int b => some (.int (a - b))
  | _, _, _ => none

mutual
def ex (G : Gb) : MS → Env → Sto → Res Fl
  | .expr e, env, S => atE env (ev G e env S) fun _ S => .ok (.nx env) S
  | .asg g e, env, S => atE env (ev G e env S) fun v S => (calmly (asgG G g v env S)).bind fun env S => .ok (.nx env) S
  | .aug i op e, env, S => (opt (lookE env i) S).bind fun x S => atE env (ev G e env S) fun y S => (opt (augD op x y) S).bind fun z S => .ok (.nx (env.set i (some z))) S
  | .ret e, env, S => atE env (ev G e env S) fun v S => .ok (.rt v) S
  | .retN, _, S => .ok (.rt .non) S
  | .pass, env, S => .ok (.nx env) S
  | .brk, env, S => .ok (.bk env) S
  | .cnt, env, S => .ok (.ct env) S
  | .ite c a b, env, S => atE env (evT G c env S) fun t S => if t then exs G a env S else exs G b env S
  | .forr g it b, env, S => atE env (evI G it env S) fun s S => match s with
    | .fix xs => forFix (asgG G g) (exs G b) xs env S
    | .live h n => forLive (asgG G g) (exs G b) h n 0 env S
  | .whil c b, env, S => whileM (evT G c) (exs G b) G.fuel env S
def exs (G : Gb) : List MS → Env → Sto → Res Fl
  | [], env, S => .ok (.nx env) S
  | s :: r, env, S => (ex G s env S).bind fun f S => andThen f S fun env S => exs G r env S
end

/-- a def: how many parameters, how many names, its body -/
structure MF where
  ps : Nat
  ns : Nat
  body : List MS
/-- a def called: its names at the entry -/
def enter (f : MF) (xs : List D) : Env := xs.map some ++ List.replicate (f.ns - xs.length) none
def leave (f : Fl) (S : Sto) : Res D := match f with
  | .rt d => .ok d S
  | .nx _ => .ok .non S
  | .xc c fs _ => .exc c fs S
  | _ => .bad
@[simp] theorem leave_rt (d : D) (S : Sto) : leave (.rt d) S = .ok d S := rfl
@[simp] theorem leave_nx (env : Env) (S : Sto) : leave (.nx env) S = .ok .non S := rfl
def runF (G : Gb) (f : MF) (xs : List D) (S : Sto) : Res D := grd (xs.length = f.ps) ((calmly (exs G f.body (enter f xs) S)).bind fun r S => leave r S)
/-- a program: its defs, its constants; n calls one within another -/
structure MP where
  defs : List (Str × MF)
  consts : List (Str × D)
  fuel : Nat
def glob0 (P : MP) (call : Str → List D → Sto → Res D) : Gb := ⟨call, fun x => P.consts.lookup x, P.fuel⟩
def callN (P : MP) : Nat → Str → List D → Sto → Res D
  | 0, _, _, _ => .bad
  | n + 1, f, xs, S => match P.defs.lookup f with
    | some d => runF (glob0 P (callN P n)) d xs S
    | none => .bad
end Mi
set_option Elab.async false
set_option linter.all false
set_option maxRecDepth 100000
set_option maxHeartbeats 4000000
/-! Mi1: how a store lies in the layer's heap. -/
namespace Mi
open PySem L2

/-- a list that nobody changes -/
def FrL (K : PySem.W.Frag) (H : Hp) (a : Addr) (vs : List V) : Prop :=
  (∃ o, H a = some (.frz o (.lst vs))) ∨ SqL K (fun _ => none) a vs

/-- a tuple: one of the heap's, or the empty one of the written part -/
def TupAt (K : PySem.W.Frag) (H : Hp) (a : Addr) (vs : List V) : Prop := H a = some (.tup vs) ∨ (vs = [] ∧ SqT K (fun _ => none) a [])
theorem TupAt.sq {K : PySem.W.Frag} {H : Hp} {a : Addr} {vs : List V} (t : TupAt K H a vs) : SqT K H a vs := by
  rcases t with t | ⟨rfl, (q | ⟨o, q⟩) | q⟩
  · exact .inl (.inl t)
  · cases q
  · cases q
  · exact .inr q
section
variable (K : PySem.W.Frag) (ι : List Addr) (H : Hp)
mutual
def Rep : D → V → Prop
  | .non, v => v = .non
  | .bl b, v => v = .bl b
  | .int i, v => v = .int i
  | .str x, v => v = .str x
  | .tup ds, v => ∃ a vs, v = .ref a ∧ TupAt K H a vs ∧ Reps ds vs
  | .fl ds, v => ∃ a vs, v = .ref a ∧ FrL K H a vs ∧ Reps ds vs
  | .loc n, v => ∃ a, v = .ref a ∧ ι[n]? = some a
def Reps : List D → List V → Prop
  | [], vs => vs = []
  | d :: ds, vs => ∃ v r, vs = v :: r ∧ Rep d v ∧ Reps ds r
end
end
def toKey : D → Option Key
  | .int i => some (.inl i)
  | .str x => some (.inr x)
  | _ => none
def toKeys : List D → Option (List Key)
  | [] => some []
  | d :: ds => (toKey d).bind fun k => (toKeys ds).map (k :: ·)
def toTKey : D → Option (List Key)
  | .tup ds => toKeys ds
  | _ => none
def ObjRep (K : PySem.W.Frag) (ι : List Addr) (H : Hp) (a : Addr) : O → Prop
  | .lst xs => ∃ vs, H a = some (.lst vs) ∧ Reps K ι H xs vs
  | .dct kvs => ∃ ws : List (Key × V), H a = some (.dK ws) ∧ Paired (fun (p : D × D) (q : Key × V) => toKey p.1 = some q.1 ∧ Rep K ι H p.2 q.2) kvs ws
  | .dtt kvs => ∃ ws : List (List Key × V), H a = some (.dT ws) ∧ Paired (fun (p : D × D) (q : List Key × V) => toTKey p.1 = some q.1 ∧ Rep K ι H p.2 q.2) kvs ws
  | .ins _ _ => False
  | .exn _ _ => False
structure HRep (K : PySem.W.Frag) (ι : List Addr) (S : Sto) (H : Hp) : Prop where
  len : ι.length = S.length
  obj : ∀ (n : Nat) (a : Addr) (o : O), ι[n]? = some a → S[n]? = some o → ObjRep K ι H a o
  inj : ∀ (n m : Nat) (a : Addr), ι[n]? = some a → ι[m]? = some a → n = m
structure Ext (ι : List Addr) (H : Hp) (ι' : List Addr) (H' : Hp) : Prop where
  pre : ∀ (n : Nat) (a : Addr), ι[n]? = some a → ι'[n]? = some a
  frm : ∀ a o, H a = some o → a ∉ ι → H' a = some o
  new : ∀ a, a ∈ ι' → a ∉ ι → H a = none

theorem Ext.refl (ι : List Addr) (H : Hp) : Ext ι H ι H := ⟨fun _ _ h => h, fun _ _ h _ => h, fun _ h n => absurd h n⟩
theorem Ext.mem {ι ι' : List Addr} {H H' : Hp} (e : Ext ι H ι' H') {a : Addr} (h : a ∈ ι) : a ∈ ι' := by
  obtain ⟨n, hn⟩ := List.getElem?_of_mem h
  exact List.mem_of_getElem? (e.pre n a hn)
theorem Ext.trans {ι ι1 ι2 : List Addr} {H H1 H2 : Hp} (e : Ext ι H ι1 H1) (f : Ext ι1 H1 ι2 H2) : Ext ι H ι2 H2 where
  pre := fun n a h => f.pre n a (e.pre n a h)
  frm := fun a o h n => f.frm a o (e.frm a o h n) fun m => by
    have := e.new a m n
    rw [h] at this; cases this
  new := fun a m n => by
    by_cases h1 : a ∈ ι1
    · exact e.new a h1 n
    · have z := f.new a m h1
      cases q : H a with
      | none => rfl
      | some o =>
        rw [e.frm a o q n] at z; cases z

section
variable {K : PySem.W.Frag} {ι ι' : List Addr} {S S' : Sto} {H H' : Hp}

/-- what stands at a place of the store is a list or a dict -/
def InSto : HO → Prop
  | .lst _ => True
  | .dK _ => True
  | .dT _ => True
  | _ => False
theorem ObjRep.is {a : Addr} {o : O} (h : ObjRep K ι H a o) : ∃ u, H a = some u ∧ InSto u := by
  cases o with
  | lst xs => obtain ⟨vs, h, _⟩ := h; exact ⟨_, h, trivial⟩
  | dct kvs => obtain ⟨vs, h, _⟩ := h; exact ⟨_, h, trivial⟩
  | dtt kvs => obtain ⟨vs, h, _⟩ := h; exact ⟨_, h, trivial⟩
  | ins _ _ => exact h.elim
  | exn _ _ => exact h.elim
theorem HRep.at (h : HRep K ι S H) {a : Addr} (m : a ∈ ι) : ∃ u, H a = some u ∧ InSto u := by
  obtain ⟨n, hn⟩ := List.getElem?_of_mem m
  have hl : n < ι.length := (List.getElem?_eq_some_iff.mp hn).1
  rw [h.len] at hl
  exact (h.obj n a S[n] hn (List.getElem?_eq_getElem hl)).is
theorem HRep.out (h : HRep K ι S H) {a : Addr} {u : HO} (e : H a = some u) (hu : ¬ InSto u) : a ∉ ι := fun m => by
  obtain ⟨u', e', i⟩ := h.at m
  rw [e] at e'; cases e'; exact hu i
theorem HRep.fresh (h : HRep K ι S H) {a : Addr} (e : H a = none) : a ∉ ι := fun m => by
  obtain ⟨u', e', _⟩ := h.at m
  rw [e] at e'; cases e'

theorem TupAt.ext (h : HRep K ι S H) (e : Ext ι H ι' H') {a : Addr} {vs : List V} (q : TupAt K H a vs) : TupAt K H' a vs := by
  rcases q with q | q
  · exact .inl (e.frm a _ q (h.out q id))
  · exact .inr q
theorem FrL.ext (h : HRep K ι S H) (e : Ext ι H ι' H') {a : Addr} {vs : List V} (q : FrL K H a vs) : FrL K H' a vs := by
  rcases q with ⟨o, q⟩ | q
  · exact .inl ⟨o, e.frm a _ q (h.out q id)⟩
  · exact .inr q
theorem FrL.sq {a : Addr} {vs : List V} (q : FrL K H a vs) : SqL K H a vs := by
  rcases q with ⟨o, q⟩ | ((q | ⟨o, q⟩) | q)
  · exact .inl (.inr ⟨o, q⟩)
  · cases q
  · cases q
  · exact .inr q
mutual
theorem Rep.ext (h : HRep K ι S H) (e : Ext ι H ι' H') : ∀ (d : D) (v : V), Rep K ι H d v → Rep K ι' H' d v
  | .non, v, r => r
  | .bl _, v, r => r
  | .int _, v, r => r
  | .str _, v, r => r
  | .tup ds, v, r => by
    obtain ⟨a, vs, e1, q, rs⟩ := r
    exact ⟨a, vs, e1, TupAt.ext h e q, Reps.ext h e ds vs rs⟩
  | .fl ds, v, r => by
    obtain ⟨a, vs, e1, q, rs⟩ := r
    exact ⟨a, vs, e1, FrL.ext h e q, Reps.ext h e ds vs rs⟩
  | .loc n, v, r => by
    obtain ⟨a, e1, q⟩ := r
    exact ⟨a, e1, e.pre n a q⟩
theorem Reps.ext (h : HRep K ι S H) (e : Ext ι H ι' H') : ∀ (ds : List D) (vs : List V), Reps K ι H ds vs → Reps K ι' H' ds vs
  | [], vs, r => r
  | d :: ds, vs, r => by
    obtain ⟨v, t, e1, r1, r2⟩ := r
    exact ⟨v, t, e1, Rep.ext h e d v r1, Reps.ext h e ds t r2⟩
end

theorem Reps.length : ∀ {ds : List D} {vs : List V}, Reps K ι H ds vs → ds.length = vs.length
  | [], vs, r => by cases r; rfl
  | d :: ds, vs, r => by
    obtain ⟨v, t, rfl, r1, r2⟩ := r
    simp [Reps.length r2]
theorem Reps.get : ∀ {ds : List D} {vs : List V} {i : Nat} {d : D}, Reps K ι H ds vs → ds[i]? = some d → ∃ v, vs[i]? = some v ∧ Rep K ι H d v
  | [], _, _, _, _, e => by simp at e
  | d :: ds, vs, 0, d', r, e => by
    obtain ⟨v, t, rfl, r1, r2⟩ := r
    simp at e; subst e
    exact ⟨v, rfl, r1⟩
  | d :: ds, vs, i + 1, d', r, e => by
    obtain ⟨v, t, rfl, r1, r2⟩ := r
    obtain ⟨w, h1, h2⟩ := Reps.get (i := i) r2 (by simpa using e)
    exact ⟨w, by simpa using h1, h2⟩
theorem Reps.get' : ∀ {ds : List D} {vs : List V} {i : Nat} {v : V}, Reps K ι H ds vs → vs[i]? = some v → ∃ d, ds[i]? = some d ∧ Rep K ι H d v
  | [], _, _, _, r, e => by cases r; simp at e
  | d :: ds, vs, 0, d', r, e => by
    obtain ⟨v, t, rfl, r1, r2⟩ := r
    simp at e; subst e
    exact ⟨d, rfl, r1⟩
  | d :: ds, vs, i + 1, d', r, e => by
    obtain ⟨v, t, rfl, r1, r2⟩ := r
    obtain ⟨w, h1, h2⟩ := Reps.get' (i := i) r2 (by simpa using e)
    exact ⟨w, by simpa using h1, h2⟩
theorem Reps.cons {d : D} {ds : List D} {v : V} {vs : List V} (r : Rep K ι H d v) (rs : Reps K ι H ds vs) : Reps K ι H (d :: ds) (v :: vs) := ⟨v, vs, rfl, r, rs⟩
theorem Reps.nil : Reps K ι H [] [] := rfl
theorem Reps.append : ∀ {ds es : List D} {vs ws : List V}, Reps K ι H ds vs → Reps K ι H es ws → Reps K ι H (ds ++ es) (vs ++ ws)
  | [], _, _, _, r, q => by cases r; exact q
  | d :: ds, _, _, _, r, q => by
    obtain ⟨v, t, rfl, r1, r2⟩ := r
    exact ⟨v, _, rfl, r1, Reps.append r2 q⟩
theorem Reps.one {d : D} {v : V} (r : Rep K ι H d v) : Reps K ι H [d] [v] := Reps.cons r Reps.nil
theorem Reps.take : ∀ {ds : List D} {vs : List V} (n : Nat), Reps K ι H ds vs → Reps K ι H (ds.take n) (vs.take n)
  | [], _, n, r => by cases r; simp; exact rfl
  | _ :: _, _, 0, r => by simp; exact rfl
  | d :: ds, _, n + 1, r => by
    obtain ⟨v, t, rfl, r1, r2⟩ := r
    exact ⟨v, _, by simp, r1, Reps.take n r2⟩
theorem Reps.drop : ∀ {ds : List D} {vs : List V} (n : Nat), Reps K ι H ds vs → Reps K ι H (ds.drop n) (vs.drop n)
  | [], _, n, r => by cases r; simp; exact rfl
  | _ :: _, _, 0, r => r
  | d :: ds, _, n + 1, r => by
    obtain ⟨v, t, rfl, r1, r2⟩ := r
    simpa using Reps.drop n r2
theorem Reps.set {d : D} {v : V} (q : Rep K ι H d v) : ∀ {ds : List D} {vs : List V} (n : Nat), Reps K ι H ds vs → Reps K ι H (ds.set n d) (vs.set n v)
  | [], _, n, r => by cases r; exact rfl
  | _ :: ds, _, 0, r => by
    obtain ⟨v', t, rfl, r1, r2⟩ := r
    exact ⟨v, t, by simp, q, r2⟩
  | _ :: ds, _, n + 1, r => by
    obtain ⟨v', t, rfl, r1, r2⟩ := r
    exact ⟨v', _, by simp, r1, Reps.set q n r2⟩
theorem Reps.eraseIdx : ∀ {ds : List D} {vs : List V} (n : Nat), Reps K ι H ds vs → Reps K ι H (ds.eraseIdx n) (vs.eraseIdx n)
  | [], _, n, r => by cases r; exact rfl
  | _ :: ds, _, 0, r => by
    obtain ⟨v', t, rfl, r1, r2⟩ := r
    simpa using r2
  | _ :: ds, _, n + 1, r => by
    obtain ⟨v', t, rfl, r1, r2⟩ := r
    exact ⟨v', _, by simp, r1, Reps.eraseIdx n r2⟩

theorem ObjRep.ext (h : HRep K ι S H) (e : Ext ι H ι' H') {a : Addr} {o : O} (r : ObjRep K ι H a o) (k : ∀ u, H a = some u → H' a = some u) : ObjRep K ι' H' a o := by
  cases o with
  | lst xs => obtain ⟨vs, h1, h2⟩ := r; exact ⟨vs, k _ h1, Reps.ext h e _ _ h2⟩
  | dct kvs => obtain ⟨vs, h1, h2⟩ := r; exact ⟨vs, k _ h1, L2.Paired.mapP h2 fun p q z => ⟨z.1, Rep.ext h e _ _ z.2⟩⟩
  | dtt kvs => obtain ⟨vs, h1, h2⟩ := r; exact ⟨vs, k _ h1, L2.Paired.mapP h2 fun p q z => ⟨z.1, Rep.ext h e _ _ z.2⟩⟩
  | ins _ _ => exact r.elim
  | exn _ _ => exact r.elim

/-! ### three ways on: a tuple laid, a new place, a place written -/
theorem ext_tup (h : HRep K ι S H) {p : Addr} {u : HO} (hp : H p = none) : Ext ι H ι (upd H p u) :=
  ⟨fun _ _ q => q, fun a o q _ => by rw [upd_ne (fun z => by rw [z, hp] at q; cases q)]; exact q, fun _ m n => absurd m n⟩
theorem hrep_tup (h : HRep K ι S H) {p : Addr} {u : HO} (hp : H p = none) : HRep K ι S (upd H p u) :=
  ⟨h.len, fun n a o h1 h2 => (h.obj n a o h1 h2).ext h (ext_tup h hp) fun v q => by rw [upd_ne (fun z => by rw [z, hp] at q; cases q)]; exact q, h.inj⟩
theorem ext_new (h : HRep K ι S H) {p : Addr} {u : HO} (hp : H p = none) : Ext ι H (ι ++ [p]) (upd H p u) :=
  ⟨fun n a q => by rw [List.getElem?_append_left (List.getElem?_eq_some_iff.mp q).1]; exact q, fun a o q _ => by rw [upd_ne (fun z => by rw [z, hp] at q; cases q)]; exact q,
    fun a m n => by
      rcases List.mem_append.mp m with z | z
      · exact absurd z n
      · rw [List.mem_singleton.mp z]; exact hp⟩
theorem hrep_new (h : HRep K ι S H) {p : Addr} {u : HO} {o : O} (hp : H p = none) (ho : ObjRep K (ι ++ [p]) (upd H p u) p o) : HRep K (ι ++ [p]) (S ++ [o]) (upd H p u) := by
  have nin := h.fresh hp
  refine ⟨by simp [h.len], fun n a o' h1 h2 => ?_, fun n m a h1 h2 => ?_⟩
  · by_cases hn : n < ι.length
    · rw [List.getElem?_append_left hn] at h1
      rw [List.getElem?_append_left (h.len ▸ hn)] at h2
      exact (h.obj n a o' h1 h2).ext h (ext_new h hp) fun v q => by rw [upd_ne (fun z => by rw [z, hp] at q; cases q)]; exact q
    · have e : n = ι.length := by
        have := (List.getElem?_eq_some_iff.mp h1).1
        simp at this; omega
      subst e
      rw [List.getElem?_concat_length] at h1
      rw [h.len, List.getElem?_concat_length] at h2
      cases h1; cases h2
      exact ho
  · have hn := (List.getElem?_eq_some_iff.mp h1).1
    have hm := (List.getElem?_eq_some_iff.mp h2).1
    simp at hn hm
    by_cases c1 : n < ι.length
    · rw [List.getElem?_append_left c1] at h1
      by_cases c2 : m < ι.length
      · rw [List.getElem?_append_left c2] at h2
        exact h.inj n m a h1 h2
      · have e : m = ι.length := by omega
        subst e
        rw [List.getElem?_concat_length] at h2
        cases h2
        exact absurd (List.mem_of_getElem? h1) nin
    · have e : n = ι.length := by omega
      subst e
      rw [List.getElem?_concat_length] at h1
      cases h1
      by_cases c2 : m < ι.length
      · rw [List.getElem?_append_left c2] at h2
        exact absurd (List.mem_of_getElem? h2) nin
      · omega
theorem ext_put (h : HRep K ι S H) {n : Nat} {a : Addr} {u : HO} (ha : ι[n]? = some a) : Ext ι H ι (upd H a u) :=
  ⟨fun _ _ q => q, fun b o q m => by rw [upd_ne (fun z => m (by rw [z]; exact List.mem_of_getElem? ha))]; exact q, fun _ m k => absurd m k⟩
theorem hrep_put (h : HRep K ι S H) {n : Nat} {a : Addr} {u : HO} {o : O} (ha : ι[n]? = some a) (ho : ObjRep K ι (upd H a u) a o) : HRep K ι (S.set n o) (upd H a u) := by
  refine ⟨by simp [h.len], fun m b o' h1 h2 => ?_, h.inj⟩
  by_cases hm : m = n
  · subst hm
    rw [ha] at h1; cases h1
    have hl := (List.getElem?_eq_some_iff.mp ha).1
    rw [h.len] at hl
    rw [List.getElem?_set_self hl] at h2
    cases h2
    exact ho
  · rw [List.getElem?_set_ne (Ne.symm hm)] at h2
    refine (h.obj m b o' h1 h2).ext h (ext_put h ha) fun v q => ?_
    rw [upd_ne (fun z => hm (h.inj m n a (by rw [← z]; exact h1) ha))]
    exact q

theorem HRep.loc (h : HRep K ι S H) {n : Nat} {v : V} {o : O} (r : Rep K ι H (.loc n) v) (e : S[n]? = some o) : ∃ a, v = .ref a ∧ ι[n]? = some a ∧ ObjRep K ι H a o := by
  obtain ⟨a, e1, q⟩ := r
  exact ⟨a, e1, q, h.obj n a o q e⟩
theorem getLst_some {n : Nat} {xs : List D} (e : getLst S n = some xs) : S[n]? = some (.lst xs) := by
  unfold getLst at e
  split at e
  · rename_i q; cases e; exact q
  · cases e
theorem HRep.lst (h : HRep K ι S H) {n : Nat} {v : V} {xs : List D} (r : Rep K ι H (.loc n) v) (e : getLst S n = some xs) : ∃ a vs, v = .ref a ∧ ι[n]? = some a ∧ H a = some (.lst vs) ∧ Reps K ι H xs vs := by
  obtain ⟨a, e1, q, vs, h1, h2⟩ := h.loc r (getLst_some e)
  exact ⟨a, vs, e1, q, h1, h2⟩
/-- a list or a tuple that is read -/
theorem HRep.seq (h : HRep K ι S H) {d : D} {v : V} {xs : List D} (r : Rep K ι H d v) (e : seqOf S d = some xs) : ∃ a vs, v = .ref a ∧ (SqL K H a vs ∨ SqT K H a vs) ∧ Reps K ι H xs vs := by
  cases d with
  | loc n =>
    obtain ⟨a, vs, h1, h2, h3, h4⟩ := h.lst r e
    exact ⟨a, vs, h1, .inl (.inl (.inl h3)), h4⟩
  | fl ds =>
    cases e
    obtain ⟨a, vs, h1, h2, h3⟩ := r
    exact ⟨a, vs, h1, .inl h2.sq, h3⟩
  | tup ds =>
    cases e
    obtain ⟨a, vs, h1, h2, h3⟩ := r
    exact ⟨a, vs, h1, .inr h2.sq, h3⟩
  | _ => cases e
end

/-! ### slots -/
def EnvRep (K : PySem.W.Frag) (ι : List Addr) (H : Hp) (env : Env) (σ : St) : Prop := env.length = σ.length ∧ ∀ (i : Nat) (d : D), env[i]? = some (some d) → ∃ v, σ[i]? = some (some v) ∧ Rep K ι H d v
section
variable {K : PySem.W.Frag} {ι ι' : List Addr} {S : Sto} {H H' : Hp} {env : Env} {σ : St}
theorem EnvRep.ext (h : HRep K ι S H) (e : Ext ι H ι' H') (r : EnvRep K ι H env σ) : EnvRep K ι' H' env σ :=
  ⟨r.1, fun i d q => by obtain ⟨v, h1, h2⟩ := r.2 i d q; exact ⟨v, h1, Rep.ext h e d v h2⟩⟩
theorem EnvRep.set (r : EnvRep K ι H env σ) {d : D} {v : V} (q : Rep K ι H d v) (i : Nat) : EnvRep K ι H (env.set i (some d)) (σ.set i (some v)) := by
  refine ⟨by simp [r.1], fun j d' h => ?_⟩
  by_cases hj : i = j
  · subst hj
    have hl : i < env.length := by
      have := (List.getElem?_eq_some_iff.mp h).1
      simpa using this
    rw [List.getElem?_set_self hl] at h
    cases h
    exact ⟨v, by rw [List.getElem?_set_self (r.1 ▸ hl)], q⟩
  · rw [List.getElem?_set_ne hj] at h
    obtain ⟨w, h1, h2⟩ := r.2 j d' h
    exact ⟨w, by rw [List.getElem?_set_ne hj]; exact h1, h2⟩
theorem EnvRep.wipe (r : EnvRep K ι H env σ) : ∀ vs : List Nat, EnvRep K ι H (wipeE env vs) (L2.wipe σ vs)
  | [] => r
  | v :: vs => by
    obtain ⟨h1, h2⟩ := r.wipe vs
    unfold wipeE L2.wipe
    refine ⟨by simp [h1], fun j d' h => ?_⟩
    by_cases hj : v = j
    · subst hj
      have hl : v < (wipeE env vs).length := by
        have := (List.getElem?_eq_some_iff.mp h).1
        simpa using this
      rw [List.getElem?_set_self hl] at h
      cases h
    · rw [List.getElem?_set_ne hj] at h
      obtain ⟨w, h3, h4⟩ := h2 j d' h
      exact ⟨w, by rw [List.getElem?_set_ne hj]; exact h3, h4⟩
end

/-! ### what is wanted of an end -/
/-- an error: its class, its fields, the store, the places, the heap -/
abbrev EM := Str → List (Str × D) → Sto → List Addr → Hp → Prop
def Pst (K : PySem.W.Frag) {α : Type} (r : Res α) (ι : List Addr) (H : Hp) (F : α → Sto → List Addr → Hp → Prop) (E : EM) : Prop :=
  match r with
  | .ok a S => ∀ ι' H', Ext ι H ι' H' → HRep K ι' S H' → F a S ι' H'
  | .exc c fs S => ∀ ι' H', Ext ι H ι' H' → HRep K ι' S H' → E c fs S ι' H'
  | .bad => False
section
variable {K : PySem.W.Frag} {α β : Type} {r : Res α} {f : α → Sto → Res β} {ι ι' : List Addr} {H H' : Hp} {E E' : EM}
theorem Pst.ext {F : α → Sto → List Addr → Hp → Prop} (h : Pst K r ι H F E) (e : Ext ι H ι' H') : Pst K r ι' H' F E := by
  cases r with
  | ok a S => exact fun ι2 H2 e2 r2 => h ι2 H2 (e.trans e2) r2
  | exc c fs S => exact fun ι2 H2 e2 r2 => h ι2 H2 (e.trans e2) r2
  | bad => exact h
theorem Pst.bind {F : β → Sto → List Addr → Hp → Prop} (h : Pst K (r.bind f) ι H F E) : Pst K r ι H (fun a S ι' H' => Pst K (f a S) ι' H' F E) E := by
  cases r with
  | ok a S => exact fun ι2 H2 e2 r2 => Pst.ext (r := f a S) h e2
  | exc c fs S => exact h
  | bad => exact h
theorem Pst.mono {F F' : α → Sto → List Addr → Hp → Prop} (h : Pst K r ι H F E) (k : ∀ a S ι' H', Ext ι H ι' H' → HRep K ι' S H' → F a S ι' H' → F' a S ι' H') (k2 : ∀ c fs S ι' H', Ext ι H ι' H' → HRep K ι' S H' → E c fs S ι' H' → E' c fs S ι' H') : Pst K r ι H F' E' := by
  cases r with
  | ok a S => exact fun ι2 H2 e2 r2 => k _ _ _ _ e2 r2 (h ι2 H2 e2 r2)
  | exc c fs S => exact fun ι2 H2 e2 r2 => k2 _ _ _ _ _ e2 r2 (h ι2 H2 e2 r2)
  | bad => exact h
theorem Pst.ok {a : α} {S : Sto} {F : α → Sto → List Addr → Hp → Prop} (h : Pst K (.ok a S) ι H F E) (r : HRep K ι S H) : F a S ι H := h ι H (Ext.refl ι H) r
theorem Pst.grd {p : Prop} [Decidable p] {F : α → Sto → List Addr → Hp → Prop} (h : Pst K (Mi.grd p r) ι H F E) : p ∧ Pst K r ι H F E := by
  unfold Mi.grd at h
  split at h
  · exact ⟨by assumption, h⟩
  · exact h.elim
theorem Pst.calm {F : α → Sto → List Addr → Hp → Prop} (h : Pst K (calmly r) ι H F E) : Pst K r ι H F (fun _ _ _ _ _ => False) := by
  cases r with
  | ok a S => exact h
  | exc c fs S => exact h.elim
  | bad => exact h
theorem Pst.any {F : α → Sto → List Addr → Hp → Prop} (h : Pst K r ι H F (fun _ _ _ _ _ => False)) : Pst K r ι H F E := by
  cases r with
  | ok a S => exact h
  | exc c fs S => exact fun ι2 H2 e2 r2 => (h ι2 H2 e2 r2).elim
  | bad => exact h
theorem Pst.opt {o : Option α} {S : Sto} {F : β → Sto → List Addr → Hp → Prop} (h : Pst K ((Mi.opt o S).bind f) ι H F E) : ∃ a, o = some a ∧ Pst K (f a S) ι H F E := by
  cases o with
  | some a => exact ⟨a, rfl, h⟩
  | none => exact h.elim
theorem Pst.opt1 {o : Option α} {S : Sto} {F : α → Sto → List Addr → Hp → Prop} (h : Pst K (Mi.opt o S) ι H F E) : ∃ a, o = some a ∧ Pst K (.ok a S) ι H F E := by
  cases o with
  | some a => exact ⟨a, rfl, h⟩
  | none => exact h.elim
end
end Mi
set_option Elab.async false
set_option linter.all false
set_option maxRecDepth 100000
set_option maxHeartbeats 4000000
/-! Mi2: operators, subscripts, built-in defs and methods, by values. -/
namespace Mi
open PySem L2

/-- what is wanted of a value -/
def VS (K : PySem.W.Frag) (Q : VK) : D → Sto → List Addr → Hp → Prop := fun d _ ι H => ∀ v, Rep K ι H d v → Q v H

section
variable {K : PySem.W.Frag} {ι : List Addr} {S : Sto} {H : Hp} {Q : VK} {E : EM}
theorem fin_same {d : D} {v : V} (h : Pst K (.ok d S) ι H (VS K Q) E) (hr : HRep K ι S H) (r : Rep K ι H d v) : Q v H := h ι H (Ext.refl ι H) hr v r
theorem fin_tup {ds : List D} {vs : List V} {p : Addr} (h : Pst K (.ok (.tup ds) S) ι H (VS K Q) E) (hr : HRep K ι S H) (r : Reps K ι H ds vs) (hp : H p = none) : Q (.ref p) (upd H p (.tup vs)) :=
  h ι _ (ext_tup hr hp) (hrep_tup hr hp) _ ⟨p, vs, rfl, .inl upd_same, Reps.ext hr (ext_tup hr hp) _ _ r⟩
theorem fin_new {o : O} {u : HO} {p : Addr} (h : Pst K (alloc o S) ι H (VS K Q) E) (hr : HRep K ι S H) (hp : H p = none) (ho : ObjRep K (ι ++ [p]) (upd H p u) p o) : Q (.ref p) (upd H p u) :=
  h (ι ++ [p]) _ (ext_new hr hp) (hrep_new hr hp ho) _ ⟨p, rfl, by rw [← hr.len]; exact List.getElem?_concat_length⟩
theorem fin_lst {ds : List D} {vs : List V} {p : Addr} (h : Pst K (alloc (.lst ds) S) ι H (VS K Q) E) (hr : HRep K ι S H) (r : Reps K ι H ds vs) (hp : H p = none) : Q (.ref p) (upd H p (.lst vs)) :=
  fin_new h hr hp ⟨vs, upd_same, Reps.ext hr (ext_new hr hp) _ _ r⟩
theorem fin_put {α : Type} {n : Nat} {a : Addr} {o : O} {u : HO} {r : α} {F : α → Sto → List Addr → Hp → Prop} (h : Pst K (.ok r (S.set n o)) ι H F E) (hr : HRep K ι S H) (ha : ι[n]? = some a) (ho : ObjRep K ι (upd H a u) a o) : F r (S.set n o) ι (upd H a u) :=
  h ι _ (ext_put hr ha) (hrep_put hr ha ho)
theorem fin_putL {α : Type} {n : Nat} {a : Addr} {ds : List D} {vs : List V} {r : α} {F : α → Sto → List Addr → Hp → Prop} (h : Pst K (.ok r (S.set n (.lst ds))) ι H F E) (hr : HRep K ι S H) (ha : ι[n]? = some a) (q : Reps K ι H ds vs) : F r (S.set n (.lst ds)) ι (upd H a (.lst vs)) :=
  fin_put h hr ha ⟨vs, upd_same, Reps.ext hr (ext_put hr ha) _ _ q⟩

/-! ### data as a whole -/
mutual
theorem snap_dp (hr : HRep K ι S H) : ∀ (n : Nat) (d : D) (v : V) (x : PyData), snap S n d = some x → Rep K ι H d v → Dp K H v x
  | n, .non, v, x, e, r => by simp only [snap] at e; cases e; cases r; exact .non
  | n, .bl b, v, x, e, r => by simp only [snap] at e; cases e; cases r; exact .bl b
  | n, .int b, v, x, e, r => by simp only [snap] at e; cases e; cases r; exact .int b
  | n, .str b, v, x, e, r => by simp only [snap] at e; cases e; cases r; exact .str b
  | n + 1, .tup ds, v, x, e, r => by
    obtain ⟨a, vs, rfl, t, rs⟩ := r
    simp only [snap, Option.map_eq_some_iff] at e
    obtain ⟨xs, e1, rfl⟩ := e
    exact .tup t.sq (snaps_dp hr n ds vs xs e1 rs)
  | n + 1, .fl ds, v, x, e, r => by
    obtain ⟨a, vs, rfl, t, rs⟩ := r
    simp only [snap, Option.map_eq_some_iff] at e
    obtain ⟨xs, e1, rfl⟩ := e
    exact .lst t.sq (snaps_dp hr n ds vs xs e1 rs)
  | n + 1, .loc l, v, x, e, r => by
    simp only [snap] at e
    cases q : getLst S l with
    | none => rw [q] at e; cases e
    | some ds =>
      rw [q] at e
      simp only [Option.bind_some, Option.map_eq_some_iff] at e
      obtain ⟨xs, e1, rfl⟩ := e
      obtain ⟨a, vs, rfl, _, h3, rs⟩ := hr.lst r q
      exact .lst (.inl (.inl h3)) (snaps_dp hr n ds vs xs e1 rs)
  | 0, .tup _, v, x, e, r => by simp only [snap] at e; cases e
  | 0, .fl _, v, x, e, r => by simp only [snap] at e; cases e
  | 0, .loc _, v, x, e, r => by simp only [snap] at e; cases e
theorem snaps_dp (hr : HRep K ι S H) : ∀ (n : Nat) (ds : List D) (vs : List V) (xs : List PyData), snaps S n ds = some xs → Reps K ι H ds vs → DpAll K H vs xs
  | n, [], vs, xs, e, r => by
    simp only [snaps] at e
    cases e; cases r; exact .nil
  | n, d :: ds, vs, xs, e, r => by
    obtain ⟨v, t, rfl, r1, r2⟩ := r
    simp only [snaps] at e
    cases q : snap S n d with
    | none => rw [q] at e; cases e
    | some y =>
      rw [q] at e
      simp only [Option.bind_some, Option.map_eq_some_iff] at e
      obtain ⟨ys, e1, rfl⟩ := e
      exact .cons (snap_dp hr n d v y q r1) (snaps_dp hr n ds t ys e1 r2)
end
end

theorem paired_app {α β : Type} {F : α → β → Prop} : ∀ {l₁ m₁ : List α} {l₂ m₂ : List β}, Paired F l₁ l₂ → Paired F m₁ m₂ → Paired F (l₁ ++ m₁) (l₂ ++ m₂)
  | _, _, _, _, .nil, q => q
  | _, _, _, _, .cons r t, q => .cons r (paired_app t q)
/-- an operation of two values -/
def OpS (X : Cx) (f : Value → Value → Sem Value) (g : D → D → Sto → Res D) : Prop :=
  ∀ (pins : List (Addr × Obj)) (s : Shared) (σ : St) (H : Hp) (x y : V) (v u : Value) (dx dy : D) (ι : List Addr) (S : Sto) (Q : VK) (E : EM), Inv X pins σ H s → RelV x v → RelV y u → HRep X.K ι S H → Rep X.K ι H dx x → Rep X.K ι H dy y →
    Pst X.K (g dx dy S) ι H (VS X.K Q) E → wpAny (model X.prog X.w) X.A (f v u) (EP X pins σ Q) X.xe s
theorem OpS.of {X : Cx} {f : Value → Value → Sem Value} {g : D → D → Sto → Res D} {r : R2} (h : OpR X f r)
    (k : ∀ (H : Hp) (x y : V) (dx dy : D) (ι : List Addr) (S : Sto) (Q : VK) (E : EM), HRep X.K ι S H → Rep X.K ι H dx x → Rep X.K ι H dy y → Pst X.K (g dx dy S) ι H (VS X.K Q) E → r x y H Q) : OpS X f g :=
  fun pins s σ H x y v u dx dy ι S Q E I rx ry hr qx qy p => h pins s σ H x y v u Q I rx ry (k H x y dx dy ι S Q E hr qx qy p)
/-- a call of a value that is known -/
def CallS (X : Cx) (f : Value) (g : List D → Sto → Res D) : Prop :=
  ∀ (pins : List (Addr × Obj)) (s : Shared) (σ : St) (H : Hp) (xs : List V) (us : List Value) (ds : List D) (ι : List Addr) (S : Sto) (Q : VK) (E : EM), Inv X pins σ H s → Vals xs us → HRep X.K ι S H → Reps X.K ι H ds xs →
    Pst X.K (g ds S) ι H (VS X.K Q) E → wpAny (model X.prog X.w) X.A (PySem.call f us) (EP X pins σ Q) X.xe s
theorem CallS.of {X : Cx} {f : Value} {g : List D → Sto → Res D} {r : List V → Hp → VK → Prop} (h : CallR X f r)
    (k : ∀ (H : Hp) (xs : List V) (ds : List D) (ι : List Addr) (S : Sto) (Q : VK) (E : EM), HRep X.K ι S H → Reps X.K ι H ds xs → Pst X.K (g ds S) ι H (VS X.K Q) E → r xs H Q) : CallS X f g :=
  fun pins s σ H xs us ds ι S Q E I rx hr qx p => h pins s σ H xs us Q I rx (k H xs ds ι S Q E hr qx p)

section
variable {X : Cx}
theorem bin_ok (op : Operator) : OpS X (binaryOp op) (opBin op) := by
  cases op with
  | Add =>
    refine OpS.of (op_add.or (op_catA.or (op_cat.or op_add_str))) fun H x y dx dy ι S Q E hr qx qy p => ?_
    cases dx with
    | int i =>
      cases dy with
      | int j => cases qx; cases qy; exact .inl ⟨i, j, rfl, rfl, fin_same p hr rfl⟩
      | _ => exact p.elim
    | tup a =>
      cases dy with
      | tup b =>
        obtain ⟨p1, vs, rfl, t1, r1⟩ := qx
        obtain ⟨p2, ws, rfl, t2, r2⟩ := qy
        obtain ⟨hz, p⟩ := Pst.grd p
        refine .inr (.inl ⟨p1, p2, vs, ws, rfl, rfl, t1.sq, t2.sq, by rw [← r1.length, ← r2.length]; exact hz, ?_⟩)
        refine ⟨fun e => ?_, fun e e' => ?_, fun e e' q hq => ?_⟩
        · subst e
          have : a = [] := List.eq_nil_of_length_eq_zero (by rw [r1.length]; rfl)
          subst this
          exact fin_same p hr ⟨p2, ws, rfl, t2, r2⟩
        · subst e'
          have : b = [] := List.eq_nil_of_length_eq_zero (by rw [r2.length]; rfl)
          subst this
          rw [List.append_nil] at p
          exact fin_same p hr ⟨p1, vs, rfl, t1, r1⟩
        · exact fin_tup p hr (r1.append r2) hq
      | _ => exact p.elim
    | loc l =>
      cases dy with
      | loc k =>
        show _ ∨ _ ∨ _ ∨ _
        simp only [opBin] at p
        split at p
        · rename_i a b e1 e2
          obtain ⟨p1, vs, rfl, _, t1, r1⟩ := hr.lst qx e1
          obtain ⟨p2, ws, rfl, _, t2, r2⟩ := hr.lst qy e2
          obtain ⟨hz, p⟩ := Pst.grd p
          exact .inr (.inr (.inl ⟨p1, p2, vs, ws, rfl, rfl, t1, t2, by rw [← r1.length, ← r2.length]; exact hz, fun q hq => fin_lst p hr (r1.append r2) hq⟩))
        · exact p.elim
      | _ => exact p.elim
    | str a =>
      cases dy with
      | str b =>
        cases qx; cases qy
        obtain ⟨hz, p⟩ := Pst.grd p
        exact .inr (.inr (.inr ⟨a, b, rfl, rfl, hz, fin_same p hr rfl⟩))
      | _ => exact p.elim
    | _ => exact p.elim
  | Sub =>
    refine OpS.of op_sub fun H x y dx dy ι S Q E hr qx qy p => ?_
    cases dx <;> cases dy <;> first | exact p.elim | (cases qx; cases qy; exact ⟨_, _, rfl, rfl, fin_same p hr rfl⟩)
  | Mult =>
    refine OpS.of op_mul fun H x y dx dy ι S Q E hr qx qy p => ?_
    cases dx <;> cases dy <;> first | exact p.elim | skip
    cases qx; cases qy
    obtain ⟨hz, p⟩ := Pst.grd p
    refine ⟨_, _, rfl, rfl, ?_, fin_same p hr rfl⟩
    simpa [mulOk, CMul] using hz
  | FloorDiv =>
    refine OpS.of op_fdiv fun H x y dx dy ι S Q E hr qx qy p => ?_
    cases dx <;> cases dy <;> first | exact p.elim | skip
    cases qx; cases qy
    obtain ⟨hz, p⟩ := Pst.grd p
    exact ⟨_, _, rfl, rfl, hz, fin_same p hr rfl⟩
  | Mod =>
    refine OpS.of op_mod fun H x y dx dy ι S Q E hr qx qy p => ?_
    cases dx <;> cases dy <;> first | exact p.elim | skip
    cases qx; cases qy
    obtain ⟨hz, p⟩ := Pst.grd p
    exact ⟨_, _, rfl, rfl, hz, fin_same p hr rfl⟩
  | Pow =>
    refine OpS.of op_pow fun H x y dx dy ι S Q E hr qx qy p => ?_
    cases dx <;> cases dy <;> first | exact p.elim | skip
    cases qx; cases qy
    obtain ⟨hz, p⟩ := Pst.grd p
    exact ⟨_, _, rfl, rfl, hz, fin_same p hr rfl⟩
  | _ =>
    intro pins s σ H x y v u dx dy ι S Q E I rx ry hr qx qy p
    cases dx <;> cases dy <;> exact p.elim

/-! ### comparisons -/
theorem eq_gen {S : Sto} {a b : D} {r : Bool} (e : ((snap S deep a).bind fun x => (snap S deep b).bind fun y => if (SeqAt.shaped x && SeqAt.shaped y) = true then some (PyData.eqv x y) else none) = some r) :
    ∃ x y, snap S deep a = some x ∧ snap S deep b = some y ∧ SeqAt.shaped x = true ∧ SeqAt.shaped y = true ∧ r = PyData.eqv x y := by
  cases q1 : snap S deep a with
  | none => rw [q1] at e; cases e
  | some x =>
    cases q2 : snap S deep b with
    | none => rw [q1, q2] at e; cases e
    | some y =>
      rw [q1, q2] at e
      simp only [Option.bind_some] at e
      split at e
      · rename_i h
        cases e
        simp only [Bool.and_eq_true] at h
        exact ⟨x, y, rfl, rfl, h.1, h.2, rfl⟩
      · cases e
/-- either a plain comparison, or one of data -/
theorem eqD_cases {K : PySem.W.Frag} {ι : List Addr} {S : Sto} {H : Hp} {a b : D} {x y : V} {r : Bool} (hr : HRep K ι S H) (qx : Rep K ι H a x) (qy : Rep K ι H b y) (e : eqD S a b = some r) :
    (scal x y = true ∧ r = decide (x = y)) ∨ ∃ d d', Dp K H x d ∧ Dp K H y d' ∧ SeqAt.shaped d = true ∧ SeqAt.shaped d' = true ∧ r = PyData.eqv d d' := by
  unfold eqD at e
  split at e
  · cases e; cases qx; cases qy
    refine .inl ⟨rfl, ?_⟩
    simp
  · cases e; cases qx; cases qy
    refine .inl ⟨rfl, ?_⟩
    simp
  · cases e; cases qx; cases qy
    refine .inl ⟨rfl, ?_⟩
    simp
  · cases e; cases qx; cases qy
    exact .inl ⟨rfl, by simp⟩
  · obtain ⟨d, d', h1, h2, h3, h4, h5⟩ := eq_gen e
    exact .inr ⟨d, d', snap_dp hr _ _ _ _ h1 qx, snap_dp hr _ _ _ _ h2 qy, h3, h4, h5⟩
theorem in_lst {S : Sto} {a : D} {xs : List D} {r : Bool} (e : ((snap S deep a).bind fun x => (snaps S deep xs).bind fun ys => if (SeqAt.shaped x && SeqAt.shaped (.list ys)) = true then some (ys.any fun y => PyData.eqv y x) else none) = some r) :
    ∃ x ys, snap S deep a = some x ∧ snaps S deep xs = some ys ∧ SeqAt.shaped x = true ∧ SeqAt.shaped (.list ys) = true ∧ r = ys.any fun y => PyData.eqv y x := by
  cases q1 : snap S deep a with
  | none => rw [q1] at e; cases e
  | some x =>
    cases q2 : snaps S deep xs with
    | none => rw [q1, q2] at e; cases e
    | some y =>
      rw [q1, q2] at e
      simp only [Option.bind_some] at e
      split at e
      · rename_i h
        cases e
        simp only [Bool.and_eq_true] at h
        exact ⟨x, y, rfl, rfl, h.1, h.2, rfl⟩
      · cases e

/-! ### keys -/
theorem toKey_kV {K : PySem.W.Frag} {ι : List Addr} {H : Hp} {a : D} {k : Key} {v : V} (e : toKey a = some k) (r : Rep K ι H a v) : v = kV k := by
  cases a <;> first | (cases e; cases r; rfl) | cases e
theorem flat_toKey {a : D} (h : flatKey a = true) : ∃ k, toKey a = some k := by
  cases a <;> first | exact ⟨_, rfl⟩ | cases h
theorem eqKey_iff {a b : D} {j k : Key} (e1 : toKey a = some j) (e2 : toKey b = some k) : eqKey a b = decide (j = k) := by
  cases a <;> cases e1 <;> cases b <;> cases e2 <;> simp [eqKey]
theorem sameKey_flat {a b : D} {j k : Key} (e1 : toKey a = some j) (e2 : toKey b = some k) : sameKey a b = decide (j = k) := by
  rw [← eqKey_iff e1 e2]
  cases a <;> first | rfl | cases e1
theorem toKeys_kV {K : PySem.W.Frag} {ι : List Addr} {H : Hp} : ∀ {ds : List D} {ks : List Key} {vs : List V}, toKeys ds = some ks → Reps K ι H ds vs → vs = ks.map kV
  | [], ks, vs, e, r => by cases e; cases r; rfl
  | d :: ds, ks, vs, e, r => by
    obtain ⟨v, t, rfl, r1, r2⟩ := r
    simp only [toKeys] at e
    cases q : toKey d with
    | none => rw [q] at e; cases e
    | some k =>
      rw [q] at e
      simp only [Option.bind_some, Option.map_eq_some_iff] at e
      obtain ⟨ks', e1, rfl⟩ := e
      rw [toKey_kV q r1, toKeys_kV e1 r2]
      rfl
theorem flats_toKeys : ∀ {ds : List D}, ds.all flatKey = true → ∃ ks, toKeys ds = some ks
  | [], _ => ⟨[], rfl⟩
  | d :: ds, h => by
    simp only [List.all_cons, Bool.and_eq_true] at h
    obtain ⟨k, e1⟩ := flat_toKey h.1
    obtain ⟨ks, e2⟩ := flats_toKeys h.2
    exact ⟨k :: ks, by simp [toKeys, e1, e2]⟩
theorem eqKeys_iff : ∀ {as bs : List D} {js ks : List Key}, toKeys as = some js → toKeys bs = some ks → eqKeys as bs = decide (js = ks)
  | [], [], _, _, e1, e2 => by cases e1; cases e2; rfl
  | [], b :: bs, _, _, e1, e2 => by
    cases e1
    simp only [toKeys] at e2
    cases q : toKey b with
    | none => rw [q] at e2; cases e2
    | some k =>
      rw [q] at e2
      simp only [Option.bind_some, Option.map_eq_some_iff] at e2
      obtain ⟨ks', _, rfl⟩ := e2
      simp [eqKeys]
  | a :: as, [], _, _, e1, e2 => by
    cases e2
    simp only [toKeys] at e1
    cases q : toKey a with
    | none => rw [q] at e1; cases e1
    | some k =>
      rw [q] at e1
      simp only [Option.bind_some, Option.map_eq_some_iff] at e1
      obtain ⟨ks', _, rfl⟩ := e1
      simp [eqKeys]
  | a :: as, b :: bs, _, _, e1, e2 => by
    simp only [toKeys] at e1 e2
    cases q1 : toKey a with
    | none => rw [q1] at e1; cases e1
    | some j =>
      cases q2 : toKey b with
      | none => rw [q2] at e2; cases e2
      | some k =>
        rw [q1] at e1
        rw [q2] at e2
        simp only [Option.bind_some, Option.map_eq_some_iff] at e1 e2
        obtain ⟨js', f1, rfl⟩ := e1
        obtain ⟨ks', f2, rfl⟩ := e2
        simp only [eqKeys, eqKey_iff q1 q2, eqKeys_iff f1 f2]
        by_cases c1 : j = k <;> by_cases c2 : js' = ks' <;> simp [c1, c2]
theorem tup_toTKey {a : D} (h : tupKey a = true) : ∃ k, toTKey a = some k ∧ k ≠ [] := by
  cases a with
  | tup ds =>
    cases ds with
    | nil => cases h
    | cons d ds =>
      simp only [tupKey, Bool.and_eq_true] at h
      obtain ⟨k, e1⟩ := flat_toKey h.1
      obtain ⟨ks, e2⟩ := flats_toKeys h.2
      exact ⟨k :: ks, by simp [toTKey, toKeys, e1, e2], by simp⟩
  | _ => cases h
theorem sameKey_tup {a b : D} {j k : List Key} (e1 : toTKey a = some j) (e2 : toTKey b = some k) : sameKey a b = decide (j = k) := by
  cases a <;> cases b <;> first | exact eqKeys_iff e1 e2 | cases e1 | cases e2
theorem toTKey_at {K : PySem.W.Frag} {ι : List Addr} {H : Hp} {a : D} {k : List Key} {v : V} (e : toTKey a = some k) (hk : k ≠ []) (r : Rep K ι H a v) : ∃ b, v = .ref b ∧ H b = some (.tup (k.map kV)) := by
  cases a with
  | tup ds =>
    obtain ⟨b, vs, rfl, t, rs⟩ := r
    have q := toKeys_kV e rs
    subst q
    rcases t with t | ⟨t, _⟩
    · exact ⟨b, rfl, t⟩
    · exact absurd (List.map_eq_nil_iff.mp t) hk
  | _ => cases e
section
variable {κ : Type} [DecidableEq κ] {K : PySem.W.Frag} {ι : List Addr} {H : Hp} {tk : D → Option κ} (hs : ∀ {a b : D} {j k : κ}, tk a = some j → tk b = some k → sameKey a b = decide (j = k))
include hs
theorem dget_val {a : D} {k : κ} (e : tk a = some k) : ∀ {kvs : List (D × D)} {ws : List (κ × V)}, Paired (fun (p : D × D) (q : κ × V) => tk p.1 = some q.1 ∧ Rep K ι H p.2 q.2) kvs ws →
    (dget a kvs = none ∧ valV ws k = none) ∨ ∃ d v, dget a kvs = some d ∧ valV ws k = some v ∧ Rep K ι H d v
  | [], _, .nil => .inl ⟨rfl, rfl⟩
  | (x, d) :: kvs, (j, v) :: ws, .cons r t => by
    have q := hs r.1 e
    by_cases c : j = k
    · subst c
      simp only [decide_true] at q
      exact .inr ⟨d, v, by simp [dget, q], valV_pos rfl, r.2⟩
    · have q' : sameKey x a = false := by rw [q]; exact decide_eq_false c
      have := dget_val e t
      simp only [dget, q', valV_neg (p := (j, v)) (r := ws) (k := k) c]
      exact this
end
theorem dget_isSome {κ : Type} [DecidableEq κ] {K : PySem.W.Frag} {ι : List Addr} {H : Hp} {tk : D → Option κ} (hs : ∀ {a b : D} {j k : κ}, tk a = some j → tk b = some k → sameKey a b = decide (j = k)) {a : D} {k : κ} (e : tk a = some k) {kvs : List (D × D)} {ws : List (κ × V)}
    (p : Paired (fun (p : D × D) (q : κ × V) => tk p.1 = some q.1 ∧ Rep K ι H p.2 q.2) kvs ws) : (valV ws k).isSome = (dget a kvs).isSome := by
  rcases dget_val hs e p with ⟨h1, h2⟩ | ⟨d, v, h1, h2, _⟩ <;> rw [h1, h2] <;> rfl

theorem inD_cases {K : PySem.W.Frag} {ι : List Addr} {S : Sto} {H : Hp} {a b : D} {x y : V} {r : Bool} (hr : HRep K ι S H) (qx : Rep K ι H a x) (qy : Rep K ι H b y) (e : inD S a b = some r) :
    (∃ p o, y = .ref p ∧ DGet H p x o ∧ r = o.isSome) ∨ ∃ d ds, Dp K H x d ∧ Dp K H y (.list ds) ∧ SeqAt.shaped d = true ∧ SeqAt.shaped (.list ds) = true ∧ r = ds.any fun z => PyData.eqv z d := by
  unfold inD at e
  split at e
  · rename_i n
    split at e
    · rename_i kvs e1
      split at e
      · rename_i hk
        cases e
        obtain ⟨k, ek⟩ := flat_toKey hk
        obtain ⟨p, rfl, _, ws, h1, h2⟩ := hr.loc qy e1
        have z := toKey_kV ek qx
        subst z
        exact .inl ⟨p, _, rfl, DGet.k h1, (dget_isSome (tk := toKey) sameKey_flat ek h2).symm⟩
      · cases e
    · rename_i kvs e1
      split at e
      · rename_i hk
        cases e
        obtain ⟨k, ek, nk⟩ := tup_toTKey hk
        obtain ⟨p, rfl, _, ws, h1, h2⟩ := hr.loc qy e1
        obtain ⟨b, rfl, hb⟩ := toTKey_at ek nk qx
        exact .inl ⟨p, _, rfl, DGet.t h1 hb, (dget_isSome (tk := toTKey) sameKey_tup ek h2).symm⟩
      · cases e
    · rename_i xs e1
      obtain ⟨d, ds, h1, h2, h3, h4, h5⟩ := in_lst e
      obtain ⟨p, rfl, _, vs, h6, h7⟩ := hr.loc qy e1
      exact .inr ⟨d, ds, snap_dp hr _ _ _ _ h1 qx, .lst (.inl (.inl h6)) (snaps_dp hr _ _ _ _ h2 h7), h3, h4, h5⟩
    · cases e
  · cases e

/-! ### in, of a dict -/
theorem op_inDict (hu : X.A.units + 1 < cLine) : OpR X (compareOp .In) (fun x y H Q => ∃ p o, y = .ref p ∧ DGet H p x o ∧ Q (.bl o.isSome) H) := by
  intro pins s σ H x y v u Q I rx ry h
  obtain ⟨p, o, rfl, g, q⟩ := h
  cases (show u = Value.ref p from ry)
  exact d_in hu I g rx fun s' I' => ⟨.bl o.isSome, H, I', rfl, q⟩
theorem op_notInDict (hu : X.A.units + 1 < cLine) : OpR X (compareOp .NotIn) (fun x y H Q => ∃ p o, y = .ref p ∧ DGet H p x o ∧ Q (.bl (!o.isSome)) H) := by
  intro pins s σ H x y v u Q I rx ry h
  obtain ⟨p, o, rfl, g, q⟩ := h
  cases (show u = Value.ref p from ry)
  exact d_notIn hu I g rx fun s' I' => ⟨.bl (!o.isSome), H, I', rfl, q⟩

theorem cmp_ok (hu : X.A.units + 65 < cLine) (op : CmpOp) : OpS X (compareOp op) (opCmp op) := by
  cases op with
  | Eq =>
    refine OpS.of (op_eq.or (op_eqD (by omega))) fun H x y dx dy ι S Q E hr qx qy p => ?_
    obtain ⟨r, e, p⟩ := Pst.opt p
    rcases eqD_cases hr qx qy e with ⟨h1, rfl⟩ | ⟨d, d', h1, h2, h3, h4, rfl⟩
    · exact .inl ⟨h1, fin_same p hr rfl⟩
    · exact .inr ⟨d, d', h1, h2, h3, h4, fin_same p hr rfl⟩
  | NotEq =>
    refine OpS.of (op_ne.or (op_neD (by omega))) fun H x y dx dy ι S Q E hr qx qy p => ?_
    obtain ⟨r, e, p⟩ := Pst.opt p
    rcases eqD_cases hr qx qy e with ⟨h1, rfl⟩ | ⟨d, d', h1, h2, h3, h4, rfl⟩
    · exact .inl ⟨h1, fin_same p hr rfl⟩
    · exact .inr ⟨d, d', h1, h2, h3, h4, fin_same p hr rfl⟩
  | Lt =>
    refine OpS.of op_lt fun H x y dx dy ι S Q E hr qx qy p => ?_
    cases dx <;> cases dy <;> first | exact p.elim | (cases qx; cases qy; exact ⟨_, _, rfl, rfl, fin_same p hr rfl⟩)
  | LtE =>
    refine OpS.of op_le fun H x y dx dy ι S Q E hr qx qy p => ?_
    cases dx <;> cases dy <;> first | exact p.elim | (cases qx; cases qy; exact ⟨_, _, rfl, rfl, fin_same p hr rfl⟩)
  | Gt =>
    refine OpS.of op_gt fun H x y dx dy ι S Q E hr qx qy p => ?_
    cases dx <;> cases dy <;> first | exact p.elim | (cases qx; cases qy; exact ⟨_, _, rfl, rfl, fin_same p hr rfl⟩)
  | GtE =>
    refine OpS.of op_ge fun H x y dx dy ι S Q E hr qx qy p => ?_
    cases dx <;> cases dy <;> first | exact p.elim | (cases qx; cases qy; exact ⟨_, _, rfl, rfl, fin_same p hr rfl⟩)
  | In =>
    refine OpS.of ((op_inDict (by omega)).or (op_inD (by omega))) fun H x y dx dy ι S Q E hr qx qy p => ?_
    obtain ⟨r, e, p⟩ := Pst.opt p
    rcases inD_cases hr qx qy e with ⟨b, o, h1, h2, rfl⟩ | ⟨d, d', h1, h2, h3, h4, rfl⟩
    · exact .inl ⟨b, o, h1, h2, fin_same p hr rfl⟩
    · exact .inr ⟨d, d', h1, h2, h3, h4, fin_same p hr rfl⟩
  | NotIn =>
    refine OpS.of ((op_notInDict (by omega)).or (op_notInD (by omega))) fun H x y dx dy ι S Q E hr qx qy p => ?_
    obtain ⟨r, e, p⟩ := Pst.opt p
    rcases inD_cases hr qx qy e with ⟨b, o, h1, h2, rfl⟩ | ⟨d, d', h1, h2, h3, h4, rfl⟩
    · exact .inl ⟨b, o, h1, h2, fin_same p hr rfl⟩
    · exact .inr ⟨d, d', h1, h2, h3, h4, fin_same p hr rfl⟩
  | Is =>
    refine OpS.of op_isN fun H x y dx dy ι S Q E hr qx qy p => ?_
    cases dy <;> first | exact p.elim | skip
    cases qy
    refine ⟨rfl, ?_⟩
    have z : isNon dx = decide (x = V.non) := by
      cases dx <;> first | (cases qx; rfl) | (obtain ⟨a, vs, rfl, _⟩ := qx; rfl) | (obtain ⟨a, rfl, _⟩ := qx; rfl)
    exact fin_same p hr (by rw [← z]; rfl)
  | IsNot =>
    refine OpS.of op_notN fun H x y dx dy ι S Q E hr qx qy p => ?_
    cases dy <;> first | exact p.elim | skip
    cases qy
    refine ⟨rfl, ?_⟩
    have z : (!isNon dx) = !decide (x = V.non) := by
      cases dx <;> first | (cases qx; rfl) | (obtain ⟨a, vs, rfl, _⟩ := qx; rfl) | (obtain ⟨a, rfl, _⟩ := qx; rfl)
    exact fin_same p hr (by rw [← z]; rfl)

/-! ### truth -/
theorem tru_of {K : PySem.W.Frag} {ι : List Addr} {S : Sto} {H : Hp} {d : D} {x : V} {b : Bool} (hr : HRep K ι S H) (r : Rep K ι H d x) (e : truthD S d = some b) : TruV K x H b := by
  cases d with
  | non => cases r; cases e; rfl
  | bl c => cases r; cases e; rfl
  | int i => cases r; cases e; rfl
  | str y =>
    cases r
    have e' : (if y.length ≤ sizeLine then some (y.length != 0) else none) = some b := e
    split at e'
    · cases e'
      refine ⟨by assumption, ?_⟩
      rw [Bool.eq_iff_iff]
      simp only [bne_iff_ne, ne_eq]
      omega
    · cases e'
  | tup ds =>
    cases e
    obtain ⟨a, vs, rfl, t, rs⟩ := r
    refine .inr (.inl ⟨vs, t.sq, ?_⟩)
    have := rs.length
    cases ds <;> cases vs <;> simp_all
  | fl ds =>
    cases e
    obtain ⟨a, vs, rfl, t, rs⟩ := r
    refine .inl ⟨vs, t.sq, ?_⟩
    have := rs.length
    cases ds <;> cases vs <;> simp_all
  | loc n =>
    simp only [truthD, Option.map_eq_some_iff] at e
    obtain ⟨ds, e1, rfl⟩ := e
    obtain ⟨a, vs, rfl, _, t, rs⟩ := hr.lst r e1
    refine .inl ⟨vs, .inl (.inl t), ?_⟩
    have := rs.length
    cases ds <;> cases vs <;> simp_all

/-! ### subscripts -/
theorem ixD_ok {K : PySem.W.Frag} {ι : List Addr} {S : Sto} {H : Hp} {a i d : D} {x y : V} {Q : VK} {E : EM} (hr : HRep K ι S H) (qx : Rep K ι H a x) (qy : Rep K ι H i y) (e : ixD S a i = some d) (p : Pst K (.ok d S) ι H (VS K Q) E) : rIx K x y H Q := by
  cases i <;> first | (simp only [ixD] at e; cases e; done) | skip
  rename_i i
  cases qy
  simp only [ixD] at e
  split at e
  · rename_i xs e1
    obtain ⟨b, vs, rfl, hq, rs⟩ := hr.seq qx e1
    have e' : L2.atI xs i = some d := e
    unfold L2.atI at e'
    cases q : L2.ixN xs.length i with
    | none => rw [q] at e'; cases e'
    | some j =>
      rw [q] at e'
      simp only [Option.bind_some] at e'
      obtain ⟨v, h1, h2⟩ := rs.get e'
      have e2 : L2.atI vs i = some v := by
        unfold L2.atI
        rw [← rs.length, q]
        exact h1
      rcases hq with hq | hq
      · exact .inl ⟨b, vs, i, v, rfl, rfl, hq, e2, fin_same p hr h2⟩
      · exact .inr (.inl ⟨b, vs, i, v, rfl, rfl, hq, e2, fin_same p hr h2⟩)
  · cases e
def rSlM (K : PySem.W.Frag) : V → Option Int → Option Int → Hp → VK → Prop := fun x lo hi H Q => rSlL K x lo hi H Q ∨ rSlA K x lo hi H Q
theorem slM_ok : SlR X (rSlM X.K) := sl_list.or sl_tupA
theorem cut_reps {K : PySem.W.Frag} {ι : List Addr} {H : Hp} {ds : List D} {vs : List V} (r : Reps K ι H ds vs) (lo hi : Option Int) : Reps K ι H (cutD ds lo hi) (cutV vs lo hi) := by
  unfold cutD cutV
  rw [r.length]
  exact (r.drop _).take _
theorem cut_all (ds : List D) {lo hi : Option Int} (h : HT.sIx ds.length 0 lo = 0 ∧ HT.sIx ds.length ds.length hi = ds.length) : cutD ds lo hi = ds := by
  unfold cutD
  rw [h.1, h.2]
  simp
theorem sliceD_ok {K : PySem.W.Frag} {ι : List Addr} {S : Sto} {H : Hp} {a : D} {lo hi : Option Int} {x : V} {Q : VK} {E : EM} (hr : HRep K ι S H) (qx : Rep K ι H a x) (p : Pst K (sliceD a lo hi S) ι H (VS K Q) E) : rSlM K x lo hi H Q := by
  cases a with
  | tup ds =>
    obtain ⟨b, vs, rfl, t, rs⟩ := qx
    refine .inr ⟨b, vs, rfl, t.sq, fun h => ?_, fun _ q hq => fin_tup p hr (cut_reps rs lo hi) hq⟩
    rw [← rs.length] at h
    refine fin_same p hr ?_
    rw [cut_all ds h]
    exact ⟨b, vs, rfl, t, rs⟩
  | fl ds =>
    obtain ⟨b, vs, rfl, t, rs⟩ := qx
    exact .inl ⟨b, vs, rfl, t.sq, fun q hq => fin_lst p hr (cut_reps rs lo hi) hq⟩
  | loc n =>
    simp only [sliceD] at p
    split at p
    · rename_i xs e1
      obtain ⟨b, vs, rfl, _, t, rs⟩ := hr.lst qx e1
      exact .inl ⟨b, vs, rfl, .inl (.inl t), fun q hq => fin_lst p hr (cut_reps rs lo hi) hq⟩
    · exact p.elim
  | _ => exact p.elim

/-! ### o[i] = v -/
section
variable {κ : Type} [DecidableEq κ] {K : PySem.W.Frag} {ι : List Addr} {H : Hp} {tk : D → Option κ} (hs : ∀ {a b : D} {j k : κ}, tk a = some j → tk b = some k → sameKey a b = decide (j = k))
include hs
theorem any_paired {a : D} {k : κ} (e : tk a = some k) : ∀ {kvs : List (D × D)} {ws : List (κ × V)}, Paired (fun (p : D × D) (q : κ × V) => tk p.1 = some q.1 ∧ Rep K ι H p.2 q.2) kvs ws → (kvs.any fun p => sameKey p.1 a) = ws.any fun kv => decide (kv.1 = k)
  | [], _, .nil => rfl
  | (x, d) :: kvs, (j, v) :: ws, .cons r t => by
    simp only [List.any_cons, any_paired e t, hs r.1 e]
theorem map_paired {a d : D} {k : κ} {v : V} (e : tk a = some k) (r : Rep K ι H d v) : ∀ {kvs : List (D × D)} {ws : List (κ × V)}, Paired (fun (p : D × D) (q : κ × V) => tk p.1 = some q.1 ∧ Rep K ι H p.2 q.2) kvs ws →
    Paired (fun (p : D × D) (q : κ × V) => tk p.1 = some q.1 ∧ Rep K ι H p.2 q.2) (kvs.map (fun p => if sameKey p.1 a = true then (p.1, d) else p)) (ws.map (fun kv => if kv.1 = k then (kv.1, v) else kv))
  | [], _, .nil => .nil
  | (x, d0) :: kvs, (j, v0) :: ws, .cons q t => by
    refine .cons ?_ (map_paired e r t)
    have z := hs q.1 e
    by_cases c : j = k
    · have z' : sameKey x a = true := by rw [z]; exact decide_eq_true c
      simp only [z', if_true, c]
      exact ⟨by rw [← c]; exact q.1, r⟩
    · have z' : sameKey x a = false := by rw [z]; exact decide_eq_false c
      simp only [z', Bool.false_eq_true, if_false, c]
      exact q
theorem put_paired {a d : D} {k : κ} {v : V} (e : tk a = some k) (r : Rep K ι H d v) {kvs : List (D × D)} {ws : List (κ × V)} (q : Paired (fun (p : D × D) (q : κ × V) => tk p.1 = some q.1 ∧ Rep K ι H p.2 q.2) kvs ws) :
    Paired (fun (p : D × D) (q : κ × V) => tk p.1 = some q.1 ∧ Rep K ι H p.2 q.2) (dput a d kvs) (putK ws k v) := by
  unfold dput putK
  rw [any_paired hs e q]
  split
  · exact map_paired hs e r q
  · exact paired_app q (.cons ⟨e, r⟩ .nil)
end
theorem setIx_ok (hu : X.A.units + 1 < cLine) {pins : List (Addr × Obj)} {s : Shared} {σ : St} {H : Hp} {o i v : V} {ov iv u : Value} {dx dy dz : D} {ι : List Addr} {S : Sto} {Q : Hp → Prop} {E : EM} (I : Inv X pins σ H s) (ro : RelV o ov) (ri : RelV i iv) (rv : RelV v u)
    (hr : HRep X.K ι S H) (qx : Rep X.K ι H dx o) (qy : Rep X.K ι H dy i) (qz : Rep X.K ι H dz v) (p : Pst X.K (setIx dx dy dz S) ι H (fun _ S' ι' H' => Q H') E) :
    wpAny (model X.prog X.w) X.A (setItem ov iv u) (fun _ s' => ∃ H', Inv X pins σ H' s' ∧ Q H') X.xe s := by
  cases dx with
  | loc n =>
    simp only [setIx] at p
    split at p
    · rename_i xs e1
      split at p
      · rename_i k
        split at p
        · rename_i j e2
          obtain ⟨a, e3, ha, vs, h1, h2⟩ := hr.loc qx e1
          subst e3
          cases qy
          refine set_list pins s σ H _ _ v ov iv u Q I ro ri rv ⟨a, vs, k, j, rfl, rfl, h1, by rw [← h2.length]; exact e2, ?_⟩
          exact fin_putL p hr ha (h2.set qz j)
        · exact p.elim
      · exact p.elim
    · rename_i kvs e1
      obtain ⟨⟨hk, hl⟩, p⟩ := Pst.grd p
      obtain ⟨a, e3, ha, ws, h1, h2⟩ := hr.loc qx e1
      subst e3
      cases (show ov = Value.ref a from ro)
      obtain ⟨k, ek⟩ := flat_toKey hk
      have z := toKey_kV ek qy
      subst z
      refine d_setItem hu I (DPut.k h1 (by rw [← Paired.length h2]; exact hl)) ri rv fun s' I' => ⟨_, I', ?_⟩
      refine fin_put p hr ha ⟨_, upd_same, ?_⟩
      exact L2.Paired.mapP (put_paired (tk := toKey) sameKey_flat ek qz h2) fun p q z => ⟨z.1, Rep.ext hr (ext_put hr ha) _ _ z.2⟩
    · rename_i kvs e1
      obtain ⟨⟨hk, hl⟩, p⟩ := Pst.grd p
      obtain ⟨a, e3, ha, ws, h1, h2⟩ := hr.loc qx e1
      subst e3
      cases (show ov = Value.ref a from ro)
      obtain ⟨k, ek, nk⟩ := tup_toTKey hk
      obtain ⟨b, rfl, hb⟩ := toTKey_at ek nk qy
      refine d_setItem hu I (DPut.t h1 hb (by rw [← Paired.length h2]; exact hl)) ri rv fun s' I' => ⟨_, I', ?_⟩
      refine fin_put p hr ha ⟨_, upd_same, ?_⟩
      exact L2.Paired.mapP (put_paired (tk := toTKey) sameKey_tup ek qz h2) fun p q z => ⟨z.1, Rep.ext hr (ext_put hr ha) _ _ z.2⟩
    · exact p.elim
  | _ => exact p.elim

/-! ### built-in defs -/
def biV : Bi → Value
  | .abs => .builtin "abs" | .len => .builtin "len" | .int => .type "int" | .list => .type "list" | .tuple => .type "tuple"
  | .max => .builtin "max" | .min => .builtin "min" | .repr => .builtin "repr" | .sorted => .builtin "sorted" | .all => .builtin "all" | .any => .builtin "any"
theorem reps1 {K : PySem.W.Frag} {ι : List Addr} {H : Hp} {d : D} {vs : List V} (r : Reps K ι H [d] vs) : ∃ v, vs = [v] ∧ Rep K ι H d v := by
  obtain ⟨v, t, rfl, r1, r2⟩ := r
  cases r2
  exact ⟨v, rfl, r1⟩
theorem reps2 {K : PySem.W.Frag} {ι : List Addr} {H : Hp} {d e : D} {vs : List V} (r : Reps K ι H [d, e] vs) : ∃ v w, vs = [v, w] ∧ Rep K ι H d v ∧ Rep K ι H e w := by
  obtain ⟨v, t, rfl, r1, r2⟩ := r
  obtain ⟨w, rfl, r3⟩ := reps1 r2
  exact ⟨v, w, rfl, r1, r3⟩
theorem reps_ints {K : PySem.W.Frag} {ι : List Addr} {H : Hp} : ∀ {ds : List D} {vs : List V} {is : List Int}, allInt ds = some is → Reps K ι H ds vs → vs = is.map V.int ∧ ds = is.map D.int
  | [], vs, is, e, r => by cases e; cases r; exact ⟨rfl, rfl⟩
  | d :: ds, vs, is, e, r => by
    obtain ⟨v, t, rfl, r1, r2⟩ := r
    cases d with
    | int i =>
      simp only [allInt, Option.map_eq_some_iff] at e
      obtain ⟨is', e1, rfl⟩ := e
      obtain ⟨h1, h2⟩ := reps_ints e1 r2
      cases r1
      rw [h1, h2]
      exact ⟨rfl, rfl⟩
    | _ => cases e
theorem reps_bls {K : PySem.W.Frag} {ι : List Addr} {H : Hp} : ∀ {ds : List D} {vs : List V} {is : List Bool}, allBl ds = some is → Reps K ι H ds vs → vs = is.map V.bl
  | [], vs, is, e, r => by cases e; cases r; rfl
  | d :: ds, vs, is, e, r => by
    obtain ⟨v, t, rfl, r1, r2⟩ := r
    cases d with
    | bl i =>
      simp only [allBl, Option.map_eq_some_iff] at e
      obtain ⟨is', e1, rfl⟩ := e
      cases r1
      rw [reps_bls e1 r2]
      rfl
    | _ => cases e
theorem reps_of_ints {K : PySem.W.Frag} {ι : List Addr} {H : Hp} : ∀ (is : List Int), Reps K ι H (is.map D.int) (is.map V.int)
  | [] => rfl
  | i :: is => ⟨_, _, rfl, rfl, reps_of_ints is⟩
theorem insI_perm (x : Int) : ∀ l : List Int, (insI x l).Perm (x :: l)
  | [] => .refl _
  | y :: r => by
    unfold insI
    split
    · exact .refl _
    · exact ((insI_perm x r).cons y).trans (.swap x y r)
theorem srtI_perm : ∀ l : List Int, (srtI l).Perm l
  | [] => .refl _
  | x :: r => (insI_perm x _).trans ((srtI_perm r).cons x)
theorem insI_sorted (x : Int) : ∀ l : List Int, l.Pairwise (· ≤ ·) → (insI x l).Pairwise (· ≤ ·)
  | [], _ => by simp [insI]
  | y :: r, h => by
    unfold insI
    have h' := List.pairwise_cons.mp h
    split
    · rename_i c
      refine List.pairwise_cons.mpr ⟨fun z hz => ?_, h⟩
      rcases List.mem_cons.mp hz with rfl | hz
      · exact c
      · exact Int.le_trans c (h'.1 z hz)
    · rename_i c
      refine List.pairwise_cons.mpr ⟨fun z hz => ?_, insI_sorted x r h'.2⟩
      rcases List.mem_cons.mp ((insI_perm x r).subset hz) with rfl | hz
      · omega
      · exact h'.1 z hz
theorem srtI_sorted : ∀ l : List Int, (srtI l).Pairwise (· ≤ ·)
  | [] => .nil
  | x :: r => insI_sorted x _ (srtI_sorted r)
theorem sorted_one {a b : List Int} (p : a.Perm b) (ha : a.Pairwise (· ≤ ·)) (hb : b.Pairwise (· ≤ ·)) : a = b :=
  p.eq_of_pairwise (fun x y _ _ h1 h2 => Int.le_antisymm h1 h2) ha hb

/-! ### repr of data -/
theorem call_repr_data {prog : Program} {w : World} {A : Around} {E : Value → Shared → Prop} {s : Shared} {Q : Value → Shared → Prop} {v : Value} {d : PyData} {as : List Addr} (r : Reads s.heap v d as) (hs : d.showable = true) (hn : d.hasDict = false) (hz : d.shown.length ≤ sizeLine)
    (hg : A.guards = some []) (hu : A.units + 1 + d.depth < cLine) (hQ : ∀ h' u tk, (∀ b o, s.heap.get? b = some o → h'.get? b = some o) → Q (.str d.shown u) { s with heap := h', toks := tk }) :
    wpAny (model prog w) A (PySem.call (.builtin "repr") [v]) Q E s := by
  have hsm : d.hasDict = true → sysModules ∉ as := fun h => by rw [hn] at h; cases h
  cases d with
  | none =>
    cases r
    exact PySem.P.repr_of_none (by simpa only [PyData.shown] using hQ s.heap _ _ fun _ _ e => e)
  | bool b =>
    cases r
    exact PySem.P.repr_of_bool (by simpa only [PyData.shown] using hQ s.heap _ _ fun _ _ e => e)
  | int i =>
    cases r
    exact PySem.P.repr_of_int (by simpa [PyData.showable] using hs) (by simpa only [PyData.shown] using hQ s.heap _ _ fun _ _ e => e)
  | str x =>
    cases r
    exact PySem.P.repr_of_str (by simpa only [PyData.shown] using hQ s.heap _ _ fun _ _ e => e) (by simpa only [PyData.shown] using hz)
  | dict kvs => simp [PyData.hasDict] at hn
  | list xs =>
    have hz' : (listText (PyData.shownAll xs)).length ≤ sizeLine := by simpa only [PyData.shown] using hz
    cases id r with
    | @list a _ vs _ _ _ h1 h2 h3 h4 =>
      obtain ⟨bs, hb, hk⟩ := ReprAllK.of_readsAll (prog := prog) (w := w) h4 (by simpa [PyData.showable] using hs) (fun hx hm => hsm (by simpa [PyData.hasDict] using hx) (List.mem_cons_of_mem _ hm)) (fun t ht => Nat.le_trans (listText_mem_le ht) hz')
      have hna : a ∉ bs := not_mem_of_deeper r (by simp only [PyData.depth]; omega) hb
      simp only [PyData.depth] at hu
      simp only [PyData.shown] at hQ
      refine Calls.call_function_entry F.kind_repr F.plain_repr F.entry_repr (F.args_repr1 _) ?_
      unfold Builtin.«repr»
      refine wpAny_bind (m := oneArg "repr" _) (wpAny_pure ?_)
      have hTy : s.TypeIs (.ref a) "list" := ⟨_, h1, h2⟩
      refine wpAny_bind (wpAny_cRoomFor (by show A.units + 1 < cLine; omega) ?_)
      refine wpAny_bind (wpAny_specialOf (name := Str.ofString "__repr__") hTy F.slot_list_repr.lookup ?_)
      obtain ⟨l⟩ := vs
      cases l with
      | nil =>
        have h4' : ReadsAll s.heap [] xs _ := h4
        cases h4'
        simp only [PyData.shownAll, listText_nil] at hQ
        refine wpAny_bind (m := callSpecialIfBound? (.ref a) (Str.ofString "__repr__")) (wpAny_callSpecialIfBound?_slot (name := Str.ofString "__repr__") hTy F.slot_list_repr (call_list_repr_empty hTy h1 h3 ?_))
        refine wpAny_bind (wpAny_isInstance (T := "str") (b := true) rfl isSubtype_str_str ?_)
        exact wpAny_pure ⟨_, rfl, hQ s.heap _ _ fun _ _ e => e⟩
      | cons x l =>
        refine wpAny_bind (m := callSpecialIfBound? (.ref a) (Str.ofString "__repr__")) (wpAny_callSpecialIfBound?_slot (name := Str.ofString "__repr__") hTy F.slot_list_repr
          (call_list_reprK h1 h2 h3 hna (by simpa using hk.length_eq) (fun i y e => hk.item i y (by simpa using e)) (A := A.in1) hg (fun b _ => Clear.nil b) (by show A.units + 1 + _ < cLine; omega) (fun _ _ e => e) (fun h' u tk hkp => ?_) hz'))
        refine wpAny_bind (wpAny_isInstance (T := "str") (b := true) rfl isSubtype_str_str ?_)
        exact wpAny_pure ⟨_, rfl, hQ h' u tk hkp⟩
  | tuple xs =>
    have hz' : (tupleText (PyData.shownAll xs)).length ≤ sizeLine := by simpa only [PyData.shown] using hz
    cases id r with
    | @tuple a _ vs _ _ _ h1 h2 h3 h4 =>
      obtain ⟨bs, hb, hk⟩ := ReprAllK.of_readsAll (prog := prog) (w := w) h4 (by simpa [PyData.showable] using hs) (fun hx => hsm (by simpa [PyData.hasDict] using hx)) (fun t ht => Nat.le_trans (tupleText_mem_le ht) hz')
      have hna : a ∉ bs := not_mem_of_deeper r (by simp only [PyData.depth]; omega) hb
      simp only [PyData.depth] at hu
      simp only [PyData.shown] at hQ
      refine Calls.call_function_entry F.kind_repr F.plain_repr F.entry_repr (F.args_repr1 _) ?_
      unfold Builtin.«repr»
      refine wpAny_bind (m := oneArg "repr" _) (wpAny_pure ?_)
      have hTy : s.TypeIs (.ref a) "tuple" := ⟨_, h1, h2⟩
      refine wpAny_bind (wpAny_cRoomFor (by show A.units + 1 < cLine; omega) ?_)
      refine wpAny_bind (wpAny_specialOf (name := Str.ofString "__repr__") hTy F.slot_tuple_repr.lookup ?_)
      refine wpAny_bind (m := callSpecialIfBound? (.ref a) (Str.ofString "__repr__")) (wpAny_callSpecialIfBound?_slotG (name := Str.ofString "__repr__") hTy F.slot_tuple_repr
        (call_tuple_reprK h1 h2 h3 hna hk (A := A.in1) hg (fun b _ => Clear.nil b) (by show A.units + 1 + _ < cLine; omega) (fun _ _ e => e) (fun h' u tk hkp => ?_) hz'))
      refine wpAny_bind (wpAny_isInstance (T := "str") (b := true) rfl isSubtype_str_str ?_)
      exact wpAny_pure ⟨_, rfl, hQ h' u tk hkp⟩

theorem shaped_depth {d : PyData} (h : SeqAt.shaped d = true) : d.depth ≤ 64 := SeqAt.depth_of_shaped h
theorem reprD_some {S : Sto} {a : D} {x : Str} (e : reprD S a = some x) : ∃ d, snap S deep a = some d ∧ d.showable = true ∧ SeqAt.shaped d = true ∧ d.shown.length ≤ sizeLine ∧ x = d.shown := by
  unfold reprD at e
  cases q : snap S deep a with
  | none => rw [q] at e; cases e
  | some d =>
    rw [q] at e
    simp only [Option.bind_some] at e
    split at e
    · rename_i h
      cases e
      simp only [Bool.and_eq_true, decide_eq_true_eq] at h
      exact ⟨d, rfl, h.1.1, h.1.2, h.2, rfl⟩
    · cases e
theorem call_repr_ok (hg : X.A.guards = some []) (hu : X.A.units + 66 < cLine) : CallS X (.builtin "repr") (biD .repr) := by
  intro pins s σ H xs us ds ι S Q E I rx hr qx p
  match ds, qx, p with
  | [], _, p => exact p.elim
  | _ :: _ :: _, _, p => exact p.elim
  | [a], qx, p =>
    obtain ⟨v, rfl, q⟩ := reps1 qx
    obtain ⟨u, rfl, ru⟩ := vals1 rx
    obtain ⟨x, e, p⟩ := Pst.opt p
    obtain ⟨d, h1, h2, h3, h4, rfl⟩ := reprD_some e
    obtain ⟨as, rd⟩ := Dp.reads I d v u (snap_dp hr _ _ _ _ h1 q) ru
    have hd := shaped_depth h3
    refine call_repr_data rd h2 (PyData.hasDict_of_canLay d (SeqAt.canLay_of_shaped h3)) h4 hg (by omega) fun h' t tk k => ?_
    exact ⟨.str d.shown, H, I.kept k, ⟨t, rfl⟩, fin_same p hr rfl⟩

theorem len_ok : CallS X (.builtin "len") (biD .len) := by
  refine CallS.of (call_len_seq.or call_len_str) fun H xs ds ι S Q E hr qx p => ?_
  match ds, qx, p with
  | [], _, p => exact p.elim
  | a :: _ :: _, _, p => cases a <;> exact p.elim
  | [a], qx, p =>
    obtain ⟨v, rfl, q⟩ := reps1 qx
    have gen : ∀ {p' : Res D}, p' = (match seqOf S a with | some xs => .ok (.int xs.length) S | none => .bad) → Pst X.K p' ι H (VS X.K Q) E → ∃ b ys, v = V.ref b ∧ (SqL X.K H b ys ∨ SqT X.K H b ys) ∧ Q (.int ys.length) H := by
      intro p' e p
      subst e
      split at p
      · rename_i xs e1
        obtain ⟨b, vs, h1, h2, h3⟩ := hr.seq q e1
        exact ⟨b, vs, h1, h2, by rw [← h3.length]; exact fin_same p hr rfl⟩
      · exact p.elim
    cases a with
    | str x =>
      cases q
      obtain ⟨hz, p⟩ := Pst.grd p
      exact .inr ⟨x, rfl, hz, fin_same p hr rfl⟩
    | _ =>
      obtain ⟨b, ys, rfl, h2, h3⟩ := gen rfl p
      exact .inl ⟨b, ys, rfl, h2, h3⟩
theorem abs_ok : CallS X (.builtin "abs") (biD .abs) := by
  refine CallS.of call_abs fun H xs ds ι S Q E hr qx p => ?_
  match ds, qx, p with
  | [], _, p => exact p.elim
  | a :: _ :: _, _, p => cases a <;> exact p.elim
  | [a], qx, p =>
    obtain ⟨v, rfl, q⟩ := reps1 qx
    cases a <;> first | exact p.elim | skip
    cases q
    exact ⟨_, rfl, fin_same p hr rfl⟩
theorem int_ok : CallS X (.type "int") (biD .int) := by
  refine CallS.of call_int1 fun H xs ds ι S Q E hr qx p => ?_
  match ds, qx, p with
  | [], _, p => exact p.elim
  | a :: _ :: _, _, p => cases a <;> exact p.elim
  | [a], qx, p =>
    obtain ⟨v, rfl, q⟩ := reps1 qx
    cases a <;> first | exact p.elim | (cases q; exact .inl ⟨_, rfl, fin_same p hr rfl⟩) | (cases q; exact .inr ⟨_, rfl, fin_same p hr rfl⟩)
theorem list_ok : CallS X (.type "list") (biD .list) := by
  refine CallS.of call_list_of fun H xs ds ι S Q E hr qx p => ?_
  match ds, qx, p with
  | [], _, p => exact p.elim
  | a :: _ :: _, _, p => exact p.elim
  | [a], qx, p =>
    obtain ⟨v, rfl, q⟩ := reps1 qx
    simp only [biD] at p
    split at p
    · rename_i xs e1
      obtain ⟨b, vs, rfl, h2, h3⟩ := hr.seq q e1
      exact ⟨b, vs, rfl, h2, fun l hl => fin_lst p hr h3 hl⟩
    · exact p.elim
theorem tuple_ok : CallS X (.type "tuple") (biD .tuple) := by
  refine CallS.of call_tuple_of fun H xs ds ι S Q E hr qx p => ?_
  match ds, qx, p with
  | [], _, p => exact p.elim
  | a :: _ :: _, _, p => exact p.elim
  | [a], qx, p =>
    obtain ⟨v, rfl, q⟩ := reps1 qx
    simp only [biD] at p
    cases a with
    | tup ys =>
      obtain ⟨b, vs, rfl, t, rs⟩ := q
      exact ⟨b, vs, rfl, .inr ⟨t.sq, fin_same p hr ⟨b, vs, rfl, t, rs⟩⟩⟩
    | fl ys =>
      obtain ⟨b, vs, rfl, t, rs⟩ := q
      exact ⟨b, vs, rfl, .inl ⟨t.sq, fun l hl => fin_tup p hr rs hl⟩⟩
    | loc n =>
      split at p
      · rename_i xs e1
        obtain ⟨b, vs, rfl, _, h2, h3⟩ := hr.lst q e1
        exact ⟨b, vs, rfl, .inl ⟨.inl (.inl h2), fun l hl => fin_tup p hr h3 hl⟩⟩
      · exact p.elim
    | _ => exact p.elim
theorem max_ok (hc : X.calm = true) : CallS X (.builtin "max") (biD .max) := by
  refine CallS.of (call_max2 hc) fun H xs ds ι S Q E hr qx p => ?_
  match ds, qx, p with
  | [], _, p => exact p.elim
  | [a], _, p => cases a <;> exact p.elim
  | a :: b :: _ :: _, _, p => cases a <;> cases b <;> exact p.elim
  | [a, b], qx, p =>
    obtain ⟨v, w, rfl, q1, q2⟩ := reps2 qx
    cases a <;> cases b <;> first | exact p.elim | skip
    cases q1; cases q2
    exact ⟨_, _, rfl, fin_same p hr rfl⟩
theorem min_ok (hc : X.calm = true) : CallS X (.builtin "min") (biD .min) := by
  refine CallS.of (call_min2 hc) fun H xs ds ι S Q E hr qx p => ?_
  match ds, qx, p with
  | [], _, p => exact p.elim
  | [a], _, p => cases a <;> exact p.elim
  | a :: b :: _ :: _, _, p => cases a <;> cases b <;> exact p.elim
  | [a, b], qx, p =>
    obtain ⟨v, w, rfl, q1, q2⟩ := reps2 qx
    cases a <;> cases b <;> first | exact p.elim | skip
    cases q1; cases q2
    exact ⟨_, _, rfl, fin_same p hr rfl⟩
theorem sorted_ok : CallS X (.builtin "sorted") (biD .sorted) := by
  refine CallS.of cr_sortedI fun H xs ds ι S Q E hr qx p => ?_
  match ds, qx, p with
  | [], _, p => exact p.elim
  | a :: _ :: _, _, p => cases a <;> exact p.elim
  | [a], qx, p =>
    obtain ⟨v, rfl, q⟩ := reps1 qx
    cases a with
    | loc n =>
      simp only [biD] at p
      split at p
      · rename_i xs e1
        split at p
        · rename_i is e2
          obtain ⟨b, vs, rfl, _, h2, h3⟩ := hr.lst q e1
          obtain ⟨rfl, rfl⟩ := reps_ints e2 h3
          refine ⟨b, is, rfl, .inl (.inl h2), fun ns' l hp hs hl => ?_⟩
          have e3 : ns' = srtI is := sorted_one (hp.trans (srtI_perm is).symm) hs (srtI_sorted is)
          subst e3
          exact fin_lst p hr (reps_of_ints _) hl
        · exact p.elim
      · exact p.elim
    | _ => exact p.elim
theorem all_ok (hc : X.calm = true) : CallS X (.builtin "all") (biD .all) := by
  refine CallS.of (cr_all hc) fun H xs ds ι S Q E hr qx p => ?_
  match ds, qx, p with
  | [], _, p => exact p.elim
  | a :: _ :: _, _, p => cases a <;> exact p.elim
  | [a], qx, p =>
    obtain ⟨v, rfl, q⟩ := reps1 qx
    cases a with
    | loc n =>
      simp only [biD] at p
      split at p
      · rename_i xs e1
        split at p
        · rename_i is e2
          obtain ⟨b, vs, rfl, _, h2, h3⟩ := hr.lst q e1
          have e4 := reps_bls e2 h3
          subst e4
          exact ⟨b, is, rfl, .inl (.inl h2), fin_same p hr rfl⟩
        · exact p.elim
      · exact p.elim
    | _ => exact p.elim
theorem any_ok (hc : X.calm = true) : CallS X (.builtin "any") (biD .any) := by
  refine CallS.of (cr_any hc) fun H xs ds ι S Q E hr qx p => ?_
  match ds, qx, p with
  | [], _, p => exact p.elim
  | a :: _ :: _, _, p => cases a <;> exact p.elim
  | [a], qx, p =>
    obtain ⟨v, rfl, q⟩ := reps1 qx
    cases a with
    | loc n =>
      simp only [biD] at p
      split at p
      · rename_i xs e1
        split at p
        · rename_i is e2
          obtain ⟨b, vs, rfl, _, h2, h3⟩ := hr.lst q e1
          have e4 := reps_bls e2 h3
          subst e4
          exact ⟨b, is, rfl, .inl (.inl h2), fin_same p hr rfl⟩
        · exact p.elim
      · exact p.elim
    | _ => exact p.elim
theorem bi_ok (hc : X.calm = true) (hg : X.A.guards = some []) (hu : X.A.units + 66 < cLine) (b : Bi) : CallS X (biV b) (biD b) := by
  cases b with
  | abs => exact abs_ok
  | len => exact len_ok
  | int => exact int_ok
  | list => exact list_ok
  | tuple => exact tuple_ok
  | max => exact max_ok hc
  | min => exact min_ok hc
  | repr => exact call_repr_ok hg hu
  | sorted => exact sorted_ok
  | all => exact all_ok hc
  | any => exact any_ok hc

/-! ### methods -/
def mtT : Mt → String
  | .append => "list" | .pop => "list" | .index => "list"
def mtId : Mt → String
  | .append => "list.append" | .pop => "list.pop" | .index => "list.index"
def mtName : Mt → Str
  | .append => "append" | .pop => "pop" | .index => "index"
/-- what the receiver is -/
theorem ixN_seq' {n : Nat} {i : Int} {k : Nat} (h : L2.ixN n i = some k) : seqIndex? i n = some k ∧ k < n ∧ -(n : Int) ≤ i ∧ i < n := L2.ixN_seq h
theorem idxI_some {x : Int} : ∀ {l : List Int} {k : Nat}, idxI x l = some k → l[k]? = some x ∧ ∀ (m : Nat) (y : Int), m < k → l[m]? = some y → y ≠ x
  | [], _, e => by cases e
  | y :: r, k, e => by
    unfold idxI at e
    split at e
    · rename_i c
      cases e
      exact ⟨by simp [c], fun m z hm => by omega⟩
    · rename_i c
      simp only [Option.map_eq_some_iff] at e
      obtain ⟨j, e1, rfl⟩ := e
      obtain ⟨h1, h2⟩ := idxI_some e1
      refine ⟨by simpa using h1, fun m z hm hz => ?_⟩
      cases m with
      | zero => simp at hz; rw [← hz]; exact c
      | succ m => exact h2 m z (by omega) (by simpa using hz)
theorem mt_run (m : Mt) {pins : List (Addr × Obj)} {s : Shared} {σ : St} {H : Hp} {x : V} {xs : List V} {v : Value} {us : List Value} {d : D} {ds : List D} {ι : List Addr} {S : Sto} {Q : VK} {E : EM} (I : Inv X pins σ H s) (rx : RelV x v) (rs : Vals xs us) (hr : HRep X.K ι S H)
    (q : Rep X.K ι H d x) (qs : Reps X.K ι H ds xs) (p : Pst X.K (mtD m d ds S) ι H (VS X.K Q) E) : wpAny (model X.prog X.w) X.A (PySem.call (.builtin (mtId m)) (v :: us)) (EP X pins σ Q) X.xe s := by
  cases d with
  | loc n =>
    cases m with
    | append =>
      match ds, qs, p with
      | [], _, p => exact p.elim
      | _ :: _ :: _, _, p => exact p.elim
      | [a], qs, p =>
        obtain ⟨w, rfl, qa⟩ := reps1 qs
        simp only [mtD] at p
        split at p
        · rename_i ys e1
          obtain ⟨hl, p⟩ := Pst.grd p
          obtain ⟨b, vs, rfl, ha, h2, h3⟩ := hr.lst q e1
          refine mt_append pins s σ H _ _ v us Q I rx rs ⟨b, vs, w, rfl, rfl, h2, by rw [← h3.length]; exact hl, ?_⟩
          exact fin_putL (F := VS X.K Q) p hr ha (h3.append (.one qa)) _ rfl
        · exact p.elim
    | pop =>
      match ds, qs, p with
      | [], _, p => exact p.elim
      | a :: _ :: _, _, p => cases a <;> exact p.elim
      | [a], qs, p =>
        obtain ⟨w, rfl, qa⟩ := reps1 qs
        cases a <;> first | exact p.elim | skip
        rename_i i
        cases qa
        simp only [mtD] at p
        split at p
        · rename_i ys e1
          split at p
          · rename_i k e2
            split at p
            · rename_i y e3
              obtain ⟨b, vs, rfl, ha, h2, h3⟩ := hr.lst q e1
              obtain ⟨f1, f2, f3, f4⟩ := ixN_seq' e2
              obtain ⟨z, h4, h5⟩ := h3.get e3
              have hz : vs.length ≤ sizeLine := (I.lstM h2).1
              have hl := line63
              have hs : sizeLine = 16777216 := sizeLine_eq
              have hlen := h3.length
              refine mt_popAt pins s σ H _ _ v us Q I rx rs ⟨b, vs, i, k, z, rfl, rfl, h2, by omega, by omega, by rw [← hlen]; exact f1, h4, ?_⟩
              exact fin_putL (F := VS X.K Q) p hr ha (h3.eraseIdx k) _ (Rep.ext hr (ext_put hr ha) _ _ h5)
            · exact p.elim
          · exact p.elim
        · exact p.elim
    | index =>
      match ds, qs, p with
      | [], _, p => exact p.elim
      | a :: _ :: _, _, p => cases a <;> exact p.elim
      | [a], qs, p =>
        obtain ⟨w, rfl, qa⟩ := reps1 qs
        cases a <;> first | exact p.elim | skip
        rename_i i
        cases qa
        simp only [mtD] at p
        split at p
        · rename_i ys e1
          split at p
          · rename_i is e2
            split at p
            · rename_i k e3
              obtain ⟨b, vs, rfl, ha, h2, h3⟩ := hr.lst q e1
              obtain ⟨rfl, rfl⟩ := reps_ints e2 h3
              obtain ⟨h4, h5⟩ := idxI_some e3
              refine mt_index pins s σ H _ _ v us Q I rx rs ⟨b, is.map V.int, .int i, k, .int i, rfl, rfl, .inl (.inl h2), rfl, by simp [flatV], by simp [h4], by simp [eqV], fun m z hm hz => ?_, fin_same p hr rfl⟩
              rw [List.getElem?_map, Option.map_eq_some_iff] at hz
              obtain ⟨y, e4, rfl⟩ := hz
              have := h5 m y hm e4
              simp [eqV, this]
            · exact p.elim
          · exact p.elim
        · exact p.elim
  | _ => cases m <;> (cases ds <;> first | exact p.elim | (rename_i a t; cases t <;> first | exact p.elim | (cases a <;> exact p.elim)))
end
end Mi
set_option Elab.async false
set_option linter.all false
set_option maxRecDepth 100000
set_option maxHeartbeats 4000000
/-! Mi3: enumerate over a tuple; what drives a loop; defs with a guard's word; the context. -/
namespace Mi
open PySem L2 PyProof.Rows

/-! ### enumerate(tuple) -/
theorem meets_enumT (l : Addr) (items : Array Value) (n : Nat) (dct : Option Addr) (sl : Array (Option Value)) :
    Meets (Builtin.«enumerate.__new__» ⟨[.type "enumerate", .ref l], []⟩) (fun _ R s => s.heap.get? l = some { cls := .type "tuple", dict := dct, data := .seq items n, slots := sl } ∧
      R (.ok (.ret (.ref (s.heap.push { cls := .type "tuple_iterator", data := .fields #[.ref l, .int 0 0] }).objs.size)))
        { s with heap := (s.heap.push { cls := .type "tuple_iterator", data := .fields #[.ref l, .int 0 0] }).push { cls := .type "enumerate", data := .fields #[.none, .bool false, .ref s.heap.objs.size, rawInt 0, .none, .none] } }) :=
  .of_wp fun prog w A R s h => by
    obtain ⟨hp, g, d, tk, os⟩ := s
    obtain ⟨hl, h⟩ := h
    have hsub := sub_enumerate
    have hT : Heap.IsTuple (Shared.heap ⟨hp, g, d, tk, os⟩) l items := ⟨_, hl, rfl, n, rfl⟩
    wp_walk using AutoSeq1.wpAny_loadPart' hl
    refine wpAny_stack_any fun st => wpAny_pure ?_
    split
    · rename_i c _ _ _ _ _
      cases (c == Value.type "enumerate")
      · wp_walk using AutoSeq1.wpAny_loadPart' hl, wpAny_pyIter_tuple hT
        exact ⟨_, rfl, h⟩
      · wp_walk using AutoSeq1.wpAny_loadPart' hl, wpAny_pyIter_tuple hT
        exact ⟨_, rfl, h⟩
    · wp_walk using AutoSeq1.wpAny_loadPart' hl, wpAny_pyIter_tuple hT
      exact ⟨_, rfl, h⟩
theorem call_enumT {prog : Program} {w : World} {A : Around} {E : Value → Shared → Prop} {s : Shared} {l : Addr} {items : Array Value} {Q : Value → Shared → Prop} (hL : s.heap.IsTuple l items)
    (h : ∀ h', IsEnum h' (s.heap.objs.size + 1) s.heap.objs.size 0 .none → h'.IsTupleIter s.heap.objs.size l 0 → (∀ b o, s.heap.get? b = some o → h'.get? b = some o) → Q (.ref (s.heap.objs.size + 1)) { s with heap := h' }) :
    wpAny (model prog w) A (PySem.call (.type "enumerate") [.ref l]) Q E s := by
  obtain ⟨⟨c, dct, dt, sl⟩, hl, hc, n, hd⟩ := hL
  replace hc : c = .type "tuple" := hc
  replace hd : dt = .seq items n := hd
  subst hc hd
  refine callType_new F.called_enumerate (by decide) (F.typeCall_enumerate_1 _) (F.newCall_enumerate_1 _) (fun obj => F.args_object_init_2 obj _) F.entry_enumerate_new (meets_enumT l items n dct sl) ⟨hl, ?_⟩
  have hz : (s.heap.push { cls := .type "tuple_iterator", data := .fields #[.ref l, .int 0 0] }).objs.size = s.heap.objs.size + 1 := Heap.size_push ..
  show _ ∧ _
  rw [hz]
  have he : IsEnum ((s.heap.push { cls := .type "tuple_iterator", data := .fields #[.ref l, .int 0 0] }).push { cls := .type "enumerate", data := .fields #[.none, .bool false, .ref s.heap.objs.size, rawInt 0, .none, .none] }) (s.heap.objs.size + 1) s.heap.objs.size 0 .none := by
    have := Heap.get?_push_size (s.heap.push { cls := .type "tuple_iterator", data := .fields #[.ref l, .int 0 0] }) (o := { cls := .type "enumerate", data := .fields #[.none, .bool false, .ref s.heap.objs.size, rawInt 0, .none, .none] }) rfl
    rw [hz] at this; exact this
  exact ⟨⟨_, he, rfl⟩, h _ he ⟨_, Heap.get?_push_of_some _ (Heap.get?_push_size _ rfl), rfl, rfl⟩ fun b o x => Heap.get?_push_of_some _ (Heap.get?_push_of_some _ x)⟩
/-- the tuple at a, each item in a new pair -/
def IteT (K : PySem.W.Frag) (a : Addr) : It :=
  ⟨fun i H => ∃ (xs : List V) (x : V), SqT K H a xs ∧ xs[i]? = some x, fun i H v H' => ∃ T x, v = .ref T ∧ H T = none ∧ H' = upd H T (.tup [.int (i : Nat), x]) ∧ ∀ xs, SqT K H a xs → xs[i]? = some x, fun i H => ∃ xs : List V, SqT K H a xs ∧ xs.length = i⟩
theorem turn_enumT {P : Program} {w : World} {K : PySem.W.Frag} {elts : List Expr} {kk : Nat} {tpos : Pos} (a e it : Addr) :
    Turn P w K (.Tuple elts kk tpos) (IteT K a) [e, it] e (fun i h => (∃ old, IsEnum h e it ((i : Nat) : Int) old) ∧ h.IsTupleIter it a i ∧ e ≠ it) where
  mem := by simp
  obj := fun i h st b hb => by
    obtain ⟨⟨old, he⟩, ⟨o, ho, hc, hd⟩, _⟩ := st
    have e' : b = e ∨ b = it := by simpa using hb
    rcases e' with z | z
    · rw [z]; exact ⟨_, he, fun v q => nomatch q⟩
    · rw [z]; exact ⟨o, ho, fun v q => by rw [hd] at q; cases q⟩
  keep := fun i h h' st k => by
    obtain ⟨⟨old, he⟩, hi, hne⟩ := st
    exact ⟨⟨old, k e (by simp) _ he⟩, hi.at fun o q => k it (by simp) o q, hne⟩
  item := by
    intro X hP hw hK hc i pins s σ H E I hf st hg
    subst hP hw hK
    obtain ⟨⟨old, he⟩, hit, hne⟩ := st
    obtain ⟨xs, x, hq, hx⟩ := hg
    obtain ⟨its, rv, p, hz⟩ := I.tuple hq
    have hlen := rv.length
    have hix : i < xs.length := (List.getElem?_eq_some_iff.mp hx).1
    obtain ⟨oa, hoa, hca, na, hda⟩ := id p
    obtain ⟨oi, hoi, hci, hdi⟩ := id hit
    have nea : e ≠ a := fun z => by rw [← z, he] at hoa; cases hoa; cases hda
    have nit : a ≠ it := fun z => by rw [z, hoi] at hoa; cases hoa; rw [hdi] at hda; cases hda
    have hel : e < s.heap.objs.size := Heap.lt_size he
    have hil : it < s.heap.objs.size := Heap.lt_size hoi
    have Dr := Draws.tuple (prog := X.prog) (w := X.w) (A := X.A.in1) (I.ok.hd hc) it a nit its.toArray
    refine wpAny_pyNext_enum_itemD (i := i) Dr he ⟨hit, p⟩ (by simp; omega) hne (by simp [hne, nea]) fun u h' tk hu ho hst hT hsz hk => ?_
    obtain ⟨u', hu', ru⟩ := rv.get hx
    have eu : u = u' := by
      have z : its.toArray[i]? = some u := hu
      rw [List.getElem?_toArray, hu'] at z
      cases z; rfl
    subst eu
    refine ⟨_, rfl, wpAny_letOwnedTupleGo_enum (s := { s with heap := h', toks := tk + 1 }) ho fun h'' he' sb => ?_⟩
    have hT2 : h''.get? s.heap.objs.size = some { cls := .type "tuple", data := .seq #[.int i tk, u] } := (sb.2 _ (Nat.ne_of_gt hel)).trans hT
    have new : ObjOk X.prog X.w (upd H s.heap.objs.size (.tup [.int (i : Nat), x])) h'' s.heap.objs.size (.tup [.int (i : Nat), x]) :=
      ⟨by show 2 ≤ sizeLine; decide, [.int i tk, u], .cons ⟨_, rfl⟩ (.cons ru .nil), ⟨_, hT2, rfl, _, rfl⟩⟩
    have I1 : Inv X pins σ (upd H s.heap.objs.size (.tup [.int (i : Nat), x])) { s with heap := h'', toks := tk + 1 } :=
      I.turnedNew (ch := [e, it]) (fun b ob hb q => (sb.2 b (fun z => hb (by simp [z]))).trans (hk b ob (fun z => hb (by simp [z])) (fun z => hb (by simp [z])) q)) hf (Nat.le_refl _) new
    refine ⟨.ref s.heap.objs.size, _, I1, rfl, ⟨_, x, rfl, I.hok.fresh (Nat.le_refl _), rfl, fun ys hy => by rw [I.tuple_inj hy hq]; exact hx⟩, ⟨⟨u, ?_⟩, hst.1.at fun o q => (sb.2 it (Ne.symm hne)).trans q, hne⟩, fun b hb => ?_⟩
    · have e1 : ((i + 1 : Nat) : Int) = (i : Int) + 1 := by omega
      rw [e1]; exact he'
    · have hb' : b < s.heap.objs.size := by
        have e' : b = e ∨ b = it := by simpa using hb
        rcases e' with z | z
        · rw [z]; exact hel
        · rw [z]; exact hil
      rw [upd_ne (Nat.ne_of_lt hb')]
      exact (hf b hb).1
  done := by
    intro X hP hw hK hc i pins s σ H E I hf st hg
    subst hP hw hK
    obtain ⟨⟨old, he⟩, hit, hne⟩ := st
    obtain ⟨xs, hq, hx⟩ := hg
    obtain ⟨its, rv, p, hz⟩ := I.tuple hq
    obtain ⟨f0, f1, f2, f3, f4, f5⟩ := hf it (by simp)
    have hl := rv.length
    obtain ⟨oa, hoa, hca, na, hda⟩ := id p
    obtain ⟨oi, hoi, hci, hdi⟩ := id hit
    have nit : a ≠ it := fun z => by rw [z, hoi] at hoa; cases hoa; rw [hdi] at hda; cases hda
    have Dr := Draws.tuple (prog := X.prog) (w := X.w) (A := X.A.in1) (I.ok.hd hc) it a nit its.toArray
    have hi : its.toArray.size = i := by simp; omega
    exact wpAny_pyNext_enum_endD Dr he (by rw [hi]; exact ⟨hit, p⟩) fun h' eb => ⟨rfl, I.turned (t' := s.toks) (fun b o hb q => eb b o hb q) f0 f1 f3 f4 f5⟩
  self := fun A i s Q E st h => by
    obtain ⟨⟨_, he⟩, _⟩ := st
    exact wpAny_pyIter_enum he h

/-! ### what a loop walks -/
/-- the iterator gives what g tells, as long as the store lies in the heap -/
def Drives (K : PySem.W.Frag) (J : It) (g : Sto → Option (List D)) (ι₀ : List Addr) (H₀ : Hp) : Prop :=
  ∀ (ι : List Addr) (S : Sto) (H : Hp) (i : Nat) (ys : List D), Ext ι₀ H₀ ι H → HRep K ι S H → g S = some ys →
    (∀ x, ys[i]? = some x → J.go i H ∧ ∀ v H', J.yld i H v H' → Ext ι H ι H' ∧ HRep K ι S H' ∧ Rep K ι H' x v) ∧ (ys.length = i → J.stop i H)
def srcG : Src → Sto → Option (List D)
  | .fix xs => fun _ => some xs
  | .live g _ => g
def srcN : Src → Nat
  | .fix xs => xs.length
  | .live _ n => n

section
variable {K : PySem.W.Frag} {ι : List Addr} {S : Sto} {H : Hp}
theorem drives_tup {a : Addr} {vs : List V} {ds : List D} (hr : HRep K ι S H) (t : TupAt K H a vs) (rs : Reps K ι H ds vs) : Drives K (Itt K a) (fun _ => some ds) ι H := by
  intro ι1 S1 H1 i ys e r q
  cases q
  have t1 := (TupAt.ext hr e t).sq
  have rs1 := Reps.ext hr e _ _ rs
  refine ⟨fun x hx => ?_, fun hl => ⟨vs, t1, by rw [← rs1.length]; exact Nat.le_of_eq hl⟩⟩
  obtain ⟨v, hv, rv⟩ := rs1.get hx
  refine ⟨⟨vs, v, t1, hv⟩, fun v' H' y => ?_⟩
  obtain ⟨rfl, y⟩ := y
  have z := y vs t1
  rw [hv] at z; cases z
  exact ⟨Ext.refl _ _, r, rv⟩
theorem drives_fl {a : Addr} {vs : List V} {ds : List D} (hr : HRep K ι S H) (t : FrL K H a vs) (rs : Reps K ι H ds vs) : Drives K (Itl K a) (fun _ => some ds) ι H := by
  intro ι1 S1 H1 i ys e r q
  cases q
  have t1 := (FrL.ext hr e t).sq
  have rs1 := Reps.ext hr e _ _ rs
  refine ⟨fun x hx => ?_, fun hl => ⟨vs, t1, by rw [← rs1.length]; exact Nat.le_of_eq hl⟩⟩
  obtain ⟨v, hv, rv⟩ := rs1.get hx
  refine ⟨⟨vs, v, t1, hv⟩, fun v' H' y => ?_⟩
  obtain ⟨rfl, y⟩ := y
  have z := y vs t1
  rw [hv] at z; cases z
  exact ⟨Ext.refl _ _, r, rv⟩
theorem drives_lst {a : Addr} {n : Nat} (ha : ι[n]? = some a) : Drives K (Itl K a) (fun S => getLst S n) ι H := by
  intro ι1 S1 H1 i ys e r q
  obtain ⟨a', vs, e1, h1, h2, rs1⟩ := r.lst (v := .ref a) ⟨a, rfl, e.pre n a ha⟩ q
  cases e1
  have t1 : SqL K H1 a vs := .inl (.inl h2)
  refine ⟨fun x hx => ?_, fun hl => ⟨vs, t1, by rw [← rs1.length]; exact Nat.le_of_eq hl⟩⟩
  obtain ⟨v, hv, rv⟩ := rs1.get hx
  refine ⟨⟨vs, v, t1, hv⟩, fun v' H' y => ?_⟩
  obtain ⟨rfl, y⟩ := y
  have z := y vs t1
  rw [hv] at z; cases z
  exact ⟨Ext.refl _ _, r, rv⟩
def rangeD (i : Int) (n : Nat) : List D := (List.range n).map fun k => .int (i + (k : Nat))
theorem drives_rng (i : Int) (n : Nat) : Drives K (Itr i n) (fun _ => some (rangeD i n)) ι H := by
  intro ι1 S1 H1 k ys e r q
  cases q
  refine ⟨fun x hx => ?_, fun hl => by simp [rangeD] at hl; exact Nat.le_of_eq hl⟩
  simp only [rangeD, List.getElem?_map, Option.map_eq_some_iff] at hx
  obtain ⟨j, hj, rfl⟩ := hx
  have hk : k < n := by
    have := (List.getElem?_eq_some_iff.mp hj).1
    simpa using this
  rw [List.getElem?_range hk] at hj
  cases hj
  refine ⟨hk, fun v' H' y => ?_⟩
  obtain ⟨rfl, rfl⟩ := y
  exact ⟨Ext.refl _ _, r, rfl⟩
theorem enum_get {ds : List D} {i : Nat} {x : D} (h : ((List.range ds.length).zipWith (fun (k : Nat) (x : D) => D.tup [.int (k : Nat), x]) ds)[i]? = some x) : ∃ d, ds[i]? = some d ∧ x = .tup [.int (i : Nat), d] := by
  rw [List.getElem?_zipWith] at h
  split at h
  · rename_i a b e1 e2
    cases h
    have hk : i < ds.length := (List.getElem?_eq_some_iff.mp e2).1
    rw [List.getElem?_range hk] at e1
    cases e1
    exact ⟨b, e2, rfl⟩
  · cases h
theorem pair_new {x y : D} {v w : V} {T : Addr} (r : HRep K ι S H) (hT : H T = none) (q1 : Rep K ι H x v) (q2 : Rep K ι H y w) :
    Ext ι H ι (upd H T (.tup [v, w])) ∧ HRep K ι S (upd H T (.tup [v, w])) ∧ Rep K ι (upd H T (.tup [v, w])) (.tup [x, y]) (.ref T) := by
  refine ⟨ext_tup r hT, hrep_tup r hT, T, [v, w], rfl, .inl upd_same, Reps.ext r (ext_tup r hT) _ _ ?_⟩
  exact ⟨v, [w], rfl, q1, .one q2⟩
theorem drives_enumT {a : Addr} {vs : List V} {ds : List D} (hr : HRep K ι S H) (t : TupAt K H a vs) (rs : Reps K ι H ds vs) :
    Drives K (IteT K a) (fun _ => some ((List.range ds.length).zipWith (fun (k : Nat) (x : D) => D.tup [.int (k : Nat), x]) ds)) ι H := by
  intro ι1 S1 H1 i ys e r q
  cases q
  have t1 := (TupAt.ext hr e t).sq
  have rs1 := Reps.ext hr e _ _ rs
  refine ⟨fun x hx => ?_, fun hl => ⟨vs, t1, by simp at hl; rw [← rs1.length]; exact hl⟩⟩
  obtain ⟨d, hd, rfl⟩ := enum_get hx
  obtain ⟨v, hv, rv⟩ := rs1.get hd
  refine ⟨⟨vs, v, t1, hv⟩, fun v' H' y => ?_⟩
  obtain ⟨T, w, rfl, hT, rfl, y⟩ := y
  have z := y vs t1
  rw [hv] at z; cases z
  exact pair_new r hT rfl rv
theorem drives_enumL {a : Addr} {n : Nat} (ha : ι[n]? = some a) :
    Drives K (Ite K a) (fun S => (getLst S n).map fun ys => (List.range ys.length).zipWith (fun (k : Nat) (x : D) => D.tup [.int (k : Nat), x]) ys) ι H := by
  intro ι1 S1 H1 i ys e r q
  rw [Option.map_eq_some_iff] at q
  obtain ⟨ds, q, rfl⟩ := q
  obtain ⟨a', vs, e1, h1, h2, rs1⟩ := r.lst (v := .ref a) ⟨a, rfl, e.pre n a ha⟩ q
  cases e1
  have t1 : SqL K H1 a vs := .inl (.inl h2)
  refine ⟨fun x hx => ?_, fun hl => ⟨vs, t1, by simp at hl; rw [← rs1.length]; exact Nat.le_of_eq hl⟩⟩
  obtain ⟨d, hd, rfl⟩ := enum_get hx
  obtain ⟨v, hv, rv⟩ := rs1.get hd
  refine ⟨⟨vs, v, t1, hv⟩, fun v' H' y => ?_⟩
  obtain ⟨T, w, rfl, hT, rfl, y⟩ := y
  have z := y vs t1
  rw [hv] at z; cases z
  exact pair_new r hT rfl rv
theorem zip_get {xs ys : List D} {i : Nat} {z : D} (h : (xs.zipWith (fun (x y : D) => D.tup [x, y]) ys)[i]? = some z) : ∃ x y, xs[i]? = some x ∧ ys[i]? = some y ∧ z = .tup [x, y] := by
  rw [List.getElem?_zipWith] at h
  split at h
  · rename_i a b e1 e2
    cases h
    exact ⟨a, b, e1, e2, rfl⟩
  · cases h
theorem drives_zipT {a b : Addr} {vs ws : List V} {ds es : List D} (hr : HRep K ι S H) (t : TupAt K H a vs) (rs : Reps K ι H ds vs) (t' : TupAt K H b ws) (rs' : Reps K ι H es ws) :
    Drives K (RZ.ItzT K a b) (fun _ => some (ds.zipWith (fun (x y : D) => D.tup [x, y]) es)) ι H := by
  intro ι1 S1 H1 i ys e r q
  cases q
  have t1 := (TupAt.ext hr e t).sq
  have t2 := (TupAt.ext hr e t').sq
  have rs1 := Reps.ext hr e _ _ rs
  have rs2 := Reps.ext hr e _ _ rs'
  refine ⟨fun x hx => ?_, fun hl => ⟨vs, ws, t1, t2, by simp at hl; rw [← rs1.length, ← rs2.length]; omega⟩⟩
  obtain ⟨d, d', hd, hd', rfl⟩ := zip_get hx
  obtain ⟨v, hv, rv⟩ := rs1.get hd
  obtain ⟨w, hw, rw'⟩ := rs2.get hd'
  refine ⟨⟨vs, ws, v, w, t1, t2, hv, hw⟩, fun v' H' y => ?_⟩
  obtain ⟨T, v1, w1, rfl, hT, rfl, y1, y2⟩ := y
  have z1 := y1 vs t1
  have z2 := y2 ws t2
  rw [hv] at z1; cases z1
  rw [hw] at z2; cases z2
  exact pair_new r hT rv rw'
theorem drives_zipL {a b : Addr} {n m : Nat} (ha : ι[n]? = some a) (hb : ι[m]? = some b) :
    Drives K (Itz K a b) (fun S => (getLst S n).bind fun xs => (getLst S m).map fun ys => xs.zipWith (fun x y => .tup [x, y]) ys) ι H := by
  intro ι1 S1 H1 i ys e r q
  simp only [Option.bind_eq_some_iff, Option.map_eq_some_iff] at q
  obtain ⟨ds, q1, es, q2, rfl⟩ := q
  obtain ⟨a', vs, e1, _, h2, rs1⟩ := r.lst (v := .ref a) ⟨a, rfl, e.pre n a ha⟩ q1
  cases e1
  obtain ⟨b', ws, e1, _, h3, rs2⟩ := r.lst (v := .ref b) ⟨b, rfl, e.pre m b hb⟩ q2
  cases e1
  have t1 : SqL K H1 a vs := .inl (.inl h2)
  have t2 : SqL K H1 b ws := .inl (.inl h3)
  refine ⟨fun x hx => ?_, fun hl => ⟨vs, ws, t1, t2, by simp at hl; rw [← rs1.length, ← rs2.length]; omega⟩⟩
  obtain ⟨d, d', hd, hd', rfl⟩ := zip_get hx
  obtain ⟨v, hv, rv⟩ := rs1.get hd
  obtain ⟨w, hw, rw'⟩ := rs2.get hd'
  refine ⟨⟨vs, ws, v, w, t1, t2, hv, hw⟩, fun v' H' y => ?_⟩
  obtain ⟨T, v1, w1, rfl, hT, rfl, y1, y2⟩ := y
  have z1 := y1 vs t1
  have z2 := y2 ws t2
  rw [hv] at z1; cases z1
  rw [hw] at z2; cases z2
  exact pair_new r hT rv rw'
end

/-! ### errors -/
/-- an error in the heap: its class, its own dict -/
def XRep (K : PySem.W.Frag) (CT : Str → Option Addr) (c : Str) (fs : List (Str × D)) (cls : Value) (d : Option Addr) (ι : List Addr) (H : Hp) : Prop :=
  ∃ C, CT c = some C ∧ cls = .ref C ∧ ((fs = [] ∧ d = none) ∨ ∃ dd ws, d = some dd ∧ H dd = some (.xd ws) ∧ Paired (fun (p : Str × D) (q : Str × V) => p.1 = q.1 ∧ Rep K ι H p.2 q.2) fs ws)
/-- a wish about errors: by the slots -/
abbrev WM := L2.St → EM
def noW : WM := fun _ _ _ _ _ _ => False
def toWX (K : PySem.W.Frag) (CT : Str → Option Addr) (W : WM) : WX := fun cls d σ H => ∃ c fs S ι, XRep K CT c fs cls d ι H ∧ HRep K ι S H ∧ W σ c fs S ι H
theorem takes_no {X : Cx} {CT : Str → Option Addr} : Takes X (toWX X.K CT noW) := fun u s' x => by
  obtain ⟨_, _, _, _, _, _, _, _, _, _, _, _, _, _, _, _, w⟩ := x
  obtain ⟨_, _, _, _, _, _, w⟩ := w
  exact w.elim

/-! ### a def's promise, where nothing is being shown -/
structure FnG (P : Program) (w : World) (K : PySem.W.Frag) (mg : Str → Option Value) (base : Heap) (k : Nat) (f : Addr) (fd : FuncData) (ps : List Str) (sp : Sp) : Prop where
  len : ∀ vs H Q E, sp vs H Q E → vs.length = ps.length
  run : ∀ (A : Around) (outer : List PySem.Env) (s : Shared) (H : Hp) (args : Args) (us : List Value) (vs : List V) (Q : VK) (E : XK), Room k A → A.guards = some [] → Env0 P w K mg base A outer s H → BindsTo s fd args (ps.zip us) → Vals vs us → sp vs H Q E →
    codeAny (model P w) A (.call (.ref f) args) (CR (L2.CX P w) outer P w H s Q E) s
/-- what a def of the small language promises -/
def spM (K : PySem.W.Frag) (CT : Str → Option Addr) (np : Nat) (g : List D → Sto → Res D) : Sp := fun vs H Q E =>
  vs.length = np ∧ ∃ ι S ds, HRep K ι S H ∧ Reps K ι H ds vs ∧ Pst K (g ds S) ι H (VS K Q) (fun c fs S' ι' H' => ∀ cls d, XRep K CT c fs cls d ι' H' → E cls d H')
/-- the defs that may be called, by names -/
def FnsOk (P : Program) (w : World) (K : PySem.W.Frag) (mg : Str → Option Value) (base : Heap) (CT : Str → Option Addr) (k : Nat) (fs : List Str) (call : Str → List D → Sto → Res D) : Prop :=
  ∀ f ∈ fs, ∃ (a : Addr) (fd : FuncData) (ps : List Str), (∀ xs S, xs.length ≠ ps.length → call f xs S = .bad) ∧ mg f = some (.ref a) ∧ PySem.W.keepIn K (.ref a) = true ∧ Binds K fd ps [] ∧ FnG P w K mg base k a fd ps (spM K CT ps.length (call f))
/-- names that stand for what is built in -/
def biNames : List Str := ["abs", "len", "int", "list", "tuple", "max", "min", "repr", "sorted", "all", "any", "range", "enumerate", "zip", "isinstance", "bool", "str", "dict", "set"]
def CstOk (K : PySem.W.Frag) (mg : Str → Option Value) (const : Str → Option D) : Prop := ∀ x d, const x = some d → ∃ u v, mg x = some u ∧ RelV v u ∧ ∀ ι H, Rep K ι H d v
/-- where one stands -/
structure Sc where
  sc : Scope
  N : List Str
  cl : List Str
  fs : List Str
structure Cn (X : Cx) (G : Gb) (CT : Str → Option Addr) (c : Sc) (W : WM) : Prop where
  sc : X.env.scope = c.sc
  nn : X.N = c.N
  nd : X.N.Nodup
  fn : ∀ x ∈ c.cl, X.fn x = true
  calm : X.calm = true
  gd : X.A.guards = some []
  fns : ∃ k, Room k X.A ∧ FnsOk X.prog X.w X.K X.mg X.base CT k c.fs G.call
  bi : ∀ x ∈ biNames, X.mg x = none
  cst : CstOk X.K X.mg G.const
  tk : Takes X (toWX X.K CT W)
theorem Cn.un {X : Cx} {G : Gb} {CT : Str → Option Addr} {c : Sc} {W : WM} (C : Cn X G CT c W) : X.A.units + 66 < cLine := by
  obtain ⟨k, r, _⟩ := C.fns
  have := r.un
  omega

/-! ### readings -/
def tM (K : PySem.W.Frag) (G : Gb) (W : WM) (m : ME) : TE := fun σ H Q => ∃ ι env S, HRep K ι S H ∧ EnvRep K ι H env σ ∧ Pst K (ev G m env S) ι H (VS K Q) (W σ)
def tMT (K : PySem.W.Frag) (G : Gb) (W : WM) (m : ME) : TT := fun σ H Q => ∃ ι env S, HRep K ι S H ∧ EnvRep K ι H env σ ∧ Pst K (evT G m env S) ι H (fun b _ _ H' => Q b H') (W σ)
def tMs (K : PySem.W.Frag) (G : Gb) (W : WM) (m : MA) : TA := fun σ H Q => ∃ ι env S, HRep K ι S H ∧ EnvRep K ι H env σ ∧ Pst K (evs G m env S) ι H (fun ds _ ι' H' => ∀ vs, Reps K ι' H' ds vs → Q vs H') (W σ)
def tMO (K : PySem.W.Frag) (G : Gb) (W : WM) (m : MO) : TO := fun σ H Q => ∃ ι env S, HRep K ι S H ∧ EnvRep K ι H env σ ∧ Pst K (evO G m env S) ι H (fun i _ _ H' => Q i H') (W σ)
def tMI (K : PySem.W.Frag) (G : Gb) (W : WM) (m : MI) : TI := fun σ H R => ∃ ι env S, HRep K ι S H ∧ EnvRep K ι H env σ ∧ Pst K (evI G m env S) ι H (fun src S' ι' H' => ∀ J, Drives K J (srcG src) ι' H' → R J H') (W σ)
theorem PE.mono {X : Cx} {e : Expr} {t t' : TE} (h : PE X e t) (k : ∀ σ H Q, t' σ H Q → t σ H Q) : PE X e t' := ⟨fun pins s σ H Q I q => h.run pins s σ H Q I (k σ H Q q)⟩
theorem PT.mono {X : Cx} {e : Expr} {t t' : TT} (h : PT X e t) (k : ∀ σ H Q, t' σ H Q → t σ H Q) : PT X e t' := ⟨fun pins s σ H Q I q => h.run pins s σ H Q I (k σ H Q q)⟩
theorem PA.mono {X : Cx} {e : List Expr} {t t' : TA} (h : PA X e t) (k : ∀ σ H Q, t' σ H Q → t σ H Q) : PA X e t' := ⟨fun pos pins s σ H Q I q => h.run pos pins s σ H Q I (k σ H Q q)⟩
theorem PG.mono {X : Cx} {e : Expr} {t t' : TG} (h : PG X e t) (k : ∀ v σ H Q, t' v σ H Q → t v σ H Q) : PG X e t' := ⟨fun pins s σ H v u Q I r q => h.run pins s σ H v u Q I r (k v σ H Q q)⟩
theorem PGs.mono {X : Cx} {e : List Expr} {t t' : TGs} (h : PGs X e t) (k : ∀ v σ H Q, t' v σ H Q → t v σ H Q) : PGs X e t' := ⟨fun pins s σ H v u Q I r q => h.run pins s σ H v u Q I r (k v σ H Q q)⟩
theorem PI.mono {X : Cx} {tg e : Expr} {t t' : TI} (h : PI X tg e t) (k : ∀ σ H Q, t' σ H Q → t σ H Q) : PI X tg e t' := ⟨fun pins s σ H Q I q => h.run pins s σ H Q I (k σ H Q q)⟩

section
variable {K : PySem.W.Frag} {G : Gb} {W : WM} {ι : List Addr} {env : Env} {S : Sto} {σ : L2.St} {H : Hp} {α : Type} {F : α → Sto → List Addr → Hp → Prop}
/-- one expression, then what follows -/
theorem seq1 {a : ME} {f : D → Sto → Res α} (hr : HRep K ι S H) (he : EnvRep K ι H env σ) (p : Pst K ((ev G a env S).bind f) ι H F (W σ)) :
    tM K G W a σ H fun x H1 => ∃ ι1 S1 dx, Ext ι H ι1 H1 ∧ HRep K ι1 S1 H1 ∧ EnvRep K ι1 H1 env σ ∧ Rep K ι1 H1 dx x ∧ Pst K (f dx S1) ι1 H1 F (W σ) :=
  ⟨ι, env, S, hr, he, p.bind.mono (fun dx S1 ι1 H1 e1 r1 p1 x qx => ⟨ι1, S1, dx, e1, r1, he.ext hr e1, qx, p1⟩) fun _ _ _ _ _ _ _ h => h⟩
/-- two in a row -/
theorem seq2 {a b : ME} {f : D → D → Sto → Res α} (hr : HRep K ι S H) (he : EnvRep K ι H env σ) (p : Pst K ((ev G a env S).bind fun x S => (ev G b env S).bind fun y S => f x y S) ι H F (W σ)) :
    tM K G W a σ H fun x H1 => tM K G W b σ H1 fun y H2 => ∃ ι2 S2 dx dy, Ext ι H ι2 H2 ∧ HRep K ι2 S2 H2 ∧ EnvRep K ι2 H2 env σ ∧ Rep K ι2 H2 dx x ∧ Rep K ι2 H2 dy y ∧ Pst K (f dx dy S2) ι2 H2 F (W σ) :=
  ⟨ι, env, S, hr, he, p.bind.mono (fun dx S1 ι1 H1 e1 r1 p1 x qx => ⟨ι1, env, S1, r1, he.ext hr e1,
    p1.bind.mono (fun dy S2 ι2 H2 e2 r2 p2 y qy => ⟨ι2, S2, dx, dy, e1.trans e2, r2, (he.ext hr e1).ext r1 e2, Rep.ext r1 e2 _ _ qx, qy, p2⟩) fun _ _ _ _ _ _ _ h => h⟩) fun _ _ _ _ _ _ _ h => h⟩
theorem seqA {a : MA} {f : List D → Sto → Res α} (hr : HRep K ι S H) (he : EnvRep K ι H env σ) (p : Pst K ((evs G a env S).bind f) ι H F (W σ)) :
    tMs K G W a σ H fun xs H1 => ∃ ι1 S1 ds, Ext ι H ι1 H1 ∧ HRep K ι1 S1 H1 ∧ EnvRep K ι1 H1 env σ ∧ Reps K ι1 H1 ds xs ∧ Pst K (f ds S1) ι1 H1 F (W σ) :=
  ⟨ι, env, S, hr, he, p.bind.mono (fun dx S1 ι1 H1 e1 r1 p1 x qx => ⟨ι1, S1, dx, e1, r1, he.ext hr e1, qx, p1⟩) fun _ _ _ _ _ _ _ h => h⟩
theorem seqT {a : ME} {f : Bool → Sto → Res α} (hr : HRep K ι S H) (he : EnvRep K ι H env σ) (p : Pst K ((evT G a env S).bind f) ι H F (W σ)) :
    tMT K G W a σ H fun b H1 => ∃ ι1 S1, Ext ι H ι1 H1 ∧ HRep K ι1 S1 H1 ∧ EnvRep K ι1 H1 env σ ∧ Pst K (f b S1) ι1 H1 F (W σ) :=
  ⟨ι, env, S, hr, he, p.bind.mono (fun dx S1 ι1 H1 e1 r1 p1 => ⟨ι1, S1, e1, r1, he.ext hr e1, p1⟩) fun _ _ _ _ _ _ _ h => h⟩
end

/-! ### a call of a def -/
section
variable {X : Cx} {G : Gb} {CT : Str → Option Addr} {c : Sc} {W : WM}
theorem run_def {pins : List (Addr × Obj)} {σ : L2.St} {H : Hp} {s : Shared} {Q : VK} {us : List Value} {vs : List V} {ds : List D} {ι : List Addr} {S : Sto} {f : Str} (C : Cn X G CT c W) {k : Nat} {a : Addr} {fd : FuncData} {ps : List Str} (hr : Room k X.A)
    (hb : Binds X.K fd ps []) (F : FnG X.prog X.w X.K X.mg X.base k a fd ps (spM X.K CT ps.length (G.call f))) (I : Inv X pins σ H s) (r : Vals vs us) (h : HRep X.K ι S H) (q : Reps X.K ι H ds vs) (hl : vs.length = ps.length)
    (p : Pst X.K (G.call f ds S) ι H (VS X.K Q) (W σ)) : wpAny (model X.prog X.w) X.A (PySem.call (.ref a) us) (EP X pins σ Q) X.xe s := by
  have hu : (us ++ []).length = ps.length := by rw [List.append_nil, ← r.length]; exact hl
  have hz := hb s us I.kIn hu
  rw [List.append_nil] at hz
  have sp : spM X.K CT ps.length (G.call f) vs H Q (fun cls d H' => toWX X.K CT W cls d σ H') :=
    ⟨hl, ι, S, ds, h, q, p.mono (fun _ _ _ _ _ _ h => h) fun c fs S' ι' H' e r' w cls d x => ⟨c, fs, S', ι', x, r', w⟩⟩
  refine wpAny_call (codeAny_mono (F.run X.A X.stack s H ⟨us, []⟩ us vs Q _ hr C.gd I.env0 hz r sp) fun r s' hq => ?_)
  cases r with
  | error e => exact C.tk e s' (XE.of_call I (fun cls d H' h => h) hq)
  | ok fl =>
    cases fl with
    | ret u => exact I.after hq
    | next => exact False.elim hq
    | brk => exact False.elim hq
    | cont => exact False.elim hq
end
end Mi
set_option Elab.async false
set_option linter.all false
set_option maxRecDepth 100000
set_option maxHeartbeats 8000000
/-! Mi4: a text of Python is this text of the small language (okE ..), and then it means what that means. -/
namespace Mi
open PySem L2

def vis (sc : Scope) (x : Str) : Bool := match sc.names.lookup x with
  | some .local => true
  | some .cell => true
  | some .free => true
  | _ => false
theorem vis_ok {sc : Scope} {x : Str} (h : vis sc x = true) : Vis sc x := by
  unfold vis at h
  unfold Vis
  split at h
  · rename_i e; exact .inl e
  · rename_i e; exact .inr (.inl e)
  · rename_i e; exact .inr (.inr e)
  · cases h
def glob (sc : Scope) (x : Str) : Bool := decide (sc.names.lookup x = some .globalImplicit) && !(x == ("__debug__" : Str)) && !(x == ("__name__" : Str))
def plainName (x : Str) : Bool := !(x == ("__debug__" : Str)) && !(x == ("__classdict__" : Str))
def okC : D → Const → Bool
  | .int i, .int j => decide (i = j)
  | .bl i, .bool j => decide (i = j)
  | .str i, .str j => decide (i = j)
  | .non, .none => true
  | _, _ => false
def noSet : Expr → Bool
  | .Set _ _ _ => false
  | _ => true
def noStar : Expr → Bool
  | .Starred _ _ => false
  | _ => true
def noSlice : Expr → Bool
  | .Slice _ _ _ _ => false
  | _ => true
def noCall0 : Expr → Bool
  | .Call (.Name _ _) [] [] _ => false
  | _ => true
def isTup : Expr → Bool
  | .Tuple _ _ _ => true
  | _ => false
/-- a test of any value -/
def plainTest : Expr → Bool
  | .UnaryOp _ _ _ => false
  | .BoolOp _ _ _ => false
  | .IfExp _ _ _ _ => false
  | .Compare _ _ _ _ => false
  | _ => true
def biName : Bi → Str
  | .abs => "abs" | .len => "len" | .int => "int" | .list => "list" | .tuple => "tuple" | .max => "max" | .min => "min" | .repr => "repr" | .sorted => "sorted" | .all => "all" | .any => "any"
def tyNames : List String := ["int", "bool", "str", "list", "tuple", "dict"]
def okCl (c : Sc) : Cl → Expr → Bool
  | .ty n, .Name x _ => decide (x = Str.ofString n) && tyNames.contains n && glob c.sc x
  | _, _ => false
def okCls (c : Sc) : List Cl → List Expr → Bool
  | [], [] => true
  | k :: ks, e :: es => okCl c k e && okCls c ks es
  | _, _ => false
def ownOf (N : List Str) (own : List Nat) : List (Str × Nat) := own.map fun i => (N.getD i Str.empty, i)
def inner (c : Sc) (scope : Scope) : Sc := ⟨relS scope c.sc, c.N, (scope.names.filter fun p => decide (scope.names.lookup p.1 = some .cell)).map (·.1), c.fs⟩

mutual
def okE (c : Sc) : ME → Expr → Bool
  | .var i, e => match e with
    | .Name x _ => decide (c.N[i]? = some x) && vis c.sc x && plainName x
    | _ => false
  | .cst d, e => match e with
    | .Constant k _ _ => okC d k
    | _ => false
  | .glb x, e => match e with
    | .Name y _ => decide (x = y) && glob c.sc x
    | _ => false
  | .bin op a b, e => match e with
    | .BinOp l o r _ => decide (o = op) && okE c a l && okE c b r
    | _ => false
  | .neg a, e => match e with
    | .UnaryOp o x _ => decide (o = .USub) && okE c a x
    | _ => false
  | .cmp op a b, e => match e with
    | .Compare l [o] [r] _ => decide (o = op) && okE c a l && okE c b r && noSet r
    | _ => false
  | .cmp2 op op' a b d, e => match e with
    | .Compare l [o, o'] [r, r'] _ => decide (o = op) && decide (o' = op') && okE c a l && okE c b r && okE c d r' && noSet r'
    | _ => false
  | .and a, e => match e with
    | .BoolOp o vs _ => decide (o = .And) && okEs c a vs
    | _ => false
  | .or a, e => match e with
    | .BoolOp o vs _ => decide (o = .Or) && okEs c a vs
    | _ => false
  | .not a, e => match e with
    | .UnaryOp o x _ => decide (o = .Not) && okE c a x
    | _ => false
  | .ife t a b, e => match e with
    | .IfExp t' l r _ => okE c t t' && okE c a l && okE c b r
    | _ => false
  | .tup es, e => match e with
    | .Tuple vs _ _ => okEs c es vs
    | _ => false
  | .lst es, e => match e with
    | .List vs _ => okEs c es vs
    | _ => false
  | .ix a i, e => match e with
    | .Subscript l r _ => okE c a l && okE c i r && noSlice r
    | _ => false
  | .slc a lo hi, e => match e with
    | .Subscript l (.Slice x y none _) _ => okE c a l && okO c lo x && okO c hi y
    | _ => false
  | .call f es, e => match e with
    | .Call (.Name x _) as [] _ => decide (x = f) && glob c.sc x && c.fs.contains f && okEs c es as
    | _ => false
  | .bi b es, e => match e with
    | .Call (.Name x _) (a :: as) [] _ => decide (x = biName b) && glob c.sc x && okEs c es (a :: as)
    | _ => false
  | .mt m o es, e => match e with
    | .Call (.Attribute ob x apos) (a :: as) [] cpos => decide (x = mtName m) && okE c o ob && okEs c es (a :: as) && (apos.endLine == cpos.line) && noCall0 ob && decide ((a :: as).length < 29)
    | _ => false
  | .lrg a b, e => match e with
    | .Call (.Name x _) [.Call (.Name y _) [u, v] [] _] [] _ => decide (x = "list") && decide (y = "range") && glob c.sc x && glob c.sc y && okE c a u && okE c b v && noStar u && noStar v
    | .Call (.Name x _) [.Call (.Name y _) [v] [] _] [] _ => decide (x = "list") && decide (y = "range") && glob c.sc x && glob c.sc y && isZero a && okE c b v && noStar v
    | _ => false
  | .trg a b, e => match e with
    | .Call (.Name x _) [.Call (.Name y _) [u, v] [] _] [] _ => decide (x = "tuple") && decide (y = "range") && glob c.sc x && glob c.sc y && okE c a u && okE c b v && noStar u && noStar v
    | .Call (.Name x _) [.Call (.Name y _) [v] [] _] [] _ => decide (x = "tuple") && decide (y = "range") && glob c.sc x && glob c.sc y && isZero a && okE c b v && noStar v
    | _ => false
  | .isi a cs, e => match e with
    | .Call (.Name x _) [u, .Tuple ts _ _] [] _ => decide (x = "isinstance") && glob c.sc x && okE c a u && okCls c cs ts && noStar u && decide (cs.length ≤ 1000)
    | .Call (.Name x _) [u, .Name y p] [] _ => decide (x = "isinstance") && glob c.sc x && okE c a u && okCls c cs [.Name y p] && noStar u
    | _ => false
  | .lc elt tg it ifs own, e => match e with
    | .ListComp el [⟨t, i, fs, z⟩] scope _ => decide (z = 0) && blkC c.N c.sc scope (ownOf c.N own) && okI c it t i && noSet i && okG (inner c scope) tg t && okTs (inner c scope) ifs fs && okE (inner c scope) elt el && ownG own tg
    | _ => false
def isZero : ME → Bool
  | .cst (.int i) => decide (i = 0)
  | _ => false
/-- the target's names are the block's own -/
def ownG (own : List Nat) : MG → Bool
  | .nm i => own.contains i
  | .tup gs => ownGs own gs
  | .sub _ _ => false
def ownGs (own : List Nat) : MGs → Bool
  | .nil => true
  | .cons g r => ownG own g && ownGs own r
def okO (c : Sc) : MO → Option Expr → Bool
  | .no, e => match e with
    | none => true
    | some _ => false
  | .yes m, e => match e with
    | some e => okE c m e
    | none => false
def okEs (c : Sc) : MA → List Expr → Bool
  | .nil, es => match es with
    | [] => true
    | _ => false
  | .cons m ms, es => match es with
    | e :: es => okE c m e && noStar e && okEs c ms es
    | _ => false
def okTs (c : Sc) : MA → List Expr → Bool
  | .nil, es => match es with
    | [] => true
    | _ => false
  | .cons m ms, es => match es with
    | [e] => okE c m e && isNilA ms
    | _ => false
def isNilA : MA → Bool
  | .nil => true
  | _ => false
def okI (c : Sc) : MI → Expr → Expr → Bool
  | .ex m, t, e => okE c m e
  | .rng a b, t, e => match e with
    | .Call (.Name y _) [u, v] [] _ => decide (y = "range") && glob c.sc y && okE c a u && okE c b v && noStar u && noStar v
    | .Call (.Name y _) [v] [] _ => decide (y = "range") && glob c.sc y && isZero a && okE c b v && noStar v
    | _ => false
  | .enm m, t, e => match e with
    | .Call (.Name y _) [v] [] _ => decide (y = "enumerate") && glob c.sc y && okE c m v && noStar v && isTup t
    | _ => false
  | .zip a b, t, e => match e with
    | .Call (.Name y _) [u, v] [] _ => decide (y = "zip") && glob c.sc y && okE c a u && okE c b v && noStar u && noStar v && isTup t
    | _ => false
def okG (c : Sc) : MG → Expr → Bool
  | .nm i, e => match e with
    | .Name x _ => decide (c.N[i]? = some x) && (decide (c.sc.names.lookup x = some .local) || (decide (c.sc.names.lookup x = some .cell) && c.cl.contains x))
    | _ => false
  | .tup gs, e => match e with
    | .Tuple es _ _ => okGs c gs es
    | _ => false
  | .sub o i, e => match e with
    | .Subscript a b _ => okE c o a && okE c i b && noSlice b
    | _ => false
def okGs (c : Sc) : MGs → List Expr → Bool
  | .nil, es => match es with
    | [] => true
    | _ => false
  | .cons g r, es => match es with
    | e :: es => okG c g e && noStar e && okGs c r es
    | _ => false
end
end Mi
set_option Elab.async false
set_option linter.all false
set_option maxRecDepth 100000
set_option maxHeartbeats 8000000
/-! Mi5: each construct by itself. -/
namespace Mi
open PySem L2
open PyProof.Rows (ite_tt ite_ff)

theorem bind_assoc {α β γ : Type} (r : Res α) (f : α → Sto → Res β) (g : β → Sto → Res γ) : (r.bind f).bind g = r.bind fun a S => (f a S).bind g := by cases r <;> rfl
theorem nomark_of {b : Expr} {op : CmpOp} (h : noSet b = true) : behindInMarks op b = false := by
  cases b <;> first | rfl | cases h
theorem star_of {e : Expr} {es : List Expr} {env : PySem.Env} (h : noStar e = true) : starEach (e :: es) env = (false, eval e env) :: starEach es env := by
  cases e <;> first | rfl | cases h
theorem base_of {o : Expr} {name : Str} {env : PySem.Env} {w : Sem Value} (h : noCall0 o = true) : attributeBase o name env w = w := by
  unfold attributeBase
  split
  · cases h
  · rfl
theorem plainIx_of {b : Expr} (h : noSlice b = true) : PlainIx b := by
  intro o i
  cases b <;> first | rfl | cases h
theorem glob_of {X : Cx} {G : Gb} {CT : Str → Option Addr} {c : Sc} {W : WM} (C : Cn X G CT c W) {x : Str} (h : glob c.sc x = true) : Gl X x ∧ (x == ("__debug__" : Str)) = false ∧ x ≠ "__name__" := by
  unfold glob at h
  simp only [Bool.and_eq_true, decide_eq_true_eq, Bool.not_eq_true', beq_eq_false_iff_ne] at h
  refine ⟨?_, beq_eq_false_iff_ne.mpr h.1.2, h.2⟩
  show X.env.scope.names.lookup x = _
  rw [C.sc]
  exact h.1.1

section
variable {X : Cx} {G : Gb} {CT : Str → Option Addr} {c : Sc} {W : WM} {a b e : Expr} {ma mb m : ME} {pos : Pos}

theorem s_var {i : Nat} {x : Str} (C : Cn X G CT c W) (h : okE c (.var i) (.Name x pos) = true) : PE X (.Name x pos) (tM X.K G W (.var i)) := by
  simp only [okE, Bool.and_eq_true, decide_eq_true_eq, plainName, Bool.not_eq_true'] at h
  refine PE.mono (pe_var (i := i) (by rw [C.nn]; exact h.1.1) (by rw [C.sc]; exact vis_ok h.1.2) h.2.1 h.2.2) fun σ H Q q => ?_
  obtain ⟨ι, env, S, hr, he, p⟩ := q
  obtain ⟨d, e1, p⟩ := Pst.opt1 p
  have e2 : env[i]? = some (some d) := by
    unfold lookE at e1
    cases q : env[i]? with
    | none => rw [q] at e1; cases e1
    | some o =>
      rw [q] at e1
      have : o = some d := e1
      rw [this]
  obtain ⟨v, h1, h2⟩ := he.2 i d e2
  exact ⟨v, h1, fin_same p hr h2⟩
theorem s_cst {d : D} {k : Const} {j : Nat} (h : okC d k = true) : PE X (.Constant k j pos) (tM X.K G W (.cst d)) := by
  unfold okC at h
  split at h
  · have z := of_decide_eq_true h
    subst z
    exact PE.mono pe_int fun σ H Q ⟨ι, env, S, hr, he, p⟩ => fin_same p hr rfl
  · have z := of_decide_eq_true h
    subst z
    exact PE.mono pe_bl fun σ H Q ⟨ι, env, S, hr, he, p⟩ => fin_same p hr rfl
  · have z := of_decide_eq_true h
    subst z
    exact PE.mono pe_str fun σ H Q ⟨ι, env, S, hr, he, p⟩ => fin_same p hr rfl
  · exact PE.mono pe_non fun σ H Q ⟨ι, env, S, hr, he, p⟩ => fin_same p hr rfl
  · cases h
theorem s_glb {x : Str} (C : Cn X G CT c W) (h : glob c.sc x = true) : PE X (.Name x pos) (tM X.K G W (.glb x)) := by
  obtain ⟨hg, hd, _⟩ := glob_of C h
  refine ⟨fun pins s σ H Q I ⟨ι, env, S, hr, he, p⟩ => ?_⟩
  obtain ⟨d, e1, p⟩ := Pst.opt1 p
  obtain ⟨u, v, h1, h2, h3⟩ := C.cst x d e1
  exact ld_glob I hg h1 ⟨v, H, I, h2, fin_same p hr (h3 ι H)⟩ hd
theorem s_bin {op : Operator} (ha : PE X a (tM X.K G W ma)) (hb : PE X b (tM X.K G W mb)) : PE X (.BinOp a op b pos) (tM X.K G W (.bin op ma mb)) := by
  refine ⟨fun pins s σ H Q I ⟨ι, env, S, hr, he, p⟩ => ?_⟩
  refine wpAny_BinOp (binT ha hb I (seq2 hr he p) fun v u s2 x y H2 I2 rx ry q => ?_)
  obtain ⟨ι2, S2, dx, dy, _, r2, e2, q1, q2, p2⟩ := q
  exact bin_ok op pins s2 σ H2 x y v u dx dy ι2 S2 Q _ I2 rx ry r2 q1 q2 p2
theorem s_neg (ha : PE X a (tM X.K G W ma)) : PE X (.UnaryOp .USub a pos) (tM X.K G W (.neg ma)) := by
  refine PE.mono (pe_un un_neg ha) fun σ H Q ⟨ι, env, S, hr, he, p⟩ => ?_
  obtain ⟨ι0, env0, S0, hr0, he0, p0⟩ := seq1 hr he p
  refine ⟨ι0, env0, S0, hr0, he0, p0.mono (fun d S' ι' H' e r f v q => ?_) fun _ _ _ _ _ _ _ h => h⟩
  obtain ⟨ι1, S1, dx, _, r1, e1, qx, p1⟩ := f v q
  obtain ⟨i, e2, p1⟩ := Pst.opt p1
  cases dx <;> first | (cases e2; done) | skip
  cases e2
  cases qx
  exact ⟨_, rfl, fin_same p1 r1 rfl⟩
theorem s_cmp {op : CmpOp} (C : Cn X G CT c W) (ha : PE X a (tM X.K G W ma)) (hb : PE X b (tM X.K G W mb)) (hn : noSet b = true) : PE X (.Compare a [op] [b] pos) (tM X.K G W (.cmp op ma mb)) := by
  refine ⟨fun pins s σ H Q I ⟨ι, env, S, hr, he, p⟩ => ?_⟩
  refine wpAny_Compare1 (binT ha hb I (seq2 hr he p) fun v u s2 x y H2 I2 rx ry q => ?_) (nomark_of hn)
  obtain ⟨ι2, S2, dx, dy, _, r2, e2, q1, q2, p2⟩ := q
  exact cmp_ok (by have := C.un; omega) op pins s2 σ H2 x y v u dx dy ι2 S2 Q _ I2 rx ry r2 q1 q2 p2
/-- a value's truth -/
theorem truth_wp {pins : List (Addr × Obj)} {s : Shared} {σ : L2.St} {H : Hp} {x : V} {v : Value} {d : D} {k : Bool} {ι : List Addr} {S : Sto} {Q : Bool → Hp → Prop} (I : Inv X pins σ H s) (rx : RelV x v) (hr : HRep X.K ι S H) (q : Rep X.K ι H d x) (e : truthD S d = some k) (h : Q k H) :
    wpAny (model X.prog X.w) X.A (truthy v) (TP X pins σ Q) X.xe s := tru_ok pins s σ H x v Q I rx ⟨k, tru_of hr q e, h⟩
/-- .. the same heap behind -/
theorem truth_same {pins : List (Addr × Obj)} {s : Shared} {σ : L2.St} {H : Hp} {x : V} {v : Value} {d : D} {k : Bool} {ι : List Addr} {S : Sto} {Q : Bool → Shared → Prop} (I : Inv X pins σ H s) (rx : RelV x v) (hr : HRep X.K ι S H) (q : Rep X.K ι H d x) (e : truthD S d = some k) (h : ∀ s', Inv X pins σ H s' → Q k s') :
    wpAny (model X.prog X.w) X.A (truthy v) Q X.xe s := by
  refine thn (tru_ok pins s σ H x v (fun c H2 => c = k ∧ H2 = H) I rx ⟨k, tru_of hr q e, rfl, rfl⟩) fun c s2 hc => ?_
  obtain ⟨H2, I2, rfl, rfl⟩ := hc
  exact h s2 I2
theorem s_cmpT {op : CmpOp} (C : Cn X G CT c W) (ha : PE X a (tM X.K G W ma)) (hb : PE X b (tM X.K G W mb)) (hn : noSet b = true) : PT X (.Compare a [op] [b] pos) (tMT X.K G W (.cmp op ma mb)) := by
  refine ⟨fun pins s σ H Q I ⟨ι, env, S, hr, he, p⟩ => ?_⟩
  have hu := C.un
  obtain ⟨ι0, env0, S0, hr0, he0, p0⟩ := seq2 (f := fun x y S => (opCmp op x y S).bind fun x S => opt (truthD S x) S) hr he (by
    simp only [evT, bind_assoc] at p
    exact p)
  refine wpAny_isTrue_Compare1 (thn (ha.run pins s σ H _ I ⟨ι0, env0, S0, hr0, he0, p0⟩) fun v s1 ⟨x, H1, I1, r1, q1⟩ => thn (hb.run pins s1 σ H1 _ I1 q1) fun u s2 ⟨y, H2, I2, r2, q2⟩ => ?_) (nomark_of hn)
  obtain ⟨ι2, S2, dx, dy, _, r2', e2, qx, qy, p2⟩ := q2
  refine thn (cmp_ok (by omega) op pins s2 σ H2 x y v u dx dy ι2 S2 (fun z H3 => ∃ ι3 S3 dz k, HRep X.K ι3 S3 H3 ∧ Rep X.K ι3 H3 dz z ∧ truthD S3 dz = some k ∧ Q k H3) (W σ) I2 r1 r2 r2' qx qy (p2.bind.mono (fun dz S3 ι3 H3 e3 r3 p3 z qz => ?_) fun _ _ _ _ _ _ _ h => h)) fun w s3 ⟨z, H3, I3, rz, ι3, S3, dz, k, r3, qz, ek, h⟩ => truth_wp I3 rz r3 qz ek h
  obtain ⟨k, ek, p3⟩ := Pst.opt1 p3
  exact ⟨ι3, S3, dz, k, r3, qz, ek, p3.ok r3⟩

/-- the link of a chain: its first answer -/
def link (op' : CmpOp) (y : D) (rest : Sto → Res D) (z : D) (S : Sto) : Res D := match z with
  | .bl true => (rest S).bind fun w S => opCmp op' y w S
  | .bl false => .ok (.bl false) S
  | _ => .bad
theorem s_cmp2 {op op' : CmpOp} {d : Expr} {md : ME} (C : Cn X G CT c W) (ha : PE X a (tM X.K G W ma)) (hb : PE X b (tM X.K G W mb)) (hd : PE X d (tM X.K G W md)) (hn : noSet d = true) : PE X (.Compare a [op, op'] [b, d] pos) (tM X.K G W (.cmp2 op op' ma mb md)) := by
  refine ⟨fun pins s σ H Q I ⟨ι, env, S, hr, he, p⟩ => ?_⟩
  have hu := C.un
  have p' : Pst X.K ((ev G ma env S).bind fun x S => (ev G mb env S).bind fun y S => (opCmp op x y S).bind fun z S => link op' y (fun S => ev G md env S) z S) ι H (VS X.K Q) (W σ) := by
    simp only [ev] at p
    exact p
  refine PyProof.Rows.Compare_chain (thn (ha.run pins s σ H _ I (seq2 hr he p')) fun v s1 ⟨x, H1, I1, r1, q1⟩ => PyProof.Rows.chain_link (thn (hb.run pins s1 σ H1 _ I1 q1) fun u s2 ⟨y, H2, I2, r2, q2⟩ => ?_)) (by show behindInMarks op' d = false; exact nomark_of hn)
  obtain ⟨ι2, S2, dx, dy, _, r2', e2, qx, qy, p2⟩ := q2
  refine thn (cmp_ok (by omega) op pins s2 σ H2 x y v u dx dy ι2 S2 (fun z H3 => ∃ ι3 S3 dz, HRep X.K ι3 S3 H3 ∧ EnvRep X.K ι3 H3 env σ ∧ Rep X.K ι3 H3 dz z ∧ Rep X.K ι3 H3 dy y ∧ Pst X.K (link op' dy (fun S => ev G md env S) dz S3) ι3 H3 (VS X.K Q) (W σ)) (W σ) I2 r1 r2 r2' qx qy
    (p2.bind.mono (fun dz S3 ι3 H3 e3 r3 p3 z qz => ⟨ι3, S3, dz, r3, e2.ext r2' e3, qz, Rep.ext r2' e3 _ _ qy, p3⟩) fun _ _ _ _ _ _ _ h => h)) fun w s3 hw => ?_
  obtain ⟨z, H3, I3, rz, ι3, S3, dz, r3, e3, qz, qy3, p3⟩ := hw
  cases dz with
  | bl k =>
    cases qz
    cases (show w = Value.bool k from rz)
    refine wpAny_truthy_bool ?_
    cases k with
    | false => exact ite_ff ⟨.bl false, H3, I3, rfl, fin_same p3 r3 rfl⟩
    | true =>
      refine ite_tt (PyProof.Rows.chain_last (thn (hd.run pins s3 σ H3 _ I3 (seq1 r3 e3 p3)) fun w' s4 ⟨z', H4, I4, r4, q4⟩ => ?_))
      obtain ⟨ι4, S4, dw, x4, r4', e4, qw, p4⟩ := q4
      exact cmp_ok (by omega) op' pins s4 σ H4 y z' u w' dy dw ι4 S4 Q (W σ) I4 r2 r4 r4' (Rep.ext r3 x4 _ _ qy3) qw p4
  | _ => exact p3.elim
theorem s_cmp2T {op op' : CmpOp} {d : Expr} {md : ME} (C : Cn X G CT c W) (ha : PE X a (tM X.K G W ma)) (hb : PE X b (tM X.K G W mb)) (hd : PE X d (tM X.K G W md)) (hn : noSet d = true) : PT X (.Compare a [op, op'] [b, d] pos) (tMT X.K G W (.cmp2 op op' ma mb md)) := by
  refine ⟨fun pins s σ H Q I ⟨ι, env, S, hr, he, p⟩ => ?_⟩
  have hu := C.un
  have p' : Pst X.K ((ev G ma env S).bind fun x S => (ev G mb env S).bind fun y S => (opCmp op x y S).bind fun z S => (link op' y (fun S => ev G md env S) z S).bind fun x S => opt (truthD S x) S) ι H (fun b _ _ H' => Q b H') (W σ) := by
    simp only [evT, bind_assoc] at p
    exact p
  refine PyProof.Rows.isTrue_chain (thn (ha.run pins s σ H _ I (seq2 hr he p')) fun v s1 ⟨x, H1, I1, r1, q1⟩ => PyProof.Rows.test_link (thn (hb.run pins s1 σ H1 _ I1 q1) fun u s2 ⟨y, H2, I2, r2, q2⟩ => ?_)) (by show behindInMarks op' d = false; exact nomark_of hn)
  obtain ⟨ι2, S2, dx, dy, _, r2', e2, qx, qy, p2⟩ := q2
  refine thn (cmp_ok (by omega) op pins s2 σ H2 x y v u dx dy ι2 S2 (fun z H3 => ∃ ι3 S3 dz, HRep X.K ι3 S3 H3 ∧ EnvRep X.K ι3 H3 env σ ∧ Rep X.K ι3 H3 dz z ∧ Rep X.K ι3 H3 dy y ∧ Pst X.K ((link op' dy (fun S => ev G md env S) dz S3).bind fun x S => opt (truthD S x) S) ι3 H3 (fun b _ _ H' => Q b H') (W σ)) (W σ) I2 r1 r2 r2' qx qy
    (p2.bind.mono (fun dz S3 ι3 H3 e3 r3 p3 z qz => ⟨ι3, S3, dz, r3, e2.ext r2' e3, qz, Rep.ext r2' e3 _ _ qy, p3⟩) fun _ _ _ _ _ _ _ h => h)) fun w s3 hw => ?_
  obtain ⟨z, H3, I3, rz, ι3, S3, dz, r3, e3, qz, qy3, p3⟩ := hw
  cases dz with
  | bl k =>
    cases qz
    cases (show w = Value.bool k from rz)
    refine wpAny_truthy_bool ?_
    cases k with
    | false => exact ite_ff ⟨H3, I3, Pst.ok p3 r3⟩
    | true =>
      have p3' : Pst X.K ((ev G md env S3).bind fun w S => (opCmp op' dy w S).bind fun x S => opt (truthD S x) S) ι3 H3 (fun b _ _ H' => Q b H') (W σ) := by
        simp only [link, bind_assoc] at p3
        exact p3
      refine ite_tt (PyProof.Rows.test_last (thn (hd.run pins s3 σ H3 _ I3 (seq1 r3 e3 p3')) fun w' s4 ⟨z', H4, I4, r4, q4⟩ => ?_))
      obtain ⟨ι4, S4, dw, x4, r4', e4, qw, p4⟩ := q4
      refine thn (cmp_ok (by omega) op' pins s4 σ H4 y z' u w' dy dw ι4 S4 (fun z H5 => ∃ ι5 S5 dz k, HRep X.K ι5 S5 H5 ∧ Rep X.K ι5 H5 dz z ∧ truthD S5 dz = some k ∧ Q k H5) (W σ) I4 r2 r4 r4' (Rep.ext r3 x4 _ _ qy3) qw (p4.bind.mono (fun dz S5 ι5 H5 e5 r5 p5 z qz => ?_) fun _ _ _ _ _ _ _ h => h))
        fun w s5 ⟨z, H5, I5, rz, ι5, S5, dz, k, r5, qz, ek, h⟩ => truth_wp I5 rz r5 qz ek h
      obtain ⟨k, ek, p5⟩ := Pst.opt1 p5
      exact ⟨ι5, S5, dz, k, r5, qz, ek, p5.ok r5⟩
  | _ => exact p3.elim

/-! ### and, or, not, if -/
def tMAnd (K : PySem.W.Frag) (G : Gb) (W : WM) (m : MA) : TE := fun σ H Q => ∃ ι env S, HRep K ι S H ∧ EnvRep K ι H env σ ∧ Pst K (evAnd G m env S) ι H (VS K Q) (W σ)
def tMOr (K : PySem.W.Frag) (G : Gb) (W : WM) (m : MA) : TE := fun σ H Q => ∃ ι env S, HRep K ι S H ∧ EnvRep K ι H env σ ∧ Pst K (evOr G m env S) ι H (VS K Q) (W σ)
def tTAnd (K : PySem.W.Frag) (G : Gb) (W : WM) (m : MA) : TT := fun σ H Q => ∃ ι env S, HRep K ι S H ∧ EnvRep K ι H env σ ∧ Pst K (tAnd G m env S) ι H (fun b _ _ H' => Q b H') (W σ)
def tTOr (K : PySem.W.Frag) (G : Gb) (W : WM) (m : MA) : TT := fun σ H Q => ∃ ι env S, HRep K ι S H ∧ EnvRep K ι H env σ ∧ Pst K (tOr G m env S) ι H (fun b _ _ H' => Q b H') (W σ)
variable {rest : List Expr} {mr : MA}
theorem s_and1 (ha : PE X a (tM X.K G W ma)) : PE X (.BoolOp .And [a] pos) (tMAnd X.K G W (.cons ma .nil)) := pe_one (PE.mono ha fun σ H Q q => q)
theorem s_or1 (ha : PE X a (tM X.K G W ma)) : PE X (.BoolOp .Or [a] pos) (tMOr X.K G W (.cons ma .nil)) := pe_one (PE.mono ha fun σ H Q q => q)
theorem s_and2 (ha : PE X a (tM X.K G W ma)) (hb : PE X (.BoolOp .And (b :: rest) pos) (tMAnd X.K G W (.cons mb mr))) : PE X (.BoolOp .And (a :: b :: rest) pos) (tMAnd X.K G W (.cons ma (.cons mb mr))) := by
  refine ⟨fun pins s σ H Q I ⟨ι, env, S, hr, he, p⟩ => ?_⟩
  refine PyProof.Rows.BoolOp_and (thn (ha.run pins s σ H _ I (seq1 hr he p)) fun v s1 ⟨x, H1, I1, r1, q1⟩ => ?_)
  obtain ⟨ι1, S1, dx, _, hr1, he1, qx, p1⟩ := q1
  obtain ⟨k, ek, p1⟩ := Pst.opt p1
  refine truth_same I1 r1 hr1 qx ek fun s2 I2 => ?_
  cases k with
  | true => exact hb.run pins s2 σ H1 Q I2 ⟨ι1, env, S1, hr1, he1, p1⟩
  | false => exact ⟨x, H1, I2, r1, fin_same p1 hr1 qx⟩
theorem s_or2 (ha : PE X a (tM X.K G W ma)) (hb : PE X (.BoolOp .Or (b :: rest) pos) (tMOr X.K G W (.cons mb mr))) : PE X (.BoolOp .Or (a :: b :: rest) pos) (tMOr X.K G W (.cons ma (.cons mb mr))) := by
  refine ⟨fun pins s σ H Q I ⟨ι, env, S, hr, he, p⟩ => ?_⟩
  refine PyProof.Rows.BoolOp_or (thn (ha.run pins s σ H _ I (seq1 hr he p)) fun v s1 ⟨x, H1, I1, r1, q1⟩ => ?_)
  obtain ⟨ι1, S1, dx, _, hr1, he1, qx, p1⟩ := q1
  obtain ⟨k, ek, p1⟩ := Pst.opt p1
  refine truth_same I1 r1 hr1 qx ek fun s2 I2 => ?_
  cases k with
  | false => exact hb.run pins s2 σ H1 Q I2 ⟨ι1, env, S1, hr1, he1, p1⟩
  | true => exact ⟨x, H1, I2, r1, fin_same p1 hr1 qx⟩
theorem s_andT1 (ha : PT X a (tMT X.K G W ma)) : PW X (.BoolOp .And [a] pos) (tTAnd X.K G W (.cons ma .nil)) :=
  ⟨fun wh pins s σ H Q I q => (pw_and1 ha).run wh pins s σ H Q I q⟩
theorem s_orT1 (ha : PT X a (tMT X.K G W ma)) : PW X (.BoolOp .Or [a] pos) (tTOr X.K G W (.cons ma .nil)) :=
  ⟨fun wh pins s σ H Q I q => (pw_or1 ha).run wh pins s σ H Q I q⟩
theorem s_andT2 (ha : PT X a (tMT X.K G W ma)) (hb : PW X (.BoolOp .And (b :: rest) pos) (tTAnd X.K G W (.cons mb mr))) : PW X (.BoolOp .And (a :: b :: rest) pos) (tTAnd X.K G W (.cons ma (.cons mb mr))) := by
  refine ⟨fun wh pins s σ H Q I ⟨ι, env, S, hr, he, p⟩ => ?_⟩
  refine (pw_and ha hb).run wh pins s σ H Q I ?_
  obtain ⟨ι0, env0, S0, hr0, he0, p0⟩ := seqT hr he p
  refine ⟨ι0, env0, S0, hr0, he0, p0.mono (fun t S1 ι1 H1 e1 r1 ⟨ι2, S2, _, r2, e2, p2⟩ => ?_) fun _ _ _ _ _ _ _ h => h⟩
  cases t with
  | true => exact ite_tt ⟨ι2, env, S2, r2, e2, p2⟩
  | false => exact ite_ff (Pst.ok p2 r2)
theorem s_orT2 (ha : PT X a (tMT X.K G W ma)) (hb : PW X (.BoolOp .Or (b :: rest) pos) (tTOr X.K G W (.cons mb mr))) : PW X (.BoolOp .Or (a :: b :: rest) pos) (tTOr X.K G W (.cons ma (.cons mb mr))) := by
  refine ⟨fun wh pins s σ H Q I ⟨ι, env, S, hr, he, p⟩ => ?_⟩
  refine (pw_or ha hb).run wh pins s σ H Q I ?_
  obtain ⟨ι0, env0, S0, hr0, he0, p0⟩ := seqT hr he p
  refine ⟨ι0, env0, S0, hr0, he0, p0.mono (fun t S1 ι1 H1 e1 r1 ⟨ι2, S2, _, r2, e2, p2⟩ => ?_) fun _ _ _ _ _ _ _ h => h⟩
  cases t with
  | false => exact ite_ff ⟨ι2, env, S2, r2, e2, p2⟩
  | true => exact ite_tt (Pst.ok p2 r2)
theorem s_notT (ha : PT X a (tMT X.K G W ma)) : PT X (.UnaryOp .Not a pos) (tMT X.K G W (.not ma)) := by
  refine PT.mono (pt_not ha) fun σ H Q ⟨ι, env, S, hr, he, p⟩ => ?_
  obtain ⟨ι0, env0, S0, hr0, he0, p0⟩ := seqT hr he (by simp only [evT] at p; exact p)
  exact ⟨ι0, env0, S0, hr0, he0, p0.mono (fun t S1 ι1 H1 e1 r1 ⟨ι2, S2, _, r2, e2, p2⟩ => Pst.ok p2 r2) fun _ _ _ _ _ _ _ h => h⟩
theorem s_not (ha : PE X a (tM X.K G W ma)) : PE X (.UnaryOp .Not a pos) (tM X.K G W (.not ma)) := by
  refine ⟨fun pins s σ H Q I ⟨ι, env, S, hr, he, p⟩ => ?_⟩
  simp only [ev] at p
  refine PyProof.Rows.UnaryOp_ (thn (ha.run pins s σ H _ I (seq1 hr he p)) fun v s1 ⟨x, H1, I1, r1, q1⟩ => ?_)
  obtain ⟨ι1, S1, dx, _, hr1, he1, qx, p1⟩ := q1
  obtain ⟨k, ek, p1⟩ := Pst.opt p1
  exact PyProof.Rows.not_of (truth_same I1 r1 hr1 qx ek fun s2 I2 => ⟨.bl (!k), H1, I2, rfl, fin_same p1 hr1 rfl⟩)
theorem s_ife {d : Expr} {md : ME} (hd : PT X d (tMT X.K G W md)) (ha : PE X a (tM X.K G W ma)) (hb : PE X b (tM X.K G W mb)) : PE X (.IfExp d a b pos) (tM X.K G W (.ife md ma mb)) := by
  refine PE.mono (pe_ifExp hd ha hb) fun σ H Q ⟨ι, env, S, hr, he, p⟩ => ?_
  obtain ⟨ι0, env0, S0, hr0, he0, p0⟩ := seqT hr he (by simp only [ev] at p; exact p)
  refine ⟨ι0, env0, S0, hr0, he0, p0.mono (fun t S1 ι1 H1 e1 r1 ⟨ι2, S2, _, r2, e2, p2⟩ => ?_) fun _ _ _ _ _ _ _ h => h⟩
  cases t with
  | true => exact ite_tt ⟨ι2, env, S2, r2, e2, p2⟩
  | false => exact ite_ff ⟨ι2, env, S2, r2, e2, p2⟩
/-- a plain value as a test -/
theorem s_test {m : ME} (ha : PE X a (tM X.K G W m)) (hp : plainTest a = true) (hm : ∀ env S, evT G m env S = (ev G m env S).bind fun x S => opt (truthD S x) S) : PT X a (tMT X.K G W m) := by
  refine ⟨fun pins s σ H Q I ⟨ι, env, S, hr, he, p⟩ => ?_⟩
  rw [hm] at p
  refine PyProof.Rows.isTrue_plain (thn (ha.run pins s σ H _ I (seq1 hr he p)) fun v s1 ⟨x, H1, I1, r1, q1⟩ => ?_) (by cases a <;> first | rfl | cases hp)
  obtain ⟨ι1, S1, dx, _, hr1, he1, qx, p1⟩ := q1
  obtain ⟨k, ek, p1⟩ := Pst.opt1 p1
  exact truth_wp I1 r1 hr1 qx ek (Pst.ok p1 hr1)

/-! ### displays, subscripts -/
theorem s_nil : PA X [] (tMs X.K G W .nil) := PA.mono pa_nil fun σ H Q ⟨ι, env, S, hr, he, p⟩ => p ι H (Ext.refl ι H) hr [] rfl
theorem s_cons {es : List Expr} {ms : MA} (ha : PE X a (tM X.K G W ma)) (hb : PA X es (tMs X.K G W ms)) (hn : noStar a = true) : PA X (a :: es) (tMs X.K G W (.cons ma ms)) := by
  refine PA.mono (pa_cons ha hb (star_of hn)) fun σ H Q ⟨ι, env, S, hr, he, p⟩ => ?_
  simp only [evs] at p
  obtain ⟨ι0, env0, S0, hr0, he0, p0⟩ := seq1 hr he p
  refine ⟨ι0, env0, S0, hr0, he0, p0.mono (fun t S1 ι1 H1 e1 r1 f x qx => ?_) fun _ _ _ _ _ _ _ h => h⟩
  obtain ⟨ι2, S2, dx, _, r2, e2, qx, p2⟩ := f x qx
  obtain ⟨ι3, env3, S3, hr3, he3, p3⟩ := seqA r2 e2 p2
  refine ⟨ι3, env3, S3, hr3, he3, p3.mono (fun ds S4 ι4 H4 e4 r4 f vs qs => ?_) fun _ _ _ _ _ _ _ h => h⟩
  obtain ⟨ι5, S5, ds, x5, r5, e5, qs, p5⟩ := f vs qs
  exact Pst.ok p5 r5 _ (Reps.cons (Rep.ext r2 x5 _ _ qx) qs)
theorem s_tup {es : List Expr} {ms : MA} {k : Nat} (ha : PA X es (tMs X.K G W ms)) : PE X (.Tuple es k pos) (tM X.K G W (.tup ms)) := by
  refine PE.mono (pe_tup ha) fun σ H Q ⟨ι, env, S, hr, he, p⟩ => ?_
  simp only [ev] at p
  obtain ⟨ι3, env3, S3, hr3, he3, p3⟩ := seqA hr he p
  refine ⟨ι3, env3, S3, hr3, he3, p3.mono (fun ds S4 ι4 H4 e4 r4 f vs qs => ?_) fun _ _ _ _ _ _ _ h => h⟩
  obtain ⟨ι5, S5, ds, x5, r5, e5, qs, p5⟩ := f vs qs
  obtain ⟨hz, p5⟩ := Pst.grd p5
  exact ⟨by rw [← qs.length]; exact hz, fun q hq => fin_tup p5 r5 qs hq⟩
theorem s_lst {es : List Expr} {ms : MA} (ha : PA X es (tMs X.K G W ms)) : PE X (.List es pos) (tM X.K G W (.lst ms)) := by
  refine PE.mono (pe_lst ha) fun σ H Q ⟨ι, env, S, hr, he, p⟩ => ?_
  simp only [ev] at p
  obtain ⟨ι3, env3, S3, hr3, he3, p3⟩ := seqA hr he p
  refine ⟨ι3, env3, S3, hr3, he3, p3.mono (fun ds S4 ι4 H4 e4 r4 f vs qs => ?_) fun _ _ _ _ _ _ _ h => h⟩
  obtain ⟨ι5, S5, ds, x5, r5, e5, qs, p5⟩ := f vs qs
  obtain ⟨hz, p5⟩ := Pst.grd p5
  exact ⟨by rw [← qs.length]; exact hz, fun q hq => fin_lst p5 r5 qs hq⟩
theorem s_ix (ha : PE X a (tM X.K G W ma)) (hb : PE X b (tM X.K G W mb)) (hn : noSlice b = true) : PE X (.Subscript a b pos) (tM X.K G W (.ix ma mb)) := by
  refine ⟨fun pins s σ H Q I ⟨ι, env, S, hr, he, p⟩ => ?_⟩
  simp only [ev] at p
  refine PyProof.Rows.Subscript_ (binT ha hb I (seq2 hr he p) fun v u s2 x y H2 I2 rx ry q => ?_)
  obtain ⟨ι2, S2, dx, dy, _, r2, e2, q1, q2, p2⟩ := q
  obtain ⟨d, ed, p2⟩ := Pst.opt1 p2
  exact ix_seq a b pins s2 σ H2 x y v u Q I2 rx ry (ixD_ok r2 q1 q2 ed p2) (plainIx_of hn v u)
theorem s_no : PO X none (tMO X.K G W .no) := ⟨fun pins s σ H Q I ⟨ι, env, S, hr, he, p⟩ => po_none.run pins s σ H Q I (Pst.ok p hr)⟩
theorem s_yes (ha : PE X a (tM X.K G W ma)) : PO X (some a) (tMO X.K G W (.yes ma)) := by
  refine ⟨fun pins s σ H Q I ⟨ι, env, S, hr, he, p⟩ => (po_some ha).run pins s σ H Q I ?_⟩
  simp only [evO] at p
  obtain ⟨ι0, env0, S0, hr0, he0, p0⟩ := seq1 hr he p
  refine ⟨ι0, env0, S0, hr0, he0, p0.mono (fun t S1 ι1 H1 e1 r1 f x qx => ?_) fun _ _ _ _ _ _ _ h => h⟩
  obtain ⟨ι2, S2, dx, _, r2, e2, qx, p2⟩ := f x qx
  obtain ⟨i, ei, p2⟩ := Pst.opt p2
  cases dx <;> first | (cases ei; done) | skip
  cases ei
  cases qx
  exact ⟨_, rfl, Pst.ok p2 r2⟩
theorem s_slc {lo hi : Option Expr} {ml mh : MO} {p2 : Pos} (ha : PE X a (tM X.K G W ma)) (hl : PO X lo (tMO X.K G W ml)) (hh : PO X hi (tMO X.K G W mh)) : PE X (.Subscript a (.Slice lo hi none p2) pos) (tM X.K G W (.slc ma ml mh)) := by
  refine PE.mono (pe_slice slM_ok ha hl hh) fun σ H Q ⟨ι, env, S, hr, he, p⟩ => ?_
  simp only [ev] at p
  obtain ⟨ι0, env0, S0, hr0, he0, p0⟩ := seq1 hr he p
  refine ⟨ι0, env0, S0, hr0, he0, p0.mono (fun t S1 ι1 H1 e1 r1 f x qx => ?_) fun _ _ _ _ _ _ _ h => h⟩
  obtain ⟨ι2, S2, dx, _, r2, e2, qx, p2⟩ := f x qx
  refine ⟨ι2, env, S2, r2, e2, p2.bind.mono (fun l S3 ι3 H3 e3 r3 p3 => ?_) fun _ _ _ _ _ _ _ h => h⟩
  refine ⟨ι3, env, S3, r3, e2.ext r2 e3, p3.bind.mono (fun h S4 ι4 H4 e4 r4 p4 => ?_) fun _ _ _ _ _ _ _ h => h⟩
  exact sliceD_ok r4 (Rep.ext r3 e4 _ _ (Rep.ext r2 e3 _ _ qx)) p4
end
end Mi
set_option Elab.async false
set_option linter.all false
set_option maxRecDepth 100000
set_option maxHeartbeats 400000
/-! Mi6: calls, methods, isinstance, what is walked, targets, comprehensions. -/
namespace Mi
open PySem L2
open PyProof.Rows (ite_tt ite_ff)

/-- the slots of a target alone are changed -/
def Onl (g : MG) (σ σ' : L2.St) : Prop := ∀ vs : List Nat, ownG vs g = true → L2.wipe σ' vs = L2.wipe σ vs
def Onls (g : MGs) (σ σ' : L2.St) : Prop := ∀ vs : List Nat, ownGs vs g = true → L2.wipe σ' vs = L2.wipe σ vs
def tMG (K : PySem.W.Frag) (G : Gb) (g : MG) : TG := fun v σ H Q => ∃ ι env S d, HRep K ι S H ∧ EnvRep K ι H env σ ∧ Rep K ι H d v ∧ Pst K (asgG G g d env S) ι H (fun env' _ ι' H' => ∀ σ', EnvRep K ι' H' env' σ' → Onl g σ σ' → Q σ' H') (fun _ _ _ _ _ => False)
def tMGs (K : PySem.W.Frag) (G : Gb) (g : MGs) : TGs := fun vs σ H Q => ∃ ι env S ds, HRep K ι S H ∧ EnvRep K ι H env σ ∧ Reps K ι H ds vs ∧ Pst K (asgGs G g ds env S) ι H (fun env' _ ι' H' => ∀ σ', EnvRep K ι' H' env' σ' → Onls g σ σ' → Q σ' H') (fun _ _ _ _ _ => False)
/-- the block's own names are forgotten again -/
theorem wipe_set {σ : L2.St} {vs : List Nat} {i : Nat} (v : Option V) (h : i ∈ vs) : L2.wipe (σ.set i v) vs = L2.wipe σ vs := by
  induction vs with
  | nil => cases h
  | cons j vs ih =>
    unfold L2.wipe
    by_cases hj : i ∈ vs
    · rw [ih hj]
    · have e : i = j := by
        rcases List.mem_cons.mp h with z | z
        · exact z
        · exact absurd z hj
      subst e
      have out : ∀ (ws : List Nat) (τ : L2.St), i ∉ ws → L2.wipe (τ.set i v) ws = (L2.wipe τ ws).set i v := by
        intro ws
        induction ws with
        | nil => intro τ _; rfl
        | cons k ws ihw =>
          intro τ hk
          simp only [List.mem_cons, not_or] at hk
          unfold L2.wipe
          rw [ihw τ hk.2, List.set_comm _ _ hk.1]
      rw [out vs σ hj, List.set_set]
theorem wipe_sub {σ : L2.St} {ws : List Nat} : ∀ (vs : List Nat), (∀ i ∈ vs, i ∈ ws) → L2.wipe (L2.wipe σ vs) ws = L2.wipe σ ws
  | [], _ => rfl
  | v :: vs, h => by
    show L2.wipe ((L2.wipe σ vs).set v none) ws = _
    rw [wipe_set none (h v (by simp)), wipe_sub vs fun i hi => h i (List.mem_cons_of_mem _ hi)]
theorem wipe_wipe (σ : L2.St) (vs : List Nat) : L2.wipe (L2.wipe σ vs) vs = L2.wipe σ vs := wipe_sub vs fun _ h => h
/-- no star among them -/
def noStars : List Expr → Bool
  | [] => true
  | e :: es => noStar e && noStars es
theorem stars_any {env : PySem.Env} {pos : Pos} : ∀ {es : List Expr}, noStars es = true → (backTo pos (starEach es env)).any (·.1) = false
  | [], _ => rfl
  | e :: es, h => by
    simp only [noStars, Bool.and_eq_true] at h
    rw [star_of h.1]
    show (false || (backTo pos (starEach es env)).any (·.1)) = false
    rw [stars_any h.2]
    rfl
theorem stars_all {env : PySem.Env} {pos : Pos} : ∀ {es : List Expr}, noStars es = true → (backTo pos (starEach es env)).all (fun x => !x.1) = true
  | [], _ => rfl
  | e :: es, h => by
    simp only [noStars, Bool.and_eq_true] at h
    rw [star_of h.1]
    show (!false && (backTo pos (starEach es env)).all (fun x => !x.1)) = true
    rw [stars_all h.2]
    rfl
theorem okEs_stars {c : Sc} : ∀ {ms : MA} {es : List Expr}, okEs c ms es = true → noStars es = true
  | .nil, [], _ => rfl
  | .nil, _ :: _, h => by simp [okEs] at h
  | .cons _ _, [], h => by simp [okEs] at h
  | .cons m ms, e :: es, h => by
    simp only [okEs, Bool.and_eq_true] at h
    simp only [noStars, Bool.and_eq_true]
    exact ⟨h.1.2, okEs_stars h.2⟩

section
variable {X : Cx} {G : Gb} {CT : Str → Option Addr} {c : Sc} {W : WM} {a b e : Expr} {ma mb m : ME} {pos p : Pos}

theorem s_call0 {f : Str} (C : Cn X G CT c W) (hg : glob c.sc f = true) (hf : f ∈ c.fs) : PE X (.Call (.Name f p) [] [] pos) (tM X.K G W (.call f .nil)) := by
  obtain ⟨g1, g2, g3⟩ := glob_of C hg
  refine ⟨fun pins s σ H Q I ⟨ι, env, S, hr, he, q⟩ => ?_⟩
  simp only [ev, evs, Res.bind_ok] at q
  obtain ⟨k, room, F⟩ := C.fns
  obtain ⟨fa, fd, ps, h0, h1, h2, h3, h4⟩ := F f hf
  refine wpAny_Call_Name_kw (ld_glob I g1 h1 ?_ g2)
  refine PySem.W.callWith_K0 I.kIn h2 ?_
  by_cases hl : ([] : List D).length = ps.length
  · exact run_def (us := []) (vs := []) (ds := []) C room h3 h4 I .nil hr Reps.nil hl q
  · rw [h0 [] S hl] at q
    exact q.elim
theorem s_call {f : Str} {e0 : Expr} {es : List Expr} {ms : MA} (C : Cn X G CT c W) (hg : glob c.sc f = true) (hf : f ∈ c.fs) (hs : noStars (e0 :: es) = true) (ha : PA X (e0 :: es) (tMs X.K G W ms)) : PE X (.Call (.Name f p) (e0 :: es) [] pos) (tM X.K G W (.call f ms)) := by
  obtain ⟨g1, g2, g3⟩ := glob_of C hg
  refine ⟨fun pins s σ H Q I ⟨ι, env, S, hr, he, q⟩ => ?_⟩
  simp only [ev] at q
  obtain ⟨k, room, F⟩ := C.fns
  obtain ⟨fa, fd, ps, h0, h1, h2, h3, h4⟩ := F f hf
  refine wpAny_Call_Name_kw (ld_glob I g1 h1 ?_ g2)
  simp only [noStars, Bool.and_eq_true] at hs
  refine PySem.W.callWith_K (h₀ := X.base) I.ok.mod.kin h2 (thn (ha.run pos pins s σ H _ I (seqA hr he q)) fun us s1 ⟨vs, H1, I1, r1, q1⟩ => ⟨I1.kIn, ?_⟩) (star_of hs.1) (stars_any hs.2)
  obtain ⟨ι1, S1, ds, _, hr1, he1, qs, p1⟩ := q1
  by_cases hl : ds.length = ps.length
  · exact run_def C room h3 h4 I1 r1 hr1 qs (by rw [← qs.length]; exact hl) p1
  · rw [h0 ds S1 hl] at p1
    exact p1.elim
theorem boot_bi (b : Bi) : bootBuiltins (biName b) = some (biV b) := by
  cases b <;> (unfold biName biV; decide +kernel)
theorem bi_in (b : Bi) : biName b ∈ biNames := by
  cases b <;> (unfold biName biNames; decide +kernel)
theorem biV_cases (b : Bi) : (∃ id, biV b = .builtin id) ∨ ∃ T, biV b = .type T := by
  cases b <;> first | exact .inl ⟨_, rfl⟩ | exact .inr ⟨_, rfl⟩
theorem callWith_bi {M : Model} {A : Around} {E : Value → Shared → Prop} {s : Shared} {env : PySem.Env} {b : Bi} {e0 : Expr} {es : List Expr} {Q : Value → Shared → Prop} (hs : noStars (e0 :: es) = true)
    (h : wpAny M A (spliced (backTo pos (starEach (e0 :: es) env))) (fun vs s₁ => wpAny M A (PySem.call (biV b) vs) Q E s₁) E s) : wpAny M A (callWith pos (biV b) [] (backTo pos (starEach (e0 :: es) env)) []) Q E s := by
  simp only [noStars, Bool.and_eq_true] at hs
  rcases biV_cases b with ⟨id, z⟩ | ⟨T, z⟩
  · rw [z] at h ⊢
    exact PyProof.Rows.callWith_builtin1 h (star_of hs.1) (stars_any hs.2)
  · rw [z] at h ⊢
    exact PyProof.Rows.callWith_type1 h (star_of hs.1) (stars_any hs.2)
theorem s_bi {b : Bi} {e0 : Expr} {es : List Expr} {ms : MA} (C : Cn X G CT c W) (hg : glob c.sc (biName b) = true) (hs : noStars (e0 :: es) = true) (ha : PA X (e0 :: es) (tMs X.K G W ms)) : PE X (.Call (.Name (biName b) p) (e0 :: es) [] pos) (tM X.K G W (.bi b ms)) := by
  obtain ⟨g1, g2, g3⟩ := glob_of C hg
  refine ⟨fun pins s σ H Q I ⟨ι, env, S, hr, he, q⟩ => ?_⟩
  simp only [ev] at q
  refine wpAny_Call_Name_kw (ld_blt I g1 (C.bi _ (bi_in b)) (boot_bi b) ?_ g3 g2)
  refine callWith_bi hs (thn (ha.run pos pins s σ H _ I (seqA hr he q)) fun us s1 ⟨vs, H1, I1, r1, q1⟩ => ?_)
  obtain ⟨ι1, S1, ds, _, hr1, he1, qs, p1⟩ := q1
  exact bi_ok C.calm C.gd C.un b pins s1 σ H1 vs us ds ι1 S1 Q _ I1 r1 hr1 qs p1

/-! ### methods -/
theorem mt_plain (m : Mt) : PlainAttrs (mtT m) := by
  cases m <;> exact PySem.F.plainAttrs_list
theorem mt_slot (m : Mt) : Slot (mtT m) (mtName m) (mtId m) := by
  cases m
  · exact PySem.F.slot_list_append
  · exact PySem.F.slot_list_pop
  · exact PySem.F.slot_list_index
theorem mt_type (m : Mt) : typeOf (.builtin (mtId m)) = pure (.type "method_descriptor") := by
  cases m
  · exact PySem.F.type_list_append
  · exact PySem.F.type_list_pop
  · exact PySem.F.type_list_index
theorem mt_recv {m : Mt} {d : D} {S : Sto} {x : V} {ι : List Addr} {H : Hp} (hr : HRep X.K ι S H) (q : Rep X.K ι H d x) (h : recvOk m d S = true) : tyV X.K (mtT m) x H := by
  have gen : ∀ n, d = .loc n → (getLst S n).isSome = true → ∃ a vs, x = .ref a ∧ H a = some (.lst vs) := by
    intro n e h'
    subst e
    obtain ⟨xs, e⟩ := Option.isSome_iff_exists.mp h'
    obtain ⟨b, vs, rfl, _, h2, h3⟩ := hr.lst q e
    exact ⟨b, vs, rfl, h2⟩
  unfold recvOk at h
  split at h
  · obtain ⟨a, vs, rfl, h2⟩ := gen _ rfl h
    exact .inl ⟨rfl, vs, .inl (.inl h2)⟩
  · obtain ⟨a, vs, rfl, h2⟩ := gen _ rfl h
    exact .inl ⟨rfl, vs, .inl (.inl h2)⟩
  · obtain ⟨a, vs, rfl, h2⟩ := gen _ rfl h
    exact .inl ⟨rfl, vs, .inl (.inl h2)⟩
  · cases h
theorem s_mt {m : Mt} {o e0 : Expr} {es : List Expr} {mo : ME} {ms : MA} {apos cpos : Pos} (ho : PE X o (tM X.K G W mo)) (hs : noStars (e0 :: es) = true) (ha : PA X (e0 :: es) (tMs X.K G W ms)) (hl : (apos.endLine == cpos.line) = true) (hb : noCall0 o = true) (hf : (e0 :: es).length < 29) :
    PE X (.Call (.Attribute o (mtName m) apos) (e0 :: es) [] cpos) (tM X.K G W (.mt m mo ms)) := by
  have hs' : noStar e0 = true ∧ noStars es = true := by simpa only [noStars, Bool.and_eq_true] using hs
  refine ⟨fun pins s σ H Q I ⟨ι, env, S, hr, he, q⟩ => ?_⟩
  simp only [ev] at q
  refine wpAny_Call_method_late (base_of hb) ?_ hl rfl (thn (ho.run pins s σ H _ I (seq1 hr he q)) fun v s1 ⟨x, H1, I1, r1, q1⟩ => ?_)
  · rw [stars_all hs]
    have : ((e0 :: es).length + ([] : List Keyword).length + (if ([] : List Keyword).isEmpty then 0 else 1)) < 30 := by simp at hf ⊢; omega
    simp only [Bool.true_and]
    exact Bool.and_eq_true_iff.mpr ⟨rfl, decide_eq_true this⟩
  · obtain ⟨ι1, S1, d, _, hr1, he1, qd, p1⟩ := q1
    obtain ⟨hv, p1⟩ := Pst.grd p1
    obtain ⟨h1, h2⟩ := tyV_is I1 r1 (mt_recv hr1 qd hv)
    refine ⟨mtT m, mtId m, mt_plain m, mt_slot m, mt_type m, h1, h2, ?_⟩
    have hA := ha.run cpos pins s1 σ H1 _ I1 (seqA hr1 he1 p1)
    rw [star_of hs'.1] at hA ⊢
    refine Calls.callWith_builtin (by show (false || (backTo cpos (starEach es X.env)).any (·.1)) = false; rw [stars_any hs'.2]; rfl) (Calls.evalArgs_plain ?_)
    refine thn hA fun us s2 ⟨vs, H2, I2, r2, q2⟩ => ?_
    obtain ⟨ι2, S2, ds, x2, hr2, he2, qs, p2⟩ := q2
    exact mt_run m I2 r1 r2 hr2 (Rep.ext hr1 x2 _ _ qd) qs p2

/-! ### list(range(..)), tuple(range(..)) -/
theorem rg_reps {K : PySem.W.Frag} {ι : List Addr} {H : Hp} (i j : Int) : Reps K ι H ((List.range (j - i).toNat).map fun k => .int (i + (k : Nat))) (rgV i j) := by
  unfold rgV
  generalize List.range (j - i).toNat = l
  induction l with
  | nil => exact rfl
  | cons x l ih => exact ⟨_, _, rfl, rfl, ih⟩
/-- a range as an argument -/
def tRgM (K : PySem.W.Frag) (G : Gb) (W : WM) (a b : ME) : L2.St → Hp → (Int → Int → Hp → Prop) → Prop := fun σ H Q =>
  tM K G W a σ H fun x H1 => tM K G W b σ H1 fun y H2 => ∃ i j, x = .int i ∧ y = .int j ∧ Q i j H2
theorem s_rg2 {y : Str} {p' : Pos} (C : Cn X G CT c W) (hy : y = "range") (hg : glob c.sc y = true) (ha : PE X a (tM X.K G W ma)) (hb : PE X b (tM X.K G W mb)) (hna : noStar a = true) (hnb : noStar b = true) : PRg X (.Call (.Name y p) [a, b] [] p') (tRgM X.K G W ma mb) := by
  subst hy
  obtain ⟨g1, g2, g3⟩ := glob_of C hg
  exact prg_2 g1 (C.bi _ (by decide)) ha hb (star_of hna) (star_of hnb) (stars_any (by simp [noStars, hnb]))
theorem zero_of {m : ME} (h : isZero m = true) : m = .cst (.int 0) := by
  unfold isZero at h
  split at h
  · rw [of_decide_eq_true h]
  · cases h
theorem s_rg1 {y : Str} {p' : Pos} (C : Cn X G CT c W) (hy : y = "range") (hg : glob c.sc y = true) (hz : isZero ma = true) (hb : PE X b (tM X.K G W mb)) (hnb : noStar b = true) : PRg X (.Call (.Name y p) [b] [] p') (tRgM X.K G W ma mb) := by
  subst hy
  obtain ⟨g1, g2, g3⟩ := glob_of C hg
  rw [zero_of hz]
  intro pins s σ H Q I h
  refine prg_1 g1 (C.bi _ (by decide)) hb (star_of hnb) pins s σ H Q I ?_
  obtain ⟨ι, env, S, hr, he, q⟩ := h
  obtain ⟨ι1, env1, S1, hr1, he1, q1⟩ := fin_same q hr (v := .int 0) rfl
  refine ⟨ι1, env1, S1, hr1, he1, q1.mono (fun t S2 ι2 H2 e2 r2 f v qv => ?_) fun _ _ _ _ _ _ _ h => h⟩
  obtain ⟨i, j, e1, e3, q3⟩ := f v qv
  cases e1
  exact ⟨j, e3, q3⟩
/-- what comes of a range by its ends -/
theorem rg_seq {α : Type} {ι : List Addr} {env : Env} {S : Sto} {σ : L2.St} {H : Hp} {F : α → Sto → List Addr → Hp → Prop} {f : Int → Int → Sto → Res α} (hr : HRep X.K ι S H) (he : EnvRep X.K ι H env σ)
    (q : Pst X.K ((ev G ma env S).bind fun x S => (ev G mb env S).bind fun y S => match x, y with | .int i, .int j => f i j S | _, _ => .bad) ι H F (W σ)) :
    tRgM X.K G W ma mb σ H fun i j H2 => ∃ ι2 S2, HRep X.K ι2 S2 H2 ∧ EnvRep X.K ι2 H2 env σ ∧ Pst X.K (f i j S2) ι2 H2 F (W σ) := by
  obtain ⟨ι0, env0, S0, hr0, he0, p0⟩ := seq2 hr he q
  refine ⟨ι0, env0, S0, hr0, he0, p0.mono (fun t S1 ι1 H1 e1 r1 f1 x qx => ?_) fun _ _ _ _ _ _ _ h => h⟩
  obtain ⟨ι3, env3, S3, hr3, he3, p3⟩ := f1 x qx
  refine ⟨ι3, env3, S3, hr3, he3, p3.mono (fun t S4 ι4 H4 e4 r4 f4 y qy => ?_) fun _ _ _ _ _ _ _ h => h⟩
  obtain ⟨ι2, S2, dx, dy, _, r2, e2, q1, q2, p2⟩ := f4 y qy
  cases dx <;> first | exact p2.elim | skip
  cases dy <;> first | exact p2.elim | skip
  cases q1; cases q2
  exact ⟨_, _, rfl, rfl, ι2, S2, r2, e2, p2⟩
theorem s_lrg {x : Str} (C : Cn X G CT c W) (hx : x = "list") (hg : glob c.sc x = true) (h : PRg X e (tRgM X.K G W ma mb)) (hn : noStar e = true) : PE X (.Call (.Name x p) [e] [] pos) (tM X.K G W (.lrg ma mb)) := by
  subst hx
  obtain ⟨g1, g2, g3⟩ := glob_of C hg
  refine PE.mono (pe_listRg C.calm g1 (C.bi _ (by decide)) h (star_of hn)) fun σ H Q ⟨ι, env, S, hr, he, q⟩ => ?_
  simp only [ev] at q
  obtain ⟨ι0, env0, S0, hr0, he0, p0⟩ := rg_seq (f := fun i j S => grd (L2.RgOk i j) (alloc (.lst ((List.range (j - i).toNat).map fun k => .int (i + (k : Nat)))) S)) hr he q
  refine ⟨ι0, env0, S0, hr0, he0, p0.mono (fun t S1 ι1 H1 e1 r1 f1 x qx => ?_) fun _ _ _ _ _ _ _ h => h⟩
  obtain ⟨ι3, env3, S3, hr3, he3, p3⟩ := f1 x qx
  refine ⟨ι3, env3, S3, hr3, he3, p3.mono (fun t S4 ι4 H4 e4 r4 f4 y qy => ?_) fun _ _ _ _ _ _ _ h => h⟩
  obtain ⟨i, j, e5, e6, ι5, S5, r5, e7, p5⟩ := f4 y qy
  obtain ⟨ok, p5⟩ := Pst.grd p5
  exact ⟨i, j, e5, e6, ok, fun l hl => fin_lst p5 r5 (rg_reps i j) hl⟩
theorem s_trg {x : Str} (C : Cn X G CT c W) (hx : x = "tuple") (hg : glob c.sc x = true) (h : PRg X e (tRgM X.K G W ma mb)) (hn : noStar e = true) : PE X (.Call (.Name x p) [e] [] pos) (tM X.K G W (.trg ma mb)) := by
  subst hx
  obtain ⟨g1, g2, g3⟩ := glob_of C hg
  refine PE.mono (pe_tupRg C.calm g1 (C.bi _ (by decide)) h (star_of hn)) fun σ H Q ⟨ι, env, S, hr, he, q⟩ => ?_
  simp only [ev] at q
  obtain ⟨ι0, env0, S0, hr0, he0, p0⟩ := rg_seq (f := fun i j S => grd (L2.RgOk i j) (.ok (D.tup ((List.range (j - i).toNat).map fun k => .int (i + (k : Nat)))) S)) hr he q
  refine ⟨ι0, env0, S0, hr0, he0, p0.mono (fun t S1 ι1 H1 e1 r1 f1 x qx => ?_) fun _ _ _ _ _ _ _ h => h⟩
  obtain ⟨ι3, env3, S3, hr3, he3, p3⟩ := f1 x qx
  refine ⟨ι3, env3, S3, hr3, he3, p3.mono (fun t S4 ι4 H4 e4 r4 f4 y qy => ?_) fun _ _ _ _ _ _ _ h => h⟩
  obtain ⟨i, j, e5, e6, ι5, S5, r5, e7, p5⟩ := f4 y qy
  obtain ⟨ok, p5⟩ := Pst.grd p5
  exact ⟨i, j, e5, e6, ok, fun l hl => fin_tup p5 r5 (rg_reps i j) hl⟩

/-! ### isinstance -/
theorem tyD_ok {K : PySem.W.Frag} {ι : List Addr} {S : Sto} {H : Hp} {d : D} {x : V} {t : String} (hr : HRep K ι S H) (q : Rep K ι H d x) (e : tyD S d = some t) : TyX K H x (.type t) := by
  cases d with
  | non => cases q; cases e; exact .base .non
  | bl b => cases q; cases e; exact .base (.bl b)
  | int i => cases q; cases e; exact .base (.int i)
  | str y => cases q; cases e; exact .base (.str y)
  | tup ds =>
    cases e
    obtain ⟨a, vs, rfl, t, rs⟩ := q
    rcases t with t | ⟨rfl, (q | ⟨o, q⟩) | ⟨o, its, n, hk, hc, _⟩⟩
    · exact .base (.tup t)
    · cases q
    · cases q
    · exact .kTuple hk hc
  | fl ds =>
    cases e
    obtain ⟨a, vs, rfl, t, rs⟩ := q
    rcases t with ⟨o, t⟩ | ((q | ⟨o, q⟩) | ⟨o, its, n, hk, hc, _⟩)
    · exact .base (.frz t)
    · cases q
    · cases q
    · exact .kList hk hc
  | loc n =>
    simp only [tyD] at e
    split at e
    · rename_i xs e1
      cases e
      obtain ⟨a, rfl, _, vs, h1, _⟩ := hr.loc q e1
      exact .base (.lst h1)
    · rename_i xs e1
      cases e
      obtain ⟨a, rfl, _, vs, h1, _⟩ := hr.loc q e1
      exact .base (.dK h1)
    · rename_i xs e1
      cases e
      obtain ⟨a, rfl, _, vs, h1, _⟩ := hr.loc q e1
      exact .base (.dT h1)
    · cases e
def clV : Cl → V
  | .ty n => .ty n
  | .own _ => .non
def clU : Cl → Value
  | .ty n => .type n
  | .own _ => .none
theorem ty_boot {n : String} (h : tyNames.contains n = true) : bootBuiltins (Str.ofString n) = some (.type n) ∧ Str.ofString n ∈ biNames := by
  have h' : n ∈ tyNames := by simpa using h
  unfold tyNames at h'
  simp only [List.mem_cons, List.not_mem_nil, or_false] at h'
  rcases h' with rfl | rfl | rfl | rfl | rfl | rfl <;> exact ⟨by decide +kernel, by decide +kernel⟩
theorem s_cl {k : Cl} (C : Cn X G CT c W) (h : okCl c k e = true) : PE X e (tC (clV k)) ∧ ClsV (clV k) (clU k) := by
  unfold okCl at h
  split at h
  · simp only [Bool.and_eq_true, decide_eq_true_eq] at h
    obtain ⟨⟨rfl, h2⟩, h3⟩ := h
    obtain ⟨g1, g2, g3⟩ := glob_of C h3
    obtain ⟨b1, b2⟩ := ty_boot h2
    exact ⟨pe_bltn (v := .ty _) g1 (C.bi _ b2) b1 rfl g3 g2, .ty _⟩
  · cases h
theorem isAny_kit {K : PySem.W.Frag} {t : String} : ∀ {cs : List Cl} {b : Bool}, isAny t cs = some b → PySem.W.kitAny K (.type t) (cs.map clU) = some b
  | [], b, e => e
  | k :: cs, b, e => by
    simp only [isAny] at e
    cases q : isTy t k with
    | none => rw [q] at e; cases e
    | some r =>
      rw [q] at e
      simp only [Option.bind_some] at e
      cases k with
      | ty n =>
        refine kitAny_cons (kit_ty q) (fun z => ?_) (fun z => ?_)
        · subst z; exact isAny_kit e
        · subst z; cases e; rfl
      | own n => cases q
/-- what the classes' expressions read as -/
theorem s_cls (C : Cn X G CT c W) : ∀ {cs : List Cl} {es : List Expr}, okCls c cs es = true → PA X es (fun _ H Q => Q (cs.map clV) H) ∧ Paired ClsV (cs.map clV) (cs.map clU)
  | [], [], _ => ⟨PA.mono pa_nil fun σ H Q q => q, .nil⟩
  | [], _ :: _, h => by cases h
  | _ :: _, [], h => by cases h
  | k :: cs, e :: es, h => by
    simp only [okCls, Bool.and_eq_true] at h
    obtain ⟨h1, h2⟩ := s_cl (W := W) C h.1
    obtain ⟨h3, h4⟩ := s_cls C h.2
    have hn : noStar e = true := by
      unfold okCl at h
      cases e <;> first | rfl | (have := h.1; split at this <;> first | cases this | (rename_i q; cases q))
    exact ⟨PA.mono (pa_cons h1 h3 (star_of hn)) fun σ H Q q => q, .cons h2 h4⟩
theorem isi_one {t : String} {k : Cl} {b : Bool} (e : isAny t [k] = some b) : isTy t k = some b := by
  simp only [isAny] at e
  cases q : isTy t k with
  | none => rw [q] at e; cases e
  | some r =>
    rw [q] at e
    cases r <;> (cases e; rfl)
theorem ty_bind {S : Sto} {d : D} {cs : List Cl} {b : Bool} (e : ((tyD S d).bind fun t => isAny t cs) = some b) : ∃ t, tyD S d = some t ∧ isAny t cs = some b := by
  cases q : tyD S d with
  | none => rw [q] at e; cases e
  | some t => rw [q] at e; exact ⟨t, rfl, e⟩
theorem s_isi1 {x y : Str} {p2 : Pos} {k : Cl} (C : Cn X G CT c W) (hx : x = "isinstance") (hg : glob c.sc x = true) (ha : PE X a (tM X.K G W ma)) (hk : okCl c k (.Name y p2) = true) (hn : noStar a = true) :
    PE X (.Call (.Name x p) [a, .Name y p2] [] pos) (tM X.K G W (.isi ma [k])) := by
  subst hx
  obtain ⟨g1, g2, g3⟩ := glob_of C hg
  obtain ⟨h1, h2⟩ := s_cl (W := W) C hk
  refine PE.mono (pe_callB call_isi g1 (C.bi _ (by decide)) (by decide +kernel) (pa_cons ha (pa_cons h1 pa_nil) (star_of hn)) g3 g2 (star_of hn)) fun σ H Q ⟨ι, env, S, hr, he, q⟩ => ?_
  simp only [ev] at q
  obtain ⟨ι0, env0, S0, hr0, he0, p0⟩ := seq1 hr he q
  refine ⟨ι0, env0, S0, hr0, he0, p0.mono (fun t S1 ι1 H1 e1 r1 f1 x qx => ?_) fun _ _ _ _ _ _ _ h => h⟩
  obtain ⟨ι2, S2, d, _, r2, e2, qd, pp⟩ := f1 x qx
  obtain ⟨b, eb, pq⟩ := Pst.opt pp
  obtain ⟨t, et, eb⟩ := ty_bind eb
  have z := isi_one eb
  have fin := fin_same pq r2 (v := .bl b) rfl
  cases k with
  | ty n => exact ⟨x, .ty n, .type t, .type n, b, rfl, .ty n, tyD_ok r2 qd et, kit_ty z, fin⟩
  | own n => cases z
theorem s_isiT {x : Str} {ts : List Expr} {k : Nat} {p2 : Pos} {cs : List Cl} (C : Cn X G CT c W) (hx : x = "isinstance") (hg : glob c.sc x = true) (ha : PE X a (tM X.K G W ma)) (hk : okCls c cs ts = true) (hn : noStar a = true) (hl : cs.length ≤ 1000) :
    PE X (.Call (.Name x p) [a, .Tuple ts k p2] [] pos) (tM X.K G W (.isi ma cs)) := by
  subst hx
  obtain ⟨g1, g2, g3⟩ := glob_of C hg
  obtain ⟨h1, h2⟩ := s_cls (W := W) C hk
  refine PE.mono (pe_callB call_isiT g1 (C.bi _ (by decide)) (by decide +kernel) (pa_cons ha (pa_cons (pe_tup h1) pa_nil) (star_of hn)) g3 g2 (star_of hn)) fun σ H Q ⟨ι, env, S, hr, he, q⟩ => ?_
  simp only [ev] at q
  obtain ⟨ι0, env0, S0, hr0, he0, p0⟩ := seq1 hr he q
  refine ⟨ι0, env0, S0, hr0, he0, p0.mono (fun t S1 ι1 H1 e1 r1 f1 x qx => ?_) fun _ _ _ _ _ _ _ h => h⟩
  obtain ⟨ι2, S2, d, _, r2, e2, qd, pp⟩ := f1 x qx
  obtain ⟨b, eb, pp⟩ := Pst.opt pp
  obtain ⟨t, et, eb⟩ := ty_bind eb
  refine ⟨by rw [List.length_map]; exact Nat.le_trans hl (by decide), fun q hq => ⟨x, q, cs.map clV, .type t, cs.map clU, b, rfl, upd_same, h2, ?_, isAny_kit eb, ?_⟩⟩
  · exact tyD_ok (hrep_tup r2 hq) (Rep.ext r2 (ext_tup r2 hq) _ _ qd) et
  · exact pp ι2 _ (ext_tup r2 hq) (hrep_tup r2 hq) _ rfl

/-! ### what is walked -/
variable {tg : Expr} {pins : List (Addr × Obj)} {σ : L2.St} {H : Hp} {s : Shared} {R : It → Hp → Prop}
theorem it_tup {q : Addr} {xs : List V} {E : Value → Shared → Prop} (I : Inv X pins σ H s) (hq : SqT X.K H q xs) (r : R (Itt X.K q) H) : wpAny (model X.prog X.w) X.A (pyIter (.ref q)) (PIE X pins σ tg R) E s := by
  obtain ⟨its, rv, p1, hz⟩ := I.tuple hq
  refine wpAny_pyIter_tuple (show s.heap.IsTuple q its.toArray from p1) ?_
  refine ⟨s.heap.objs.size, [s.heap.objs.size], _, _, H, rfl, I.kept (t' := s.toks) fun b o e => Heap.get?_push_of_some _ e, turn_tuple q _, ⟨_, Heap.get?_push_size _ rfl, rfl, rfl⟩, fun b hb => ?_, r⟩
  rw [List.mem_singleton.mp hb]
  exact I.fpOk (Nat.le_refl _) (I.hok.fresh (Nat.le_refl _))
theorem it_lst {q : Addr} {xs : List V} {E : Value → Shared → Prop} (I : Inv X pins σ H s) (hq : SqL X.K H q xs) (r : R (Itl X.K q) H) : wpAny (model X.prog X.w) X.A (pyIter (.ref q)) (PIE X pins σ tg R) E s := by
  obtain ⟨its, rv, p1, hz⟩ := I.list hq
  refine wpAny_pyIter_list p1.isList ?_
  refine ⟨s.heap.objs.size, [s.heap.objs.size], _, _, H, rfl, I.kept (t' := s.toks) fun b o e => Heap.get?_push_of_some _ e, turn_list q _, ⟨_, Heap.get?_push_size _ rfl, rfl, rfl⟩, fun b hb => ?_, r⟩
  rw [List.mem_singleton.mp hb]
  exact I.fpOk (Nat.le_refl _) (I.hok.fresh (Nat.le_refl _))
theorem s_iex (ha : PE X a (tM X.K G W ma)) : PI X tg a (tMI X.K G W (.ex ma)) := by
  refine ⟨fun pins s σ H R I ⟨ι, env, S, hr, he, q⟩ => ?_⟩
  simp only [evI] at q
  refine thn (ha.run pins s σ H _ I (seq1 hr he q)) fun v s1 ⟨x, H1, I1, r1, q1⟩ => ?_
  obtain ⟨ι1, S1, d, _, hr1, he1, qd, p1⟩ := q1
  cases d with
  | tup ds =>
    obtain ⟨q, vs, rfl, t, rs⟩ := qd
    cases (show v = Value.ref q from r1)
    exact it_tup I1 t.sq (Pst.ok p1 hr1 _ (drives_tup hr1 t rs))
  | fl ds =>
    obtain ⟨q, vs, rfl, t, rs⟩ := qd
    cases (show v = Value.ref q from r1)
    exact it_lst I1 t.sq (Pst.ok p1 hr1 _ (drives_fl hr1 t rs))
  | loc n =>
    simp only at p1
    split at p1
    · rename_i xs e1
      obtain ⟨q, vs, rfl, hq, h2, rs⟩ := hr1.lst qd e1
      cases (show v = Value.ref q from r1)
      exact it_lst I1 (.inl (.inl h2)) (Pst.ok p1 hr1 _ (drives_lst hq))
    · exact p1.elim
  | _ => exact p1.elim
theorem s_irng2 {y : Str} (C : Cn X G CT c W) (hy : y = "range") (hg : glob c.sc y = true) (ha : PE X a (tM X.K G W ma)) (hb : PE X b (tM X.K G W mb)) (hna : noStar a = true) (hnb : noStar b = true) : PI X tg (.Call (.Name y p) [a, b] [] pos) (tMI X.K G W (.rng ma mb)) := by
  subst hy
  obtain ⟨g1, g2, g3⟩ := glob_of C hg
  refine PI.mono (pi_range2 g1 (C.bi _ (by decide)) (pa_cons ha (pa_cons hb pa_nil (star_of hnb)) (star_of hna)) (by rw [star_of hna, star_of hnb]; rfl) (by rw [star_of hnb]; rfl)) fun σ H R ⟨ι, env, S, hr, he, q⟩ => ?_
  simp only [evI] at q
  obtain ⟨ι0, env0, S0, hr0, he0, p0⟩ := rg_seq (f := fun i j S => grd ((-(2 ^ 62) ≤ i ∧ i < 2 ^ 62) ∧ -(2 ^ 62) ≤ j ∧ j < 2 ^ 62) (.ok (Src.fix ((List.range (j - i).toNat).map fun k => .int (i + (k : Nat)))) S)) hr he q
  refine ⟨ι0, env0, S0, hr0, he0, p0.mono (fun t S1 ι1 H1 e1 r1 f1 x qx => ?_) fun _ _ _ _ _ _ _ h => h⟩
  obtain ⟨ι3, env3, S3, hr3, he3, p3⟩ := f1 x qx
  refine ⟨ι3, env3, S3, hr3, he3, p3.mono (fun t S4 ι4 H4 e4 r4 f4 y qy => ?_) fun _ _ _ _ _ _ _ h => h⟩
  obtain ⟨i, j, e5, e6, ι5, S5, r5, e7, p5⟩ := f4 y qy
  obtain ⟨ok, p5⟩ := Pst.grd p5
  exact ⟨i, j, by rw [e5, e6], ⟨ok.1.1, ok.1.2, ok.2.1, ok.2.2⟩, Pst.ok p5 r5 _ (drives_rng i _)⟩
theorem s_irng1 {y : Str} (C : Cn X G CT c W) (hy : y = "range") (hg : glob c.sc y = true) (hz : isZero ma = true) (hb : PE X b (tM X.K G W mb)) (hnb : noStar b = true) : PI X tg (.Call (.Name y p) [b] [] pos) (tMI X.K G W (.rng ma mb)) := by
  subst hy
  obtain ⟨g1, g2, g3⟩ := glob_of C hg
  rw [zero_of hz]
  refine PI.mono (pi_range1 g1 (C.bi _ (by decide)) (pa_cons hb pa_nil (star_of hnb)) (by rw [star_of hnb]; rfl)) fun σ H R ⟨ι, env, S, hr, he, q⟩ => ?_
  simp only [evI, ev, Res.bind_ok] at q
  obtain ⟨ι0, env0, S0, hr0, he0, p0⟩ := seq1 hr he q
  refine ⟨ι0, env0, S0, hr0, he0, p0.mono (fun t S1 ι1 H1 e1 r1 f1 x qx => ?_) fun _ _ _ _ _ _ _ h => h⟩
  obtain ⟨ι2, S2, d, _, r2, e2, qd, pp⟩ := f1 x qx
  cases d <;> first | exact pp.elim | skip
  rename_i j
  cases qd
  obtain ⟨ok, pp⟩ := Pst.grd pp
  refine ⟨j, rfl, ok.2.1, ok.2.2, ?_⟩
  have z : j - 0 = j := by omega
  have dr := drives_rng (K := X.K) (ι := ι2) (H := H1) 0 j.toNat
  refine Pst.ok pp r2 _ ?_
  show Drives X.K (Itr 0 j.toNat) (fun _ => some ((List.range (j - 0).toNat).map fun k => .int (0 + (k : Nat)))) ι2 H1
  rw [z]
  exact dr
/-- one argument, by values -/
theorem one_read {α : Type} {F : α → Sto → List Addr → Hp → Prop} {f : D → Sto → Res α} {ι : List Addr} {env : Env} {S : Sto} (hr : HRep X.K ι S H) (he : EnvRep X.K ι H env σ) (q : Pst X.K ((ev G ma env S).bind f) ι H F (W σ)) :
    tCons (tM X.K G W ma) tNil σ H fun vs H1 => ∃ x ι1 S1 dx, vs = [x] ∧ HRep X.K ι1 S1 H1 ∧ EnvRep X.K ι1 H1 env σ ∧ Rep X.K ι1 H1 dx x ∧ Pst X.K (f dx S1) ι1 H1 F (W σ) := by
  obtain ⟨ι0, env0, S0, hr0, he0, p0⟩ := seq1 hr he q
  refine ⟨ι0, env0, S0, hr0, he0, p0.mono (fun t S1 ι1 H1 e1 r1 f1 x qx => ?_) fun _ _ _ _ _ _ _ h => h⟩
  obtain ⟨ι2, S2, d, _, r2, e2, qd, pp⟩ := f1 x qx
  exact ⟨x, ι2, S2, d, rfl, r2, e2, qd, pp⟩
theorem two_read {α : Type} {F : α → Sto → List Addr → Hp → Prop} {f : D → D → Sto → Res α} {ι : List Addr} {env : Env} {S : Sto} (hr : HRep X.K ι S H) (he : EnvRep X.K ι H env σ) (q : Pst X.K ((ev G ma env S).bind fun x S => (ev G mb env S).bind fun y S => f x y S) ι H F (W σ)) :
    tCons (tM X.K G W ma) (tCons (tM X.K G W mb) tNil) σ H fun vs H1 => ∃ x y ι1 S1 dx dy, vs = [x, y] ∧ HRep X.K ι1 S1 H1 ∧ EnvRep X.K ι1 H1 env σ ∧ Rep X.K ι1 H1 dx x ∧ Rep X.K ι1 H1 dy y ∧ Pst X.K (f dx dy S1) ι1 H1 F (W σ) := by
  obtain ⟨ι0, env0, S0, hr0, he0, p0⟩ := seq2 hr he q
  refine ⟨ι0, env0, S0, hr0, he0, p0.mono (fun t S1 ι1 H1 e1 r1 f1 x qx => ?_) fun _ _ _ _ _ _ _ h => h⟩
  obtain ⟨ι3, env3, S3, hr3, he3, p3⟩ := f1 x qx
  refine ⟨ι3, env3, S3, hr3, he3, p3.mono (fun t S4 ι4 H4 e4 r4 f4 y qy => ?_) fun _ _ _ _ _ _ _ h => h⟩
  obtain ⟨ι2, S2, dx, dy, _, r2, e2, q1, q2, p2⟩ := f4 y qy
  exact ⟨x, y, ι2, S2, dx, dy, rfl, r2, e2, q1, q2, p2⟩
theorem s_ienm {y : Str} (C : Cn X G CT c W) (hy : y = "enumerate") (hg : glob c.sc y = true) (ha : PE X a (tM X.K G W ma)) (hna : noStar a = true) (ht : isTup tg = true) : PI X tg (.Call (.Name y p) [a] [] pos) (tMI X.K G W (.enm ma)) := by
  subst hy
  obtain ⟨g1, g2, g3⟩ := glob_of C hg
  cases tg <;> first | (cases ht; done) | skip
  rename_i elts kk tpos
  refine ⟨fun pins s σ H R I ⟨ι, env, S, hr, he, q⟩ => ?_⟩
  simp only [evI] at q
  have st : starEach [a] X.env = [(false, eval a X.env)] := by rw [star_of hna]; rfl
  have hm : X.mg "enumerate" = none := C.bi _ (by decide)
  -- a list: by the layer's rule; a tuple: by our own
  refine PyProof.Rows.Call_ (ld_blt I g1 hm PyProof.Rows.boot_enumerate (PyProof.Rows.callWith_type1 (thn ((pa_cons ha pa_nil (star_of hna)).run pos pins s σ H _ I (one_read hr he q)) fun us s1 h1 => ?_) (star_of hna) rfl))
  obtain ⟨vs, H1, I1, r1, x, ι1, S1, d, rfl, hr1, he1, qd, p1⟩ := h1
  obtain ⟨u, rfl, ru⟩ := vals1 r1
  have fp : ∀ b ∈ [s1.heap.objs.size + 1, s1.heap.objs.size], FpOk X pins H1 b := fun b hb => by
    have hle : s1.heap.objs.size ≤ b := by
      simp only [List.mem_cons, List.not_mem_nil, or_false] at hb
      omega
    exact I1.fpOk hle (I1.hok.fresh hle)
  cases d with
  | tup ds =>
    obtain ⟨q, vs, rfl, t, rs⟩ := qd
    cases (show u = Value.ref q from ru)
    obtain ⟨its, rv, p', hz⟩ := I1.tuple t.sq
    refine call_enumT (show s1.heap.IsTuple q its.toArray from p') fun h' he' hit hk => wpAny_pyIter_enum he' ?_
    have I2 : Inv X pins σ H1 { s1 with heap := h' } := I1.kept (t' := s1.toks) hk
    exact ⟨s1.heap.objs.size + 1, [s1.heap.objs.size + 1, s1.heap.objs.size], _, _, H1, rfl, I2, turn_enumT q (s1.heap.objs.size + 1) s1.heap.objs.size, ⟨⟨.none, he'⟩, hit, Nat.succ_ne_self _⟩, fp, Pst.ok p1 hr1 _ (drives_enumT hr1 t rs)⟩
  | loc n =>
    simp only at p1
    split at p1
    · rename_i xs e1
      obtain ⟨q, vs, rfl, hq, h2, rs⟩ := hr1.lst qd e1
      cases (show u = Value.ref q from ru)
      obtain ⟨its, rv, p', hz⟩ := I1.list (.inl (.inl h2))
      refine call_enumerate_list p'.isList fun h' he' hit hsz hk => wpAny_pyIter_enum he' ?_
      have I2 : Inv X pins σ H1 { s1 with heap := h' } := I1.kept (t' := s1.toks) hk
      exact ⟨s1.heap.objs.size + 1, [s1.heap.objs.size + 1, s1.heap.objs.size], _, _, H1, rfl, I2, turn_enum q (s1.heap.objs.size + 1) s1.heap.objs.size, ⟨⟨.none, he'⟩, hit, Nat.succ_ne_self _⟩, fp, Pst.ok p1 hr1 _ (drives_enumL hq)⟩
    · exact p1.elim
  | _ => exact p1.elim
theorem s_izip {y : Str} (C : Cn X G CT c W) (hy : y = "zip") (hg : glob c.sc y = true) (ha : PE X a (tM X.K G W ma)) (hb : PE X b (tM X.K G W mb)) (hna : noStar a = true) (hnb : noStar b = true) (ht : isTup tg = true) : PI X tg (.Call (.Name y p) [a, b] [] pos) (tMI X.K G W (.zip ma mb)) := by
  subst hy
  obtain ⟨g1, g2, g3⟩ := glob_of C hg
  cases tg <;> first | (cases ht; done) | skip
  rename_i elts kk tpos
  refine PI.mono (RZ.pi_zipA g1 (C.bi _ (by decide)) (pa_cons ha (pa_cons hb pa_nil (star_of hnb)) (star_of hna)) (star_of hna) (stars_any (by simp [noStars, hnb]))) fun σ H R ⟨ι, env, S, hr, he, q⟩ => ?_
  simp only [evI] at q
  obtain ⟨ι0, env0, S0, hr0, he0, p0⟩ := two_read hr he q
  refine ⟨ι0, env0, S0, hr0, he0, p0.mono (fun t S1 ι1 H1 e1 r1 f1 x qx => ?_) fun _ _ _ _ _ _ _ h => h⟩
  obtain ⟨ι3, env3, S3, hr3, he3, p3⟩ := f1 x qx
  refine ⟨ι3, env3, S3, hr3, he3, p3.mono (fun t S4 ι4 H4 e4 r4 f4 y qy => ?_) fun _ _ _ _ _ _ _ h => h⟩
  obtain ⟨x', y', ι2, S2, dx, dy, ev, r2, e2, q1, q2, p2⟩ := f4 y qy
  cases dx with
  | tup ds =>
    cases dy with
    | tup es =>
      obtain ⟨a1, vs, rfl, t1, rs1⟩ := q1
      obtain ⟨b1, ws, rfl, t2, rs2⟩ := q2
      exact ⟨a1, b1, vs, ws, ev, .inr ⟨t1.sq, t2.sq, Pst.ok p2 r2 _ (drives_zipT r2 t1 rs1 t2 rs2)⟩⟩
    | _ => exact p2.elim
  | loc n =>
    cases dy with
    | loc m =>
      simp only at p2
      split at p2
      · rename_i xs ys e1 e2
        obtain ⟨a1, vs, rfl, h1, h2, rs1⟩ := r2.lst q1 e1
        obtain ⟨b1, ws, rfl, h3, h4, rs2⟩ := r2.lst q2 e2
        exact ⟨a1, b1, vs, ws, ev, .inl ⟨.inl (.inl h2), .inl (.inl h4), Pst.ok p2 r2 _ (drives_zipL h1 h3)⟩⟩
      · exact p2.elim
    | _ => exact p2.elim
  | _ => exact p2.elim

/-! ### targets -/
theorem s_gnm {i : Nat} {x : Str} (C : Cn X G CT c W) (h : okG c (.nm i) (.Name x pos) = true) : PG X (.Name x pos) (tMG X.K G (.nm i)) := by
  simp only [okG, Bool.and_eq_true, Bool.or_eq_true, decide_eq_true_eq, List.contains_iff_mem] at h
  have hx : Loc X.env.scope x := by
    rw [C.sc]
    rcases h.2 with z | z
    · exact .inl z
    · exact .inr z.1
  have hf : X.fn x = true ∨ X.env.scope.names.lookup x = some .local := by
    rcases h.2 with z | z
    · exact .inr (by rw [C.sc]; exact z)
    · exact .inl (C.fn x z.2)
  refine PG.mono (pg_name (i := i) C.nd (by rw [C.nn]; exact h.1) hx hf) fun v σ H Q ⟨ι, env, S, d, hr, he, qd, q⟩ => ?_
  exact Pst.ok q hr _ (he.set qd i) fun vs hv => wipe_set _ (by simpa [ownG] using hv)
theorem s_gnil : PGs X [] (tMGs X.K G .nil) := by
  refine PGs.mono pgs_nil fun vs σ H Q ⟨ι, env, S, ds, hr, he, qd, q⟩ => ?_
  cases ds with
  | nil => cases qd; exact ⟨rfl, Pst.ok q hr _ he fun _ _ => rfl⟩
  | cons _ _ => exact q.elim
theorem each_of {e : Expr} {es : List Expr} {env : PySem.Env} (h : noStar e = true) : assignEach (e :: es) env = (false, assign e env) :: assignEach es env := by
  cases e <;> first | rfl | cases h
theorem s_gcons {es : List Expr} {g : MG} {gs : MGs} (h1 : PG X e (tMG X.K G g)) (h2 : PGs X es (tMGs X.K G gs)) (hn : noStar e = true) : PGs X (e :: es) (tMGs X.K G (.cons g gs)) := by
  refine PGs.mono (pgs_cons h1 h2 (by rw [each_of hn]; rfl)) fun vs σ H Q ⟨ι, env, S, ds, hr, he, qd, q⟩ => ?_
  cases ds with
  | nil => exact q.elim
  | cons d ds =>
    obtain ⟨v, t, rfl, q1, q2⟩ := qd
    simp only [asgGs] at q
    refine ⟨v, t, rfl, ι, env, S, d, hr, he, q1, q.bind.mono (fun env' S1 ι1 H1 e1 r1 p1 σ1 he1 on1 => ⟨ι1, env', S1, ds, r1, he1, Reps.ext hr e1 _ _ q2, p1.mono (fun env2 S2 ι2 H2 e2 r2 f σ2 he2 on2 => f σ2 he2 fun vs hv => ?_) fun _ _ _ _ _ _ _ h => h⟩) fun _ _ _ _ _ _ _ h => h⟩
    simp only [ownGs, Bool.and_eq_true] at hv
    exact (on2 vs hv.2).trans (on1 vs hv.1)
theorem okGs_each {c : Sc} {env : PySem.Env} : ∀ {gs : MGs} {es : List Expr}, okGs c gs es = true → (assignEach es env).length = es.length ∧ (assignEach es env).findIdx? (·.1) = none
  | .nil, [], _ => ⟨rfl, rfl⟩
  | .nil, _ :: _, h => by simp [okGs] at h
  | .cons _ _, [], h => by simp [okGs] at h
  | .cons g gs, e :: es, h => by
    simp only [okGs, Bool.and_eq_true] at h
    obtain ⟨h1, h2⟩ := okGs_each (env := env) h.2
    rw [each_of h.1.2]
    exact ⟨by simp [h1], by simp [List.findIdx?_cons, h2]⟩
theorem okGs_len {c : Sc} : ∀ {gs : MGs} {es : List Expr}, okGs c gs es = true → lenGs gs = es.length
  | .nil, [], _ => rfl
  | .nil, _ :: _, h => by simp [okGs] at h
  | .cons _ _, [], h => by simp [okGs] at h
  | .cons g gs, e :: es, h => by
    simp only [okGs, Bool.and_eq_true] at h
    simp [lenGs, okGs_len h.2]
theorem s_gtup {es : List Expr} {gs : MGs} {k : Nat} (C : Cn X G CT c W) (ok : okGs c gs es = true) (h : PGs X es (tMGs X.K G gs)) : PG X (.Tuple es k pos) (tMG X.K G (.tup gs)) := by
  obtain ⟨h1, h2⟩ := okGs_each (env := X.env) ok
  have hl' := okGs_len ok
  refine ⟨fun pins s σ H v u Q I r ⟨ι, env, S, d, hr, he, qd, q⟩ => ?_⟩
  have fin : ∀ {ds : List D} {vs : List V}, Reps X.K ι H ds vs → Pst X.K (asgGs G gs ds env S) ι H (fun env' _ ι' H' => ∀ σ', EnvRep X.K ι' H' env' σ' → Onl (.tup gs) σ σ' → Q σ' H') (fun _ _ _ _ _ => False) → tMGs X.K G gs vs σ H Q := fun rs q =>
    ⟨ι, env, S, _, hr, he, rs, q.mono (fun env2 S2 ι2 H2 e2 r2 f σ2 he2 on2 => f σ2 he2 fun vs hv => on2 vs (by simpa [ownG] using hv)) fun _ _ _ _ _ _ _ h => h⟩
  cases d with
  | tup ds =>
    obtain ⟨a1, vs, rfl, t, rs⟩ := qd
    simp only [asgG] at q
    obtain ⟨hl, q⟩ := Pst.grd q
    exact (pg_tup C.calm h h1 h2).run pins s σ H _ u Q I r ⟨a1, vs, rfl, t.sq, by rw [← rs.length, hl, hl'], fin rs q⟩
  | loc n =>
    simp only [asgG] at q
    split at q
    · rename_i xs e1
      obtain ⟨hl, q⟩ := Pst.grd q
      obtain ⟨a1, vs, rfl, _, h2', rs⟩ := hr.lst qd e1
      exact (pg_lst C.calm h h1 h2).run pins s σ H _ u Q I r ⟨a1, vs, rfl, .inl (.inl h2'), by rw [← rs.length, hl, hl'], fin rs q⟩
    · exact q.elim
  | _ => exact q.elim
theorem s_gsub {i : Expr} {mo mi : ME} (C : Cn X G CT c W) (ho : PE X a (tM X.K G W mo)) (hi : PE X i (tM X.K G W mi)) (hn : noSlice i = true) : PG X (.Subscript a i pos) (tMG X.K G (.sub mo mi)) := by
  refine ⟨fun pins s σ H v u Q I r ⟨ι, env, S, d, hr, he, qd, q⟩ => ?_⟩
  have hu := C.un
  simp only [asgG] at q
  have ha : assign (.Subscript a i pos) X.env u = (do
      let ov ← holding [u] (eval a X.env)
      let iv ← holding [u, ov] (eval i X.env)
      standAt pos
      holding [u, ov, iv] (setItem ov iv u)
      release [u, ov, iv] []) := by cases i <;> first | rfl | cases hn
  rw [ha]
  refine wpAny_bind (wpAny_holding (thn (ho.run pins s σ H _ I (seq2 hr he (Pst.any q))) fun ov s1 ⟨x, H1, I1, r1, q1⟩ => ?_))
  refine wpAny_bind (wpAny_holding (thn (hi.run pins s1 σ H1 _ I1 q1) fun iv s2 ⟨y, H2, I2, r2, q2⟩ => ?_))
  obtain ⟨ι2, S2, dx, dy, x2, hr2, he2, qx, qy, p2⟩ := q2
  refine wpAny_bind (wpAny_standAt (wpAny_bind (wpAny_holding (thn (setIx_ok (by omega) I2 r1 r2 r hr2 qx qy (Rep.ext hr x2 _ _ qd) (Q := fun H3 => Q σ H3) (p2.bind.mono (fun _ S3 ι3 H3 e3 r3 p3 => Pst.ok p3 r3 _ (he2.ext hr2 e3) fun _ _ => rfl) fun _ _ _ _ _ _ _ h => h)) fun _ s3 ⟨H3, I3, q3⟩ => ?_))))
  exact wpAny_release ⟨σ, H3, I3, q3⟩

/-! ### comprehensions -/
theorem Pst.lift {α : Type} {K : PySem.W.Frag} {r : Res α} {ι : List Addr} {H : Hp} {F : α → Sto → List Addr → Hp → Prop} {E E' : EM} (h : Pst K r ι H F E) (k : ∀ c fs S ι' H', E c fs S ι' H' → E' c fs S ι' H') : Pst K r ι H F E' := h.mono (fun _ _ _ _ _ _ q => q) fun c fs S ι' H' _ _ q => k c fs S ι' H' q
theorem lcFix_live (f : List D → D → Sto → Res (List D)) (xs : List D) : ∀ (i : Nat) (acc : List D) (S : Sto), i ≤ xs.length → lcFix f (xs.drop i) acc S = lcLive f (fun _ => some xs) (xs.length - i) i acc S := by
  intro i
  generalize hk : xs.length - i = k
  induction k generalizing i with
  | zero =>
    intro acc S hi
    have e : i = xs.length := by omega
    subst e
    simp [lcFix, lcLive, grd]
  | succ k ih =>
    intro acc S hi
    have hlt : i < xs.length := by omega
    rw [List.drop_eq_getElem_cons hlt]
    simp only [lcFix, lcLive, List.getElem?_eq_getElem hlt]
    congr 1
    funext acc S
    exact ih (i + 1) (by omega) acc S (by omega)
theorem lc_src (f : List D → D → Sto → Res (List D)) (src : Src) (S : Sto) : (match src with | .fix xs => lcFix f xs [] S | .live g n => lcLive f g n 0 [] S) = lcLive f (srcG src) (srcN src) 0 [] S := by
  cases src with
  | fix xs =>
    have h := lcFix_live f xs 0 [] S (Nat.zero_le _)
    rw [List.drop_zero, Nat.sub_zero] at h
    exact h
  | live g n => rfl
/-- the tests of a clause -/
def tMTs (K : PySem.W.Frag) (G : Gb) (W : WM) (m : MA) : TT := fun σ H Q => ∃ ι env S, HRep K ι S H ∧ EnvRep K ι H env σ ∧ Pst K (evTs G m env S) ι H (fun b _ _ H' => Q b H') (W σ)
theorem s_ts0 : PTs X [] (tMTs X.K G W .nil) := ⟨fun pins s σ H Q I ⟨ι, env, S, hr, he, q⟩ => pts_nil.run pins s σ H Q I (Pst.ok q hr)⟩
theorem s_ts1 (h : PT X a (tMT X.K G W ma)) : PTs X [a] (tMTs X.K G W (.cons ma .nil)) := ⟨fun pins s σ H Q I q => (pts_one h).run pins s σ H Q I q⟩
section
variable {K : PySem.W.Frag} {ι ι' : List Addr} {S : Sto} {H H' : Hp}
mutual
theorem Rep.mv (pre : ∀ (n : Nat) (a : Addr), ι[n]? = some a → ι'[n]? = some a) (k : ∀ a o, H a = some o → ¬ InSto o → H' a = some o) : ∀ (d : D) (v : V), Rep K ι H d v → Rep K ι' H' d v
  | .non, v, r => r
  | .bl _, v, r => r
  | .int _, v, r => r
  | .str _, v, r => r
  | .tup ds, v, r => by
    obtain ⟨a, vs, e1, q, rs⟩ := r
    refine ⟨a, vs, e1, ?_, Reps.mv pre k ds vs rs⟩
    rcases q with q | q
    · exact .inl (k a _ q id)
    · exact .inr q
  | .fl ds, v, r => by
    obtain ⟨a, vs, e1, q, rs⟩ := r
    refine ⟨a, vs, e1, ?_, Reps.mv pre k ds vs rs⟩
    rcases q with ⟨o, q⟩ | q
    · exact .inl ⟨o, k a _ q id⟩
    · exact .inr q
  | .loc n, v, r => by
    obtain ⟨a, e1, q⟩ := r
    exact ⟨a, e1, pre n a q⟩
theorem Reps.mv (pre : ∀ (n : Nat) (a : Addr), ι[n]? = some a → ι'[n]? = some a) (k : ∀ a o, H a = some o → ¬ InSto o → H' a = some o) : ∀ (ds : List D) (vs : List V), Reps K ι H ds vs → Reps K ι' H' ds vs
  | [], vs, r => r
  | d :: ds, vs, r => by
    obtain ⟨v, t, e1, r1, r2⟩ := r
    exact ⟨v, t, e1, Rep.mv pre k d v r1, Reps.mv pre k ds t r2⟩
end
theorem ObjRep.mv {a : Addr} {o : O} (pre : ∀ (n : Nat) (a : Addr), ι[n]? = some a → ι'[n]? = some a) (k : ∀ a o, H a = some o → ¬ InSto o → H' a = some o) (r : ObjRep K ι H a o) (k2 : ∀ u, H a = some u → H' a = some u) : ObjRep K ι' H' a o := by
  cases o with
  | lst xs => obtain ⟨vs, h1, h2⟩ := r; exact ⟨vs, k2 _ h1, Reps.mv pre k _ _ h2⟩
  | dct kvs => obtain ⟨vs, h1, h2⟩ := r; exact ⟨vs, k2 _ h1, L2.Paired.mapP h2 fun p q z => ⟨z.1, Rep.mv pre k _ _ z.2⟩⟩
  | dtt kvs => obtain ⟨vs, h1, h2⟩ := r; exact ⟨vs, k2 _ h1, L2.Paired.mapP h2 fun p q z => ⟨z.1, Rep.mv pre k _ _ z.2⟩⟩
  | ins _ _ => exact r.elim
  | exn _ _ => exact r.elim
/-- a list in the making is written: the store does not see it -/
theorem mk_keep {D0 : Addr} {vs ws : List V} (h : H D0 = some (.lst vs)) : ∀ a o, H a = some o → ¬ InSto o → upd H D0 (.lst ws) a = some o := fun a o q n => by
  rw [upd_ne (fun z => ?_)]
  · exact q
  · rw [z, h] at q; cases q; exact n trivial
theorem hrep_mk (r : HRep K ι S H) {D0 : Addr} {vs ws : List V} (nin : D0 ∉ ι) (h : H D0 = some (.lst vs)) : HRep K ι S (upd H D0 (.lst ws)) :=
  ⟨r.len, fun n a o h1 h2 => (r.obj n a o h1 h2).mv (fun _ _ q => q) (mk_keep h) fun u q => by
    rw [upd_ne (fun z => nin (by rw [← z]; exact List.mem_of_getElem? h1))]; exact q, r.inj⟩
/-- it is done, and gets its place -/
theorem hrep_mkd (r : HRep K ι S H) {D0 : Addr} {o : O} (nin : D0 ∉ ι) (ho : ObjRep K (ι ++ [D0]) H D0 o) : HRep K (ι ++ [D0]) (S ++ [o]) H := by
  have pre : ∀ (n : Nat) (a : Addr), ι[n]? = some a → (ι ++ [D0])[n]? = some a := fun n a q => by rw [List.getElem?_append_left (List.getElem?_eq_some_iff.mp q).1]; exact q
  refine ⟨by simp [r.len], fun n a o' h1 h2 => ?_, fun n m a h1 h2 => ?_⟩
  · by_cases hn : n < ι.length
    · rw [List.getElem?_append_left hn] at h1
      rw [List.getElem?_append_left (r.len ▸ hn)] at h2
      exact (r.obj n a o' h1 h2).mv pre (fun _ _ q _ => q) fun v q => q
    · have e : n = ι.length := by
        have := (List.getElem?_eq_some_iff.mp h1).1
        simp at this; omega
      subst e
      rw [List.getElem?_concat_length] at h1
      rw [r.len, List.getElem?_concat_length] at h2
      cases h1; cases h2
      exact ho
  · have hn := (List.getElem?_eq_some_iff.mp h1).1
    have hm := (List.getElem?_eq_some_iff.mp h2).1
    simp at hn hm
    by_cases c1 : n < ι.length
    · rw [List.getElem?_append_left c1] at h1
      by_cases c2 : m < ι.length
      · rw [List.getElem?_append_left c2] at h2
        exact r.inj n m a h1 h2
      · have e : m = ι.length := by omega
        subst e
        rw [List.getElem?_concat_length] at h2
        cases h2
        exact absurd (List.mem_of_getElem? h1) nin
    · have e : n = ι.length := by omega
      subst e
      rw [List.getElem?_concat_length] at h1
      cases h1
      by_cases c2 : m < ι.length
      · rw [List.getElem?_append_left c2] at h2
        exact absurd (List.mem_of_getElem? h2) nin
      · omega
theorem calmly_inv {α : Type} {r : Res α} {β : Type} {f : α → Sto → Res β} {F : β → Sto → List Addr → Hp → Prop} {E : EM} (h : Pst K ((calmly r).bind f) ι H F E) : ∃ a S, r = .ok a S ∧ Pst K (f a S) ι H F E := by
  cases r with
  | ok a S => exact ⟨a, S, rfl, h⟩
  | exc _ _ _ => exact h.elim
  | bad => exact h.elim
theorem bind_inv {α β : Type} {r : Res α} {f : α → Sto → Res β} {b : β} {S' : Sto} (h : r.bind f = .ok b S') : ∃ a S, r = .ok a S ∧ f a S = .ok b S' := by
  cases r with
  | ok a S => exact ⟨a, S, rfl, h⟩
  | exc _ _ _ => cases h
  | bad => cases h
theorem grd_inv {α : Type} {p : Prop} [Decidable p] {r : Res α} {b : α} {S' : Sto} (h : Mi.grd p r = .ok b S') : p ∧ r = .ok b S' := by
  unfold Mi.grd at h
  split at h
  · exact ⟨by assumption, h⟩
  · cases h
end
/-- one turn, at its end the list so far -/
theorem lc_read {σ : L2.St} {H : Hp} {Q : VK} {own : List Nat} {melt : ME} {mg : MG} {mi : MI} {mt : MA} (hw : ownG own mg = true) (q0 : tM X.K G W (.lc melt mg mi mt own) σ H Q) : tLc (tMI X.K G W mi) (tMG X.K G mg) (tMTs X.K G noW mt) (tM X.K G noW melt) own σ H Q := by
  obtain ⟨ι, env, S, hr, he', q⟩ := q0
  simp only [ev] at q
  refine ⟨ι, env, S, hr, he', q.bind.mono (fun src S1 ι1 H1 e1 r1 p1 J dr D0 hD => ?_) fun _ _ _ _ _ _ _ h => h⟩
  have q1 : Pst X.K ((lcLive (lcStep (asgG G mg) (evTs G mt) (ev G melt) (wipeE env own)) (srcG src) (srcN src) 0 [] S1).bind fun acc S => alloc (.lst acc) S) ι1 H1 (VS X.K Q) (W σ) := by
    rw [← lc_src]
    exact p1
  have out1 : D0 ∉ ι1 := r1.fresh hD
  refine ⟨fun i m H2 => ∃ ι2 S2 acc vs, HRep X.K ι2 S2 H2 ∧ Ext ι1 H1 ι2 H2 ∧ D0 ∉ ι2 ∧ H2 D0 = some (.lst vs) ∧ Reps X.K ι2 H2 acc vs ∧
    Pst X.K ((lcLive (lcStep (asgG G mg) (evTs G mt) (ev G melt) (wipeE env own)) (srcG src) m i acc S2).bind fun acc S => alloc (.lst acc) S) ι1 H1 (VS X.K Q) (W σ),
    ⟨srcN src, ι1, S1, [], [], hrep_tup r1 hD, ext_tup r1 hD, out1, upd_same, rfl, q1⟩, ?_⟩
  rintro i m H2 ⟨ι2, S2, acc, vs, r2, e2, o2, hv2, rs2, q2⟩
  cases m with
  | zero =>
    simp only [lcLive] at q2
    split at q2
    · rename_i xs ex
      by_cases hl : xs.length = i
      · rw [grd_pos hl] at q2
        refine .inl ⟨(dr ι2 S2 H2 i xs e2 r2 ex).2 hl, ?_⟩
        have pre : ∀ (n : Nat) (a : Addr), ι2[n]? = some a → (ι2 ++ [D0])[n]? = some a := fun n a q => by rw [List.getElem?_append_left (List.getElem?_eq_some_iff.mp q).1]; exact q
        refine q2 (ι2 ++ [D0]) H2 ⟨fun n a q => pre n a (e2.pre n a q), e2.frm, fun a ha hn => ?_⟩ (hrep_mkd r2 o2 ⟨vs, hv2, Reps.mv pre (fun _ _ q _ => q) _ _ rs2⟩) (.ref D0) ⟨D0, rfl, by rw [← r2.len, List.getElem?_concat_length]⟩
        rcases List.mem_append.mp ha with z | z
        · exact e2.new a z hn
        · rw [List.mem_singleton.mp z]; exact hD
      · unfold grd at q2
        rw [if_neg hl] at q2
        exact q2.elim
    · exact q2.elim
  | succ k =>
    simp only [lcLive] at q2
    split at q2
    · rename_i xs ex
      split at q2
      · rename_i x hx
        obtain ⟨hgo, hy⟩ := (dr ι2 S2 H2 i xs e2 r2 ex).1 x hx
        rw [bind_assoc] at q2
        unfold lcStep at q2
        obtain ⟨acc', S3, hst, q3⟩ := calmly_inv q2
        obtain ⟨env', S4, ha, hst⟩ := bind_inv hst
        obtain ⟨b, S5, hb', hst⟩ := bind_inv hst
        refine .inr ⟨hgo, fun H' => ∃ ι2 S2 acc vs, HRep X.K ι2 S2 H' ∧ Ext ι1 H1 ι2 H' ∧ D0 ∉ ι2 ∧ H' D0 = some (.lst vs) ∧ Reps X.K ι2 H' acc vs ∧
          Pst X.K ((lcLive (lcStep (asgG G mg) (evTs G mt) (ev G melt) (wipeE env own)) (srcG src) k (i + 1) acc S2).bind fun acc S => alloc (.lst acc) S) ι1 H1 (VS X.K Q) (W σ), fun H' w => ⟨k, Nat.lt_succ_self _, w⟩, fun v H' y => ?_⟩
        obtain ⟨e3, r3, qv⟩ := hy v H' y
        refine ⟨ι2, wipeE env own, S2, x, r3, (((he'.ext hr e1).ext r1 e2).ext r2 e3).wipe own, qv, ?_⟩
        rw [ha]
        refine fun ι4 H4 e4 r4 σ2 he2 on2 => ⟨on2 own hw |>.trans ?_, ?_⟩
        · exact wipe_wipe σ own
        · refine ⟨ι4, env', S4, r4, he2, ?_⟩
          rw [hb']
          intro ι5 H5 e5 r5
          have e25 : Ext ι2 H2 ι5 H5 := (e3.trans e4).trans e5
          have o5 : D0 ∉ ι5 := fun m => by
            have := e25.new D0 m o2
            rw [hv2] at this; cases this
          have hv5 : H5 D0 = some (.lst vs) := e25.frm D0 _ hv2 o2
          cases b with
          | true =>
            rw [if_pos rfl] at hst
            refine Eq.mpr (if_pos rfl) ?_
            obtain ⟨yd, S6, hy', hst⟩ := bind_inv hst
            obtain ⟨hlt, hst⟩ := grd_inv hst
            cases hst
            refine ⟨ι5, env', S5, r5, he2.ext r4 e5, ?_⟩
            rw [hy']
            intro ι6 H6 e6 r6 y6 ry
            have e26 := e25.trans e6
            have o6 : D0 ∉ ι6 := fun m => by
              have := e26.new D0 m o2
              rw [hv2] at this; cases this
            have hv6 : H6 D0 = some (.lst vs) := e26.frm D0 _ hv2 o2
            refine ⟨vs, hv6, by rw [← rs2.length]; exact hlt, ι6, S3, acc ++ [yd], vs ++ [y6], hrep_mk r6 o6 hv6, ?_, o6, upd_same, Reps.mv (fun _ _ q => q) (mk_keep hv6) _ _ ((Reps.ext r2 e26 _ _ rs2).append (.one ry)), q3⟩
            have e16 := e2.trans e26
            refine ⟨e16.pre, fun a o q n => ?_, e16.new⟩
            rw [upd_ne (fun z => by rw [z, hD] at q; cases q)]
            exact e16.frm a o q n
          | false =>
            rw [if_neg Bool.false_ne_true] at hst
            refine Eq.mpr (if_neg Bool.false_ne_true) ?_
            cases hst
            exact ⟨ι5, S3, acc, vs, r5, e2.trans e25, o5, hv5, Reps.ext r2 e25 _ _ rs2, q3⟩
      · exact q2.elim
    · exact q2.elim
theorem cn_blk {scope : Scope} (C : Cn X G CT c W) (s : Shared) (H : Hp) (C1 : Addr) (cl : List (Str × Addr)) (fp : List Addr) : Cn (X.blk s H scope (compEnvC scope cl C1 X.env) fp) G CT (inner c scope) noW := by
  refine ⟨?_, C.nn, C.nd, fun x hx => ?_, C.calm, C.gd, C.fns, C.bi, C.cst, takes_no⟩
  · show relS scope X.env.scope = relS scope c.sc
    rw [C.sc]
  · simp only [inner, List.mem_map, List.mem_filter, decide_eq_true_eq] at hx
    obtain ⟨q, ⟨_, h2⟩, rfl⟩ := hx
    show (scope.names.lookup q.1 == some .cell) = true
    rw [h2]; rfl
theorem s_lc {el tgt it : Expr} {ifs : List Expr} {scope : Scope} {own : List Nat} {melt : ME} {mg : MG} {mi : MI} {mt : MA} {z : Int} (C : Cn X G CT c W) (hz : z = 0) (hb : blkC c.N c.sc scope (ownOf c.N own) = true) (hi : PI X tgt it (tMI X.K G W mi)) (hn : noSet it = true) (hw : ownG own mg = true)
    (hg : ∀ X' : Cx, X'.K = X.K → Cn X' G CT (inner c scope) noW → PG X' tgt (tMG X'.K G mg)) (ht : ∀ X' : Cx, X'.K = X.K → Cn X' G CT (inner c scope) noW → PTs X' ifs (tMTs X'.K G noW mt)) (he : ∀ X' : Cx, X'.K = X.K → Cn X' G CT (inner c scope) noW → PE X' el (tM X'.K G noW melt)) :
    PE X (.ListComp el [⟨tgt, it, ifs, z⟩] scope pos) (tM X.K G W (.lc melt mg mi mt own)) := by
  subst hz
  have cn := fun (s : Shared) (H : Hp) (C1 : Addr) (cl : List (Str × Addr)) (fp : List Addr) => cn_blk (scope := scope) C s H C1 cl fp
  have ok : BlkOk X.N X.env.scope scope (ownOf c.N own) := by
    rw [C.nn, C.sc]
    exact blkOk_by hb
  have ew : (ownOf c.N own).map (·.2) = own := by
    unfold ownOf
    rw [List.map_map]
    exact List.map_id _
  refine PE.mono (pe_lc (own := ownOf c.N own) (g := tMG X.K G mg) (tt := tMTs X.K G noW mt) (te := tM X.K G noW melt) C.calm C.nd hi ok (fun s H C1 cl fp => hg (X.blk s H scope (compEnvC scope cl C1 X.env) fp) rfl (cn s H C1 cl fp)) (fun s H C1 cl fp => ht (X.blk s H scope (compEnvC scope cl C1 X.env) fp) rfl (cn s H C1 cl fp)) (fun s H C1 cl fp => he (X.blk s H scope (compEnvC scope cl C1 X.env) fp) rfl (cn s H C1 cl fp)) (fun x => by cases it <;> first | rfl | cases hn)) fun σ H Q q => ?_
  rw [ew]
  exact lc_read hw q
end
end Mi
set_option Elab.async false
set_option linter.all false
set_option maxRecDepth 100000
set_option maxHeartbeats 400000
/-! Mi7: a text that passes okE means what the small language says. -/
namespace Mi
open PySem L2

section
variable {X : Cx} {G : Gb} {CT : Str → Option Addr} {c : Sc} {W : WM} {e : Expr}
theorem k_var {i : Nat} (C : Cn X G CT c W) (h : okE c (.var i) e = true) : PE X e (tM X.K G W (.var i)) ∧ plainTest e = true := by
  simp only [okE] at h
  split at h
  · exact ⟨s_var C (by simp only [okE]; exact h), rfl⟩
  · cases h
theorem k_cst {d : D} (h : okE c (.cst d) e = true) : PE X e (tM X.K G W (.cst d)) ∧ plainTest e = true := by
  simp only [okE] at h
  split at h
  · exact ⟨s_cst h, rfl⟩
  · cases h
theorem k_glb {x : Str} (C : Cn X G CT c W) (h : okE c (.glb x) e = true) : PE X e (tM X.K G W (.glb x)) ∧ plainTest e = true := by
  simp only [okE] at h
  split at h
  · simp only [Bool.and_eq_true, decide_eq_true_eq] at h
    obtain ⟨rfl, h⟩ := h
    exact ⟨s_glb C h, rfl⟩
  · cases h
theorem k_call {f : Str} {es : MA} (C : Cn X G CT c W) (h : okE c (.call f es) e = true) (ih : ∀ es', okEs c es es' = true → PA X es' (tMs X.K G W es)) : PE X e (tM X.K G W (.call f es)) ∧ plainTest e = true := by
  simp only [okE] at h
  split at h
  · rename_i x p as q
    simp only [Bool.and_eq_true, decide_eq_true_eq, List.contains_iff_mem] at h
    obtain ⟨⟨⟨rfl, h1⟩, h2⟩, h3⟩ := h
    refine ⟨?_, rfl⟩
    cases as with
    | nil =>
      cases es with
      | nil => exact s_call0 C h1 h2
      | cons _ _ => simp [okEs] at h3
    | cons a as => exact s_call C h1 h2 (okEs_stars h3) (ih _ h3)
  · cases h
theorem k_bi {b : Bi} {es : MA} (C : Cn X G CT c W) (h : okE c (.bi b es) e = true) (ih : ∀ es', okEs c es es' = true → PA X es' (tMs X.K G W es)) : PE X e (tM X.K G W (.bi b es)) ∧ plainTest e = true := by
  simp only [okE] at h
  split at h
  · simp only [Bool.and_eq_true, decide_eq_true_eq] at h
    obtain ⟨⟨rfl, h1⟩, h3⟩ := h
    exact ⟨s_bi C h1 (okEs_stars h3) (ih _ h3), rfl⟩
  · cases h
theorem k_mt {m : Mt} {o : ME} {es : MA} (C : Cn X G CT c W) (h : okE c (.mt m o es) e = true) (io : ∀ o', okE c o o' = true → PE X o' (tM X.K G W o)) (ih : ∀ es', okEs c es es' = true → PA X es' (tMs X.K G W es)) : PE X e (tM X.K G W (.mt m o es)) ∧ plainTest e = true := by
  simp only [okE] at h
  split at h
  · simp only [Bool.and_eq_true, decide_eq_true_eq] at h
    obtain ⟨⟨⟨⟨⟨rfl, h1⟩, h2⟩, h3⟩, h4⟩, h5⟩ := h
    exact ⟨s_mt (io _ h1) (okEs_stars h2) (ih _ h2) h3 h4 h5, rfl⟩
  · cases h
theorem k_isi {a : ME} {cs : List Cl} (C : Cn X G CT c W) (h : okE c (.isi a cs) e = true) (ia : ∀ o', okE c a o' = true → PE X o' (tM X.K G W a)) : PE X e (tM X.K G W (.isi a cs)) ∧ plainTest e = true := by
  simp only [okE] at h
  split at h
  · simp only [Bool.and_eq_true, decide_eq_true_eq] at h
    obtain ⟨⟨⟨⟨⟨h0, h1⟩, h2⟩, h3⟩, h4⟩, h5⟩ := h
    exact ⟨s_isiT C h0 h1 (ia _ h2) h3 h4 h5, rfl⟩
  · simp only [Bool.and_eq_true, decide_eq_true_eq] at h
    obtain ⟨⟨⟨⟨h0, h1⟩, h2⟩, h3⟩, h4⟩ := h
    match cs, h3 with
    | [k], h3 =>
      simp only [okCls, Bool.and_eq_true] at h3
      exact ⟨s_isi1 C h0 h1 (ia _ h2) h3.1 h4, rfl⟩
    | [], h3 => simp [okCls] at h3
    | _ :: _ :: _, h3 => simp [okCls] at h3
  · cases h
theorem k_lrg {a b : ME} (C : Cn X G CT c W) (h : okE c (.lrg a b) e = true) (ia : ∀ o', okE c a o' = true → PE X o' (tM X.K G W a)) (ib : ∀ o', okE c b o' = true → PE X o' (tM X.K G W b)) : PE X e (tM X.K G W (.lrg a b)) := by
  simp only [okE] at h
  split at h
  · simp only [Bool.and_eq_true, decide_eq_true_eq] at h
    obtain ⟨⟨⟨⟨⟨⟨⟨h0, h1⟩, h2⟩, h3⟩, h4⟩, h5⟩, h6⟩, h7⟩ := h
    exact s_lrg C h0 h2 (s_rg2 C h1 h3 (ia _ h4) (ib _ h5) h6 h7) rfl
  · simp only [Bool.and_eq_true, decide_eq_true_eq] at h
    obtain ⟨⟨⟨⟨⟨⟨h0, h1⟩, h2⟩, h3⟩, h4⟩, h5⟩, h6⟩ := h
    exact s_lrg C h0 h2 (s_rg1 C h1 h3 h4 (ib _ h5) h6) rfl
  · cases h
theorem k_trg {a b : ME} (C : Cn X G CT c W) (h : okE c (.trg a b) e = true) (ia : ∀ o', okE c a o' = true → PE X o' (tM X.K G W a)) (ib : ∀ o', okE c b o' = true → PE X o' (tM X.K G W b)) : PE X e (tM X.K G W (.trg a b)) := by
  simp only [okE] at h
  split at h
  · simp only [Bool.and_eq_true, decide_eq_true_eq] at h
    obtain ⟨⟨⟨⟨⟨⟨⟨h0, h1⟩, h2⟩, h3⟩, h4⟩, h5⟩, h6⟩, h7⟩ := h
    exact s_trg C h0 h2 (s_rg2 C h1 h3 (ia _ h4) (ib _ h5) h6 h7) rfl
  · simp only [Bool.and_eq_true, decide_eq_true_eq] at h
    obtain ⟨⟨⟨⟨⟨⟨h0, h1⟩, h2⟩, h3⟩, h4⟩, h5⟩, h6⟩ := h
    exact s_trg C h0 h2 (s_rg1 C h1 h3 h4 (ib _ h5) h6) rfl
  · cases h
theorem k_lc {elt : ME} {tg : MG} {it : MI} {ifs : MA} {own : List Nat} (C : Cn X G CT c W) (h : okE c (.lc elt tg it ifs own) e = true)
    (ii : ∀ t i, okI c it t i = true → PI X t i (tMI X.K G W it))
    (ig : ∀ (X' : Cx) (c' : Sc) (t : Expr), Cn X' G CT c' noW → okG c' tg t = true → PG X' t (tMG X'.K G tg))
    (it' : ∀ (X' : Cx) (c' : Sc) (t : List Expr), Cn X' G CT c' noW → okTs c' ifs t = true → PTs X' t (tMTs X'.K G noW ifs))
    (ie : ∀ (X' : Cx) (c' : Sc) (t : Expr), Cn X' G CT c' noW → okE c' elt t = true → PE X' t (tM X'.K G noW elt)) : PE X e (tM X.K G W (.lc elt tg it ifs own)) := by
  simp only [okE] at h
  split at h
  · simp only [Bool.and_eq_true, decide_eq_true_eq] at h
    obtain ⟨⟨⟨⟨⟨⟨⟨h0, h1⟩, h2⟩, h3⟩, h4⟩, h5⟩, h6⟩, h7⟩ := h
    exact s_lc C h0 h1 (ii _ _ h2) h3 h7 (fun X' _ C' => ig X' _ _ C' h4) (fun X' _ C' => it' X' _ _ C' h5) (fun X' _ C' => ie X' _ _ C' h6)
  · cases h
theorem pt_bad {m : ME} (h : ∀ env S, evT G m env S = .bad) : PT X e (tMT X.K G W m) := ⟨fun pins s σ H Q I ⟨ι, env, S, hr, he, q⟩ => by
  rw [h] at q
  exact q.elim⟩
end

mutual
theorem sndE {G : Gb} {CT : Str → Option Addr} : ∀ (m : ME) (X : Cx) (c : Sc) (W : WM) (e : Expr), Cn X G CT c W → okE c m e = true → PE X e (tM X.K G W m)
  | .var i, X, c, W, e, C, h => (k_var C h).1
  | .cst d, X, c, W, e, C, h => (k_cst h).1
  | .glb x, X, c, W, e, C, h => (k_glb C h).1
  | .bin op a b, X, c, W, e, C, h => by
    simp only [okE] at h
    split at h
    · simp only [Bool.and_eq_true, decide_eq_true_eq] at h
      obtain ⟨⟨rfl, h1⟩, h2⟩ := h
      exact s_bin (sndE a X c W _ C h1) (sndE b X c W _ C h2)
    · cases h
  | .neg a, X, c, W, e, C, h => by
    simp only [okE] at h
    split at h
    · simp only [Bool.and_eq_true, decide_eq_true_eq] at h
      obtain ⟨rfl, h1⟩ := h
      exact s_neg (sndE a X c W _ C h1)
    · cases h
  | .cmp op a b, X, c, W, e, C, h => by
    simp only [okE] at h
    split at h
    · simp only [Bool.and_eq_true, decide_eq_true_eq] at h
      obtain ⟨⟨⟨rfl, h1⟩, h2⟩, h3⟩ := h
      exact s_cmp C (sndE a X c W _ C h1) (sndE b X c W _ C h2) h3
    · cases h
  | .cmp2 op op' a b d, X, c, W, e, C, h => by
    simp only [okE] at h
    split at h
    · simp only [Bool.and_eq_true, decide_eq_true_eq] at h
      obtain ⟨⟨⟨⟨⟨rfl, rfl⟩, h1⟩, h2⟩, h3⟩, h4⟩ := h
      exact s_cmp2 C (sndE a X c W _ C h1) (sndE b X c W _ C h2) (sndE d X c W _ C h3) h4
    · cases h
  | .and a, X, c, W, e, C, h => by
    simp only [okE] at h
    split at h
    · simp only [Bool.and_eq_true, decide_eq_true_eq] at h
      obtain ⟨rfl, h1⟩ := h
      exact PE.mono (sndAnd a X c W _ _ C h1) fun σ H Q ⟨ι, env, S, hr, he, q⟩ => ⟨ι, env, S, hr, he, by simp only [ev] at q; exact q⟩
    · cases h
  | .or a, X, c, W, e, C, h => by
    simp only [okE] at h
    split at h
    · simp only [Bool.and_eq_true, decide_eq_true_eq] at h
      obtain ⟨rfl, h1⟩ := h
      exact PE.mono (sndOr a X c W _ _ C h1) fun σ H Q ⟨ι, env, S, hr, he, q⟩ => ⟨ι, env, S, hr, he, by simp only [ev] at q; exact q⟩
    · cases h
  | .not a, X, c, W, e, C, h => by
    simp only [okE] at h
    split at h
    · simp only [Bool.and_eq_true, decide_eq_true_eq] at h
      obtain ⟨rfl, h1⟩ := h
      exact s_not (sndE a X c W _ C h1)
    · cases h
  | .ife t a b, X, c, W, e, C, h => by
    simp only [okE] at h
    split at h
    · simp only [Bool.and_eq_true] at h
      obtain ⟨⟨h0, h1⟩, h2⟩ := h
      exact s_ife (sndT t X c W _ C h0) (sndE a X c W _ C h1) (sndE b X c W _ C h2)
    · cases h
  | .tup es, X, c, W, e, C, h => by
    simp only [okE] at h
    split at h
    · exact s_tup (sndEs es X c W _ C h)
    · cases h
  | .lst es, X, c, W, e, C, h => by
    simp only [okE] at h
    split at h
    · exact s_lst (sndEs es X c W _ C h)
    · cases h
  | .ix a i, X, c, W, e, C, h => by
    simp only [okE] at h
    split at h
    · simp only [Bool.and_eq_true] at h
      exact s_ix (sndE a X c W _ C h.1.1) (sndE i X c W _ C h.1.2) h.2
    · cases h
  | .slc a lo hi, X, c, W, e, C, h => by
    simp only [okE] at h
    split at h
    · simp only [Bool.and_eq_true] at h
      exact s_slc (sndE a X c W _ C h.1.1) (sndO lo X c W _ C h.1.2) (sndO hi X c W _ C h.2)
    · cases h
  | .call f es, X, c, W, e, C, h => (k_call C h fun es' h' => sndEs es X c W es' C h').1
  | .bi b es, X, c, W, e, C, h => (k_bi C h fun es' h' => sndEs es X c W es' C h').1
  | .mt m o es, X, c, W, e, C, h => (k_mt C h (fun o' h' => sndE o X c W o' C h') fun es' h' => sndEs es X c W es' C h').1
  | .lrg a b, X, c, W, e, C, h => k_lrg C h (fun o' h' => sndE a X c W o' C h') fun o' h' => sndE b X c W o' C h'
  | .trg a b, X, c, W, e, C, h => k_trg C h (fun o' h' => sndE a X c W o' C h') fun o' h' => sndE b X c W o' C h'
  | .isi a cs, X, c, W, e, C, h => (k_isi C h fun o' h' => sndE a X c W o' C h').1
  | .lc elt tg it ifs own, X, c, W, e, C, h => k_lc C h (fun t i h' => sndI it X c W t i C h') (fun X' c' t C' h' => sndG tg X' c' noW t C' h') (fun X' c' t C' h' => sndTs ifs X' c' noW t C' h') fun X' c' t C' h' => sndE elt X' c' noW t C' h'
theorem sndT {G : Gb} {CT : Str → Option Addr} : ∀ (m : ME) (X : Cx) (c : Sc) (W : WM) (e : Expr), Cn X G CT c W → okE c m e = true → PT X e (tMT X.K G W m)
  | .var i, X, c, W, e, C, h => s_test (k_var C h).1 (k_var C h).2 fun _ _ => by simp only [evT, ev]
  | .cst d, X, c, W, e, C, h => s_test (k_cst h).1 (k_cst h (X := X) (G := G) (W := W)).2 fun _ _ => by simp only [evT, ev, Res.bind_ok]
  | .glb x, X, c, W, e, C, h => s_test (k_glb C h).1 (k_glb C h).2 fun _ _ => by simp only [evT, ev]
  | .cmp op a b, X, c, W, e, C, h => by
    simp only [okE] at h
    split at h
    · simp only [Bool.and_eq_true, decide_eq_true_eq] at h
      obtain ⟨⟨⟨rfl, h1⟩, h2⟩, h3⟩ := h
      exact s_cmpT C (sndE a X c W _ C h1) (sndE b X c W _ C h2) h3
    · cases h
  | .cmp2 op op' a b d, X, c, W, e, C, h => by
    simp only [okE] at h
    split at h
    · simp only [Bool.and_eq_true, decide_eq_true_eq] at h
      obtain ⟨⟨⟨⟨⟨rfl, rfl⟩, h1⟩, h2⟩, h3⟩, h4⟩ := h
      exact s_cmp2T C (sndE a X c W _ C h1) (sndE b X c W _ C h2) (sndE d X c W _ C h3) h4
    · cases h
  | .and a, X, c, W, e, C, h => by
    simp only [okE] at h
    split at h
    · simp only [Bool.and_eq_true, decide_eq_true_eq] at h
      obtain ⟨rfl, h1⟩ := h
      exact PT.mono (sndTAnd a X c W _ _ C h1).pt fun σ H Q ⟨ι, env, S, hr, he, q⟩ => ⟨ι, env, S, hr, he, by simp only [evT] at q; exact q⟩
    · cases h
  | .or a, X, c, W, e, C, h => by
    simp only [okE] at h
    split at h
    · simp only [Bool.and_eq_true, decide_eq_true_eq] at h
      obtain ⟨rfl, h1⟩ := h
      exact PT.mono (sndTOr a X c W _ _ C h1).pt fun σ H Q ⟨ι, env, S, hr, he, q⟩ => ⟨ι, env, S, hr, he, by simp only [evT] at q; exact q⟩
    · cases h
  | .not a, X, c, W, e, C, h => by
    simp only [okE] at h
    split at h
    · simp only [Bool.and_eq_true, decide_eq_true_eq] at h
      obtain ⟨rfl, h1⟩ := h
      exact s_notT (sndT a X c W _ C h1)
    · cases h
  | .call f es, X, c, W, e, C, h => by
    have k := k_call C h fun es' h' => sndEs es X c W es' C h'
    exact s_test k.1 k.2 fun _ _ => by simp only [evT, ev]
  | .bi b es, X, c, W, e, C, h => by
    have k := k_bi C h fun es' h' => sndEs es X c W es' C h'
    exact s_test k.1 k.2 fun _ _ => by simp only [evT, ev]
  | .mt m o es, X, c, W, e, C, h => by
    have k := k_mt C h (fun o' h' => sndE o X c W o' C h') fun es' h' => sndEs es X c W es' C h'
    exact s_test k.1 k.2 fun _ _ => by simp only [evT, ev]
  | .isi a cs, X, c, W, e, C, h => by
    have k := k_isi C h fun o' h' => sndE a X c W o' C h'
    exact s_test k.1 k.2 fun _ _ => by simp only [evT, ev]
  | .bin _ _ _, _, _, _, _, _, _ => pt_bad fun _ _ => by simp only [evT]
  | .neg _, _, _, _, _, _, _ => pt_bad fun _ _ => by simp only [evT]
  | .ife _ _ _, _, _, _, _, _, _ => pt_bad fun _ _ => by simp only [evT]
  | .tup _, _, _, _, _, _, _ => pt_bad fun _ _ => by simp only [evT]
  | .lst _, _, _, _, _, _, _ => pt_bad fun _ _ => by simp only [evT]
  | .ix _ _, _, _, _, _, _, _ => pt_bad fun _ _ => by simp only [evT]
  | .slc _ _ _, _, _, _, _, _, _ => pt_bad fun _ _ => by simp only [evT]
  | .lrg _ _, _, _, _, _, _, _ => pt_bad fun _ _ => by simp only [evT]
  | .trg _ _, _, _, _, _, _, _ => pt_bad fun _ _ => by simp only [evT]
  | .lc _ _ _ _ _, _, _, _, _, _, _ => pt_bad fun _ _ => by simp only [evT]
theorem sndEs {G : Gb} {CT : Str → Option Addr} : ∀ (m : MA) (X : Cx) (c : Sc) (W : WM) (es : List Expr), Cn X G CT c W → okEs c m es = true → PA X es (tMs X.K G W m)
  | .nil, X, c, W, [], C, h => s_nil
  | .nil, X, c, W, _ :: _, C, h => by simp [okEs] at h
  | .cons _ _, X, c, W, [], C, h => by simp [okEs] at h
  | .cons m ms, X, c, W, e :: es, C, h => by
    simp only [okEs, Bool.and_eq_true] at h
    exact s_cons (sndE m X c W _ C h.1.1) (sndEs ms X c W _ C h.2) h.1.2
theorem sndTs {G : Gb} {CT : Str → Option Addr} : ∀ (m : MA) (X : Cx) (c : Sc) (W : WM) (es : List Expr), Cn X G CT c W → okTs c m es = true → PTs X es (tMTs X.K G W m)
  | .nil, X, c, W, [], C, h => s_ts0
  | .nil, X, c, W, _ :: _, C, h => by simp [okTs] at h
  | .cons m ms, X, c, W, es, C, h => by
    simp only [okTs] at h
    split at h
    · simp only [Bool.and_eq_true] at h
      cases ms with
      | nil => exact s_ts1 (sndT m X c W _ C h.1)
      | cons _ _ => simp [isNilA] at h
    · cases h
theorem sndAnd {G : Gb} {CT : Str → Option Addr} : ∀ (m : MA) (X : Cx) (c : Sc) (W : WM) (es : List Expr) (pos : Pos), Cn X G CT c W → okEs c m es = true → PE X (.BoolOp .And es pos) (tMAnd X.K G W m)
  | .nil, X, c, W, es, pos, C, h => ⟨fun pins s σ H Q I ⟨ι, env, S, hr, he, q⟩ => by simp only [evAnd] at q; exact q.elim⟩
  | .cons m .nil, X, c, W, es, pos, C, h => by
    match es, h with
    | [], h => simp [okEs] at h
    | [e], h =>
      simp only [okEs, Bool.and_eq_true] at h
      exact s_and1 (sndE m X c W _ C h.1.1)
    | _ :: _ :: _, h => simp [okEs] at h
  | .cons m (.cons m' ms), X, c, W, es, pos, C, h => by
    match es, h with
    | [], h => simp [okEs] at h
    | [e], h => simp [okEs] at h
    | e :: e' :: es, h =>
      simp only [okEs, Bool.and_eq_true] at h
      exact s_and2 (sndE m X c W _ C h.1.1) (sndAnd (.cons m' ms) X c W (e' :: es) pos C (by simp only [okEs, Bool.and_eq_true]; exact h.2))
theorem sndOr {G : Gb} {CT : Str → Option Addr} : ∀ (m : MA) (X : Cx) (c : Sc) (W : WM) (es : List Expr) (pos : Pos), Cn X G CT c W → okEs c m es = true → PE X (.BoolOp .Or es pos) (tMOr X.K G W m)
  | .nil, X, c, W, es, pos, C, h => ⟨fun pins s σ H Q I ⟨ι, env, S, hr, he, q⟩ => by simp only [evOr] at q; exact q.elim⟩
  | .cons m .nil, X, c, W, es, pos, C, h => by
    match es, h with
    | [], h => simp [okEs] at h
    | [e], h =>
      simp only [okEs, Bool.and_eq_true] at h
      exact s_or1 (sndE m X c W _ C h.1.1)
    | _ :: _ :: _, h => simp [okEs] at h
  | .cons m (.cons m' ms), X, c, W, es, pos, C, h => by
    match es, h with
    | [], h => simp [okEs] at h
    | [e], h => simp [okEs] at h
    | e :: e' :: es, h =>
      simp only [okEs, Bool.and_eq_true] at h
      exact s_or2 (sndE m X c W _ C h.1.1) (sndOr (.cons m' ms) X c W (e' :: es) pos C (by simp only [okEs, Bool.and_eq_true]; exact h.2))
theorem sndTAnd {G : Gb} {CT : Str → Option Addr} : ∀ (m : MA) (X : Cx) (c : Sc) (W : WM) (es : List Expr) (pos : Pos), Cn X G CT c W → okEs c m es = true → PW X (.BoolOp .And es pos) (tTAnd X.K G W m)
  | .nil, X, c, W, es, pos, C, h => ⟨fun wh pins s σ H Q I ⟨ι, env, S, hr, he, q⟩ => by simp only [tAnd] at q; exact q.elim⟩
  | .cons m .nil, X, c, W, es, pos, C, h => by
    match es, h with
    | [], h => simp [okEs] at h
    | [e], h =>
      simp only [okEs, Bool.and_eq_true] at h
      exact s_andT1 (sndT m X c W _ C h.1.1)
    | _ :: _ :: _, h => simp [okEs] at h
  | .cons m (.cons m' ms), X, c, W, es, pos, C, h => by
    match es, h with
    | [], h => simp [okEs] at h
    | [e], h => simp [okEs] at h
    | e :: e' :: es, h =>
      simp only [okEs, Bool.and_eq_true] at h
      exact s_andT2 (sndT m X c W _ C h.1.1) (sndTAnd (.cons m' ms) X c W (e' :: es) pos C (by simp only [okEs, Bool.and_eq_true]; exact h.2))
theorem sndTOr {G : Gb} {CT : Str → Option Addr} : ∀ (m : MA) (X : Cx) (c : Sc) (W : WM) (es : List Expr) (pos : Pos), Cn X G CT c W → okEs c m es = true → PW X (.BoolOp .Or es pos) (tTOr X.K G W m)
  | .nil, X, c, W, es, pos, C, h => ⟨fun wh pins s σ H Q I ⟨ι, env, S, hr, he, q⟩ => by simp only [tOr] at q; exact q.elim⟩
  | .cons m .nil, X, c, W, es, pos, C, h => by
    match es, h with
    | [], h => simp [okEs] at h
    | [e], h =>
      simp only [okEs, Bool.and_eq_true] at h
      exact s_orT1 (sndT m X c W _ C h.1.1)
    | _ :: _ :: _, h => simp [okEs] at h
  | .cons m (.cons m' ms), X, c, W, es, pos, C, h => by
    match es, h with
    | [], h => simp [okEs] at h
    | [e], h => simp [okEs] at h
    | e :: e' :: es, h =>
      simp only [okEs, Bool.and_eq_true] at h
      exact s_orT2 (sndT m X c W _ C h.1.1) (sndTOr (.cons m' ms) X c W (e' :: es) pos C (by simp only [okEs, Bool.and_eq_true]; exact h.2))
theorem sndO {G : Gb} {CT : Str → Option Addr} : ∀ (m : MO) (X : Cx) (c : Sc) (W : WM) (e : Option Expr), Cn X G CT c W → okO c m e = true → PO X e (tMO X.K G W m)
  | .no, X, c, W, none, C, h => s_no
  | .no, X, c, W, some _, C, h => by simp [okO] at h
  | .yes _, X, c, W, none, C, h => by simp [okO] at h
  | .yes m, X, c, W, some e, C, h => by
    simp only [okO] at h
    exact s_yes (sndE m X c W e C h)
theorem sndI {G : Gb} {CT : Str → Option Addr} : ∀ (m : MI) (X : Cx) (c : Sc) (W : WM) (t e : Expr), Cn X G CT c W → okI c m t e = true → PI X t e (tMI X.K G W m)
  | .ex m, X, c, W, t, e, C, h => by
    simp only [okI] at h
    exact s_iex (sndE m X c W e C h)
  | .rng a b, X, c, W, t, e, C, h => by
    simp only [okI] at h
    split at h
    · simp only [Bool.and_eq_true, decide_eq_true_eq] at h
      obtain ⟨⟨⟨⟨⟨h0, h1⟩, h2⟩, h3⟩, h4⟩, h5⟩ := h
      exact s_irng2 C h0 h1 (sndE a X c W _ C h2) (sndE b X c W _ C h3) h4 h5
    · simp only [Bool.and_eq_true, decide_eq_true_eq] at h
      obtain ⟨⟨⟨⟨h0, h1⟩, h2⟩, h3⟩, h4⟩ := h
      exact s_irng1 C h0 h1 h2 (sndE b X c W _ C h3) h4
    · cases h
  | .enm m, X, c, W, t, e, C, h => by
    simp only [okI] at h
    split at h
    · simp only [Bool.and_eq_true, decide_eq_true_eq] at h
      obtain ⟨⟨⟨⟨h0, h1⟩, h2⟩, h3⟩, h4⟩ := h
      exact s_ienm C h0 h1 (sndE m X c W _ C h2) h3 h4
    · cases h
  | .zip a b, X, c, W, t, e, C, h => by
    simp only [okI] at h
    split at h
    · simp only [Bool.and_eq_true, decide_eq_true_eq] at h
      obtain ⟨⟨⟨⟨⟨⟨h0, h1⟩, h2⟩, h3⟩, h4⟩, h5⟩, h6⟩ := h
      exact s_izip C h0 h1 (sndE a X c W _ C h2) (sndE b X c W _ C h3) h4 h5 h6
    · cases h
theorem sndG {G : Gb} {CT : Str → Option Addr} : ∀ (m : MG) (X : Cx) (c : Sc) (W : WM) (e : Expr), Cn X G CT c W → okG c m e = true → PG X e (tMG X.K G m)
  | .nm i, X, c, W, e, C, h => by
    have h' := h
    simp only [okG] at h'
    split at h'
    · exact s_gnm C h
    · cases h'
  | .tup gs, X, c, W, e, C, h => by
    simp only [okG] at h
    split at h
    · exact s_gtup C h (sndGs gs X c W _ C h)
    · cases h
  | .sub o i, X, c, W, e, C, h => by
    simp only [okG] at h
    split at h
    · simp only [Bool.and_eq_true] at h
      exact s_gsub C (sndE o X c W _ C h.1.1) (sndE i X c W _ C h.1.2) h.2
    · cases h
theorem sndGs {G : Gb} {CT : Str → Option Addr} : ∀ (m : MGs) (X : Cx) (c : Sc) (W : WM) (es : List Expr), Cn X G CT c W → okGs c m es = true → PGs X es (tMGs X.K G m)
  | .nil, X, c, W, [], C, h => s_gnil
  | .nil, X, c, W, _ :: _, C, h => by simp [okGs] at h
  | .cons _ _, X, c, W, [], C, h => by simp [okGs] at h
  | .cons g gs, X, c, W, e :: es, C, h => by
    simp only [okGs, Bool.and_eq_true] at h
    exact s_gcons (sndG g X c W _ C h.1.1) (sndGs gs X c W _ C h.2) h.1.2
end
end Mi
set_option Elab.async false
set_option linter.all false
set_option maxRecDepth 100000
set_option maxHeartbeats 400000
/-! Mi8: statements. -/
namespace Mi
open PySem L2
open PyProof.Rows (ite_tt ite_ff)

def noE : EM := fun _ _ _ _ _ => False
/-- what is wanted of a statement's end -/
def FlOk (K : PySem.W.Frag) (W : WM) (D : Ends) : Fl → Sto → List Addr → Hp → Prop
  | .nx env, _, ι, H => ∀ σ, EnvRep K ι H env σ → D.nx σ H
  | .rt d, _, ι, H => ∀ v, Rep K ι H d v → D.rt v H
  | .bk env, _, ι, H => ∀ σ, EnvRep K ι H env σ → D.bk σ H
  | .ct env, _, ι, H => ∀ σ, EnvRep K ι H env σ → D.ct σ H
  | .xc c fs env, S, ι, H => ∀ σ, EnvRep K ι H env σ → W σ c fs S ι H
def tMS (K : PySem.W.Frag) (G : Gb) (W : WM) (m : MS) : TS := fun D σ H => ∃ ι env S, HRep K ι S H ∧ EnvRep K ι H env σ ∧ Pst K (ex G m env S) ι H (FlOk K W D) noE
def tMSs (K : PySem.W.Frag) (G : Gb) (W : WM) (m : List MS) : TS := fun D σ H => ∃ ι env S, HRep K ι S H ∧ EnvRep K ι H env σ ∧ Pst K (exs G m env S) ι H (FlOk K W D) noE

theorem PS.mono {X : Cx} {e : Stmt} {t t' : TS} (h : PS X e t) (k : ∀ D σ H, t' D σ H → t D σ H) : PS X e t' := ⟨fun pins s σ H D I q => h.run pins s σ H D I (k D σ H q)⟩
theorem PSs.mono {X : Cx} {e : List Stmt} {t t' : TS} (h : PSs X e t) (k : ∀ D σ H, t' D σ H → t D σ H) : PSs X e t' := ⟨fun pins s σ H D I q => h.run pins s σ H D I (k D σ H q)⟩

section
variable {K : PySem.W.Frag} {G : Gb} {W : WM} {ι : List Addr} {env : Env} {S : Sto} {σ : L2.St} {H : Hp} {α : Type} {D : Ends}
theorem at_seq {r : Res α} {f : α → Sto → Res Fl} (hr : HRep K ι S H) (he : EnvRep K ι H env σ) (p : Pst K (atE env r f) ι H (FlOk K W D) noE) : Pst K r ι H (fun a S1 ι1 H1 => Pst K (f a S1) ι1 H1 (FlOk K W D) noE) (W σ) := by
  cases r with
  | ok a S1 => exact fun ι2 H2 e2 r2 => Pst.ext (r := f a S1) p e2
  | exc c fs S1 => exact fun ι2 H2 e2 r2 => p ι2 H2 e2 r2 σ (he.ext hr e2)
  | bad => exact p
theorem st1 {a : ME} {f : Mi.D → Sto → Res Fl} (hr : HRep K ι S H) (he : EnvRep K ι H env σ) (p : Pst K (atE env (ev G a env S) f) ι H (FlOk K W D) noE) :
    tM K G W a σ H fun x H1 => ∃ ι1 S1 dx, Ext ι H ι1 H1 ∧ HRep K ι1 S1 H1 ∧ EnvRep K ι1 H1 env σ ∧ Rep K ι1 H1 dx x ∧ Pst K (f dx S1) ι1 H1 (FlOk K W D) noE :=
  ⟨ι, env, S, hr, he, (at_seq hr he p).mono (fun dx S1 ι1 H1 e1 r1 p1 x qx => ⟨ι1, S1, dx, e1, r1, he.ext hr e1, qx, p1⟩) fun _ _ _ _ _ _ _ h => h⟩
theorem stT {a : ME} {f : Bool → Sto → Res Fl} (hr : HRep K ι S H) (he : EnvRep K ι H env σ) (p : Pst K (atE env (evT G a env S) f) ι H (FlOk K W D) noE) :
    tMT K G W a σ H fun b H1 => ∃ ι1 S1, HRep K ι1 S1 H1 ∧ EnvRep K ι1 H1 env σ ∧ Pst K (f b S1) ι1 H1 (FlOk K W D) noE :=
  ⟨ι, env, S, hr, he, (at_seq hr he p).mono (fun b S1 ι1 H1 e1 r1 p1 => ⟨ι1, S1, r1, he.ext hr e1, p1⟩) fun _ _ _ _ _ _ _ h => h⟩
theorem stI {a : MI} {f : Src → Sto → Res Fl} (hr : HRep K ι S H) (he : EnvRep K ι H env σ) (p : Pst K (atE env (evI G a env S) f) ι H (FlOk K W D) noE) :
    tMI K G W a σ H fun J H1 => ∃ ι1 S1 src, HRep K ι1 S1 H1 ∧ EnvRep K ι1 H1 env σ ∧ Drives K J (srcG src) ι1 H1 ∧ Pst K (f src S1) ι1 H1 (FlOk K W D) noE :=
  ⟨ι, env, S, hr, he, (at_seq hr he p).mono (fun b S1 ι1 H1 e1 r1 p1 J dr => ⟨ι1, S1, b, r1, he.ext hr e1, dr, p1⟩) fun _ _ _ _ _ _ _ h => h⟩
/-- the end of a turn -/
theorem turn_fl {r : Res Fl} {k : Env → Sto → Res Fl} {N : L2.St → Hp → Prop} {ι0 : List Addr} {H0 : Hp} (e0 : Ext ι0 H0 ι H) (p : Pst K (r.bind fun f S => turnEnd f S k) ι H (FlOk K W D) noE)
    (hN : ∀ ι' env' S' σ' H', Ext ι0 H0 ι' H' → HRep K ι' S' H' → EnvRep K ι' H' env' σ' → Pst K (k env' S') ι' H' (FlOk K W D) noE → N σ' H') :
    Pst K r ι H (FlOk K W { D with nx := N, ct := N, bk := D.nx }) noE := by
  refine p.bind.mono (fun f S1 ι1 H1 e1 r1 p1 => ?_) fun _ _ _ _ _ _ _ h => h
  cases f with
  | nx env' => exact fun σ' he' => hN ι1 env' S1 σ' H1 (e0.trans e1) r1 he' p1
  | ct env' => exact fun σ' he' => hN ι1 env' S1 σ' H1 (e0.trans e1) r1 he' p1
  | bk env' => exact fun σ' he' => (Pst.ok p1 r1) σ' he'
  | rt d => exact fun v q => (Pst.ok p1 r1) v q
  | xc c fs env' => exact fun σ' he' => (Pst.ok p1 r1) σ' he'
end
theorem forFix_live (st : D → Env → Sto → Res Env) (bd : Env → Sto → Res Fl) (xs : List D) : ∀ (i : Nat) (env : Env) (S : Sto), i ≤ xs.length → forFix st bd (xs.drop i) env S = forLive st bd (fun _ => some xs) (xs.length - i) i env S := by
  intro i
  generalize hk : xs.length - i = k
  induction k generalizing i with
  | zero =>
    intro acc S hi
    have e : i = xs.length := by omega
    subst e
    simp [forFix, forLive, grd]
  | succ k ih =>
    intro acc S hi
    have hlt : i < xs.length := by omega
    rw [List.drop_eq_getElem_cons hlt]
    simp only [forFix, forLive, List.getElem?_eq_getElem hlt]
    congr 1
    funext acc S
    congr 1
    funext f S
    congr 1
    funext acc S
    exact ih (i + 1) (by omega) acc S (by omega)
theorem for_src (st : D → Env → Sto → Res Env) (bd : Env → Sto → Res Fl) (src : Src) (env : Env) (S : Sto) : (match src with | .fix xs => forFix st bd xs env S | .live g n => forLive st bd g n 0 env S) = forLive st bd (srcG src) (srcN src) 0 env S := by
  cases src with
  | fix xs =>
    have h := forFix_live st bd xs 0 env S (Nat.zero_le _)
    rw [List.drop_zero, Nat.sub_zero] at h
    exact h
  | live g n => rfl

/-! ### what may stand on the right of = -/
def noComp : Expr → Bool
  | .ListComp _ _ _ _ => false
  | .SetComp _ _ _ _ => false
  | .DictComp _ _ _ _ _ => false
  | _ => true
theorem sw_no {e : Expr} {t : Option Expr} {l : Nat} {env : PySem.Env} (h : noComp e = true) : swapsWith e t l env = pure false := by
  cases e <;> first | rfl | cases h
/-- names of the targets, as the stores are exchanged -/
def swNames (sc : Scope) (ts : List Expr) : List Str := ts.filterMap fun e => match e with
  | .Name id pos => if sc.names.lookup id == some .local && pos.line == (ts.head?.map (·.pos.line)).getD 0 then some id else none
  | _ => none
/-- no stores are exchanged -/
def noSwap (sc : Scope) (ts vs : List Expr) : Bool := !(ts.length == 2 || ts.length == 3) || vs.length != ts.length || (swNames sc ts).length != ts.length || (swNames sc ts).eraseDups.length != (swNames sc ts).length || vs.all (foldedForSure 8)
theorem noSwap_ok {sc : Scope} {ts vs : List Expr} {k k' : Nat} {p p' : Pos} {env : PySem.Env} (hsc : env.scope = sc) (h : noSwap sc ts vs = true) : swappedStores [.Tuple ts k p] (.Tuple vs k' p') env = pure none := by
  subst hsc
  unfold swappedStores
  simp only []
  split
  · rfl
  · rename_i c1
    split
    · rfl
    · split
      · rfl
      · rename_i c3
        split
        · rfl
        · rename_i c4
          exfalso
          unfold noSwap at h
          simp only [Bool.or_eq_true] at h
          rcases h with (((h | h) | h) | h) | h
          · apply c1; rw [h]; rfl
          · apply c1; rw [h]; simp
          · apply c3; exact Bool.or_eq_true_iff.mpr (.inl h)
          · apply c3; exact Bool.or_eq_true_iff.mpr (.inr h)
          · exact c4 h
/-- two names' stores are exchanged -/
theorem swap2_ok {sc : Scope} {x y : Str} {a b : Expr} {k k' : Nat} {p p' px py : Pos} {env : PySem.Env} (hsc : env.scope = sc) (hk : env.scope.kind = .function) (hx : sc.names.lookup x = some .local) (hy : sc.names.lookup y = some .local) (hl : (py.line == px.line) = true) (hxy : (x == y) = false)
    (h1 : ([a, b].all (foldedForSure 8)) = false) (h2 : ([a, b].all (constantsAlone 8)) = false) (ha : noStar a = true) (hb : noStar b = true) : swappedStores [.Tuple [.Name x px, .Name y py] k p] (.Tuple [a, b] k' p') env = pure (some [x, y]) := by
  subst hsc
  have kx : env.kindOf x = some .local := hx
  have ky : env.kindOf y = some .local := hy
  have hbk : env.blockKind = .function := by unfold PySem.Env.blockKind; rw [hk]; rfl
  have st : ([a, b].any fun | .Starred .. => true | _ => false) = false := by
    cases a <;> cases b <;> first | rfl | (cases ha; done) | (cases hb; done)
  have hxy' : (y == x) = false := by
    cases q : y == x with
    | false => rfl
    | true =>
      have : y = x := by simpa using q
      rw [this] at hxy
      simp at hxy
  have hp : (px.line == px.line) = true := by simp
  have hq : (some NameKind.local == some NameKind.local) = true := by decide
  unfold swappedStores
  simp only [hbk, h1, h2, kx, ky, hl, Expr.pos, List.head?_cons, Option.map_some, Option.getD_some, List.filterMap_cons, List.filterMap_nil, hq, hp, Bool.and_self, if_true]
  split
  · rename_i c; simp at c
  · split
    · rename_i c; exact absurd (st.symm.trans c) Bool.false_ne_true
    · split
      · rename_i c
        simp [List.eraseDups_cons, hxy', hxy] at c
      · simp

/-! ### statements, one by one -/
section
variable {X : Cx} {G : Gb} {CT : Str → Option Addr} {c : Sc} {W : WM} {a e : Expr} {m : ME} {pos : Pos}
theorem s_expr (he : PE X e (tM X.K G W m)) (hn : noComp e = true) : PS X (.Expr e pos) (tMS X.K G W (.expr m)) := by
  refine PS.mono (ps_expr he (sw_no hn)) fun D σ H ⟨ι, env, S, hr, hE, p⟩ => ?_
  obtain ⟨ι0, env0, S0, hr0, he0, p0⟩ := st1 hr hE (by simp only [ex] at p; exact p)
  exact ⟨ι0, env0, S0, hr0, he0, p0.mono (fun t S1 ι1 H1 e1 r1 f1 x qx => by
    obtain ⟨ι2, S2, d, _, r2, e2, qd, pp⟩ := f1 x qx
    exact Pst.ok pp r2 σ e2) fun _ _ _ _ _ _ _ h => h⟩
theorem s_ret (he : PE X e (tM X.K G W m)) : PS X (.Return (some e) pos) (tMS X.K G W (.ret m)) := by
  refine PS.mono (ps_ret he) fun D σ H ⟨ι, env, S, hr, hE, p⟩ => ?_
  obtain ⟨ι0, env0, S0, hr0, he0, p0⟩ := st1 hr hE (by simp only [ex] at p; exact p)
  exact ⟨ι0, env0, S0, hr0, he0, p0.mono (fun t S1 ι1 H1 e1 r1 f1 x qx => by
    obtain ⟨ι2, S2, d, _, r2, e2, qd, pp⟩ := f1 x qx
    exact Pst.ok pp r2 x qd) fun _ _ _ _ _ _ _ h => h⟩
theorem s_retN : PS X (.Return none pos) (tMS X.K G W .retN) := PS.mono ps_retN fun D σ H ⟨ι, env, S, hr, hE, p⟩ => by
  simp only [ex] at p
  exact Pst.ok p hr .non rfl
theorem s_pass : PS X (.Pass pos) (tMS X.K G W .pass) := PS.mono ps_pass fun D σ H ⟨ι, env, S, hr, hE, p⟩ => by
  simp only [ex] at p
  exact Pst.ok p hr σ hE
theorem s_brk : PS X (.Break pos) (tMS X.K G W .brk) := PS.mono ps_break fun D σ H ⟨ι, env, S, hr, hE, p⟩ => by
  simp only [ex] at p
  exact Pst.ok p hr σ hE
theorem s_cnt : PS X (.Continue pos) (tMS X.K G W .cnt) := PS.mono ps_continue fun D σ H ⟨ι, env, S, hr, hE, p⟩ => by
  simp only [ex] at p
  exact Pst.ok p hr σ hE
theorem s_if {l r : List Stmt} {ml mr : List MS} (hc : PT X e (tMT X.K G W m)) (hl : PSs X l (tMSs X.K G W ml)) (hr' : PSs X r (tMSs X.K G W mr)) : PS X (.If e l r pos) (tMS X.K G W (.ite m ml mr)) := by
  refine PS.mono (ps_if hc hl hr') fun D σ H ⟨ι, env, S, hr, hE, p⟩ => ?_
  obtain ⟨ι0, env0, S0, hr0, he0, p0⟩ := stT hr hE (by simp only [ex] at p; exact p)
  refine ⟨ι0, env0, S0, hr0, he0, p0.mono (fun t S1 ι1 H1 e1 r1 ⟨ι2, S2, r2, e2, p2⟩ => ?_) fun _ _ _ _ _ _ _ h => h⟩
  cases t with
  | true => exact ite_tt ⟨ι2, env, S2, r2, e2, p2⟩
  | false => exact ite_ff ⟨ι2, env, S2, r2, e2, p2⟩
/-- the target's part -/
theorem asg_tail {g : MG} {D : Ends} {σ : L2.St} {H : Hp} {ι : List Addr} {env : Env} {S : Sto} {d : Mi.D} {v : V} (hr : HRep X.K ι S H) (he : EnvRep X.K ι H env σ) (q : Rep X.K ι H d v)
    (p : Pst X.K ((calmly (asgG G g d env S)).bind fun env S => .ok (.nx env) S) ι H (FlOk X.K W D) noE) : tMG X.K G g v σ H D.nx :=
  ⟨ι, env, S, d, hr, he, q, p.bind.calm.mono (fun env' S1 ι1 H1 e1 r1 p1 σ' he' _ => Pst.ok p1 r1 σ' he') fun _ _ _ _ _ _ _ h => h⟩
theorem s_asg {t : Expr} {g : MG} (he : PE X e (tM X.K G W m)) (hg : PG X t (tMG X.K G g)) (hn : noComp e = true) (hw : swappedStores [t] e X.env = pure none) (ht : noStar t = true) : PS X (.Assign [t] e pos) (tMS X.K G W (.asg g m)) := by
  refine PS.mono (ps_asg he hg (sw_no hn) hw (by rw [each_of ht]; rfl)) fun D σ H ⟨ι, env, S, hr, hE, p⟩ => ?_
  obtain ⟨ι0, env0, S0, hr0, he0, p0⟩ := st1 hr hE (by simp only [ex] at p; exact p)
  exact ⟨ι0, env0, S0, hr0, he0, p0.mono (fun t S1 ι1 H1 e1 r1 f1 x qx => by
    obtain ⟨ι2, S2, d, _, r2, e2, qd, pp⟩ := f1 x qx
    exact asg_tail r2 e2 qd pp) fun _ _ _ _ _ _ _ h => h⟩
/-- name = [.. for ..] -/
theorem s_setLc {el tgt it : Expr} {ifs : List Expr} {scope : Scope} {own : List Nat} {melt : ME} {mg : MG} {mi : MI} {mt : MA} {z : Int} {i : Nat} {y : Str} {py spos : Pos} (C : Cn X G CT c W) (hk : X.env.scope.kind = .function) (hz : z = 0) (hb : blkC c.N c.sc scope (ownOf c.N own) = true) (hi : PI X tgt it (tMI X.K G W mi)) (hn : noSet it = true) (hw : ownG own mg = true)
    (hg : ∀ X' : Cx, X'.K = X.K → Cn X' G CT (inner c scope) noW → PG X' tgt (tMG X'.K G mg)) (ht : ∀ X' : Cx, X'.K = X.K → Cn X' G CT (inner c scope) noW → PTs X' ifs (tMTs X'.K G noW mt)) (he : ∀ X' : Cx, X'.K = X.K → Cn X' G CT (inner c scope) noW → PE X' el (tM X'.K G noW melt))
    (hy : c.N[i]? = some y) (hyl : c.sc.names.lookup y = some .local) (hl : (py.line == pos.line) = true) (hany : (scope.names.any fun (n, k) => n == y && (k == .local || k == .cell)) = false) :
    PS X (.Assign [.Name y py] (.ListComp el [⟨tgt, it, ifs, z⟩] scope pos) spos) (tMS X.K G W (.asg (.nm i) (.lc melt mg mi mt own))) := by
  subst hz
  have cn := fun (s : Shared) (H : Hp) (C1 : Addr) (cl : List (Str × Addr)) (fp : List Addr) => cn_blk (scope := scope) C s H C1 cl fp
  have ok : BlkOk X.N X.env.scope scope (ownOf c.N own) := by
    rw [C.nn, C.sc]
    exact blkOk_by hb
  have ew : (ownOf c.N own).map (·.2) = own := by
    unfold ownOf
    rw [List.map_map]
    exact List.map_id _
  refine PS.mono (ps_setLc (i := i) (own := ownOf c.N own) (g := tMG X.K G mg) (tt := tMTs X.K G noW mt) (te := tM X.K G noW melt) C.calm C.nd (by rw [C.nn]; exact hy) (by rw [C.sc]; exact hyl) (sw_true hk (by rw [C.sc]; exact hyl) hl hany) hi ok
    (fun s H C1 cl fp => hg (X.blk s H scope (compEnvC scope cl C1 X.env) fp) rfl (cn s H C1 cl fp)) (fun s H C1 cl fp => ht (X.blk s H scope (compEnvC scope cl C1 X.env) fp) rfl (cn s H C1 cl fp)) (fun s H C1 cl fp => he (X.blk s H scope (compEnvC scope cl C1 X.env) fp) rfl (cn s H C1 cl fp)) (fun x => by cases it <;> first | rfl | cases hn)) fun D σ H ⟨ι, env, S, hr, hE, p⟩ => ?_
  obtain ⟨ι0, env0, S0, hr0, he0, p0⟩ := st1 hr hE (by simp only [ex] at p; exact p)
  show tLc _ _ _ _ _ σ H _
  rw [ew]
  refine lc_read hw ⟨ι0, env0, S0, hr0, he0, p0.mono (fun t S1 ι1 H1 e1 r1 f1 x qx => ?_) fun _ _ _ _ _ _ _ h => h⟩
  obtain ⟨ι2, S2, d, _, r2, e2, qd, pp⟩ := f1 x qx
  simp only [asgG] at pp
  exact Pst.ok pp r2 (σ.set i (some x)) (e2.set qd i)
theorem s_aug {i : Nat} {x : Str} {op : Operator} {p : Pos} (C : Cn X G CT c W) (hx : okG c (.nm i) (.Name x p) = true) (he : PE X e (tM X.K G W m)) (ho : op = .Add ∨ op = .Sub) : PS X (.AugAssign (.Name x p) op e pos) (tMS X.K G W (.aug i op m)) := by
  simp only [okG, Bool.and_eq_true, Bool.or_eq_true, decide_eq_true_eq, List.contains_iff_mem] at hx
  have hx' : Loc X.env.scope x := by
    rw [C.sc]
    rcases hx.2 with z | z
    · exact .inl z
    · exact .inr z.1
  have hf : X.fn x = true ∨ X.env.scope.names.lookup x = some .local := by
    rcases hx.2 with z | z
    · exact .inr (by rw [C.sc]; exact z)
    · exact .inl (C.fn x z.2)
  have run : ∀ (f : Int → Int → Int), (∀ a b, augD op (.int a) (.int b) = some (.int (f a b))) → (∀ a b z, augD op a b = some z → ∃ i j, a = .int i ∧ b = .int j) → PIp X op (ipI f) → PS X (.AugAssign (.Name x p) op e pos) (tMS X.K G W (.aug i op m)) := fun f h1 h2 h3 => by
    refine PS.mono (ps_aug (i := i) C.nd (by rw [C.nn]; exact hx.1) hx' he h3 hf) fun D σ H ⟨ι, env, S, hr, hE, q⟩ => ?_
    simp only [ex] at q
    obtain ⟨d, ed, q⟩ := Pst.opt q
    have ed' : env[i]? = some (some d) := by
      unfold lookE at ed
      cases z : env[i]? with
      | none => rw [z] at ed; cases ed
      | some o => rw [z] at ed; simp at ed; rw [ed]
    obtain ⟨v, hv, rv⟩ := hE.2 i d ed'
    refine ⟨v, hv, ?_⟩
    obtain ⟨ι0, env0, S0, hr0, he0, p0⟩ := st1 hr hE q
    refine ⟨ι0, env0, S0, hr0, he0, p0.mono (fun t S1 ι1 H1 e1 r1 f1 y qy => ?_) fun _ _ _ _ _ _ _ h => h⟩
    obtain ⟨ι2, S2, d2, x2, r2, e2, qd, pp⟩ := f1 y qy
    obtain ⟨z, ez, pp⟩ := Pst.opt pp
    obtain ⟨i1, j1, rfl, rfl⟩ := h2 _ _ _ ez
    rw [h1] at ez
    cases ez
    cases rv
    cases qd
    exact ⟨_, _, rfl, rfl, Pst.ok pp r2 _ (e2.set (d := .int (f i1 j1)) (v := .int (f i1 j1)) rfl i)⟩
  rcases ho with rfl | rfl
  · refine run (fun i j => i + j) (fun _ _ => rfl) (fun a b z h => ?_) ip_add
    cases a <;> cases b <;> first | cases h; done | exact ⟨_, _, rfl, rfl⟩
  · refine run (fun i j => i - j) (fun _ _ => rfl) (fun a b z h => ?_) ip_sub
    cases a <;> cases b <;> first | cases h; done | exact ⟨_, _, rfl, rfl⟩
theorem s_for {tg it : Expr} {body : List Stmt} {g : MG} {mi : MI} {mb : List MS} (C : Cn X G CT c W) (hp : PassesOwn (model X.prog X.w) X.A X.env X.xe) (hi : PI X tg it (tMI X.K G W mi)) (hg : PG X tg (tMG X.K G g)) (hb : PSs X body (tMSs X.K G W mb)) (hn : noSet it = true) :
    PS X (.For tg it body [] pos) (tMS X.K G W (.forr g mi mb)) := by
  refine PS.mono (ps_for hp C.calm hi hg hb (fun x => by cases it <;> first | rfl | cases hn)) fun D σ H ⟨ι, env, S, hr, hE, p⟩ => ?_
  obtain ⟨ι0, env0, S0, hr0, he0, p0⟩ := stI hr hE (by simp only [ex] at p; exact p)
  refine ⟨ι0, env0, S0, hr0, he0, p0.mono (fun t S1 ι1 H1 e1 r1 f1 J dr => ?_) fun _ _ _ _ _ _ _ h => h⟩
  obtain ⟨ι2, S2, src, r2, e2, dr2, pp⟩ := f1 J dr
  have pp : Pst X.K (forLive (asgG G g) (exs G mb) (srcG src) (srcN src) 0 env S2) ι2 H1 (FlOk X.K W D) noE := by
    rw [← for_src]
    exact pp
  refine ⟨fun i m σ' H' => ∃ ι3 env3 S3, Ext ι2 H1 ι3 H' ∧ HRep X.K ι3 S3 H' ∧ EnvRep X.K ι3 H' env3 σ' ∧ Pst X.K (forLive (asgG G g) (exs G mb) (srcG src) m i env3 S3) ι3 H' (FlOk X.K W D) noE, ⟨srcN src, ι2, env, S2, Ext.refl _ _, r2, e2, pp⟩, ?_⟩
  rintro i m σ' H' ⟨ι3, env3, S3, x3, r3, e3, p3⟩
  cases m with
  | zero =>
    simp only [forLive] at p3
    split at p3
    · rename_i xs hxs
      obtain ⟨hl, p3⟩ := Pst.grd p3
      exact .inl ⟨(dr2 ι3 S3 H' i xs x3 r3 hxs).2 hl, Pst.ok p3 r3 σ' e3⟩
    · exact p3.elim
  | succ k =>
    simp only [forLive] at p3
    split at p3
    · rename_i xs hxs
      split at p3
      · rename_i x hx
        obtain ⟨hgo, hy⟩ := (dr2 ι3 S3 H' i xs x3 r3 hxs).1 x hx
        refine .inr ⟨hgo, fun σ4 H4 => ∃ ι3 env3 S3, Ext ι2 H1 ι3 H4 ∧ HRep X.K ι3 S3 H4 ∧ EnvRep X.K ι3 H4 env3 σ4 ∧ Pst X.K (forLive (asgG G g) (exs G mb) (srcG src) k (i + 1) env3 S3) ι3 H4 (FlOk X.K W D) noE, fun σ4 H4 w => ⟨k, Nat.lt_succ_self _, w⟩, fun v H5 y => ?_⟩
        obtain ⟨x5, r5, qv⟩ := hy v H5 y
        refine ⟨ι3, env3, S3, x, r5, e3.ext r3 x5, qv, (p3.ext x5).bind.calm.mono (fun env6 S6 ι6 H6 e6 r6 p6 σ6 he6 _ => ⟨ι6, env6, S6, r6, he6, ?_⟩) fun _ _ _ _ _ _ _ h => h⟩
        exact turn_fl ((x3.trans x5).trans e6) p6 fun ι' env' S' σ'' H'' a1 a2 a3 a4 => ⟨ι', env', S', a1, a2, a3, a4⟩
      · exact p3.elim
    · exact p3.elim
theorem s_while {body : List Stmt} {mb : List MS} (hp : PassesOwn (model X.prog X.w) X.A X.env X.xe) (hc : PT X e (tMT X.K G W m)) (hb : PSs X body (tMSs X.K G W mb)) : PS X (.While e body [] pos) (tMS X.K G W (.whil m mb)) := by
  refine PS.mono (ps_while hp hc hb) fun D σ H ⟨ι, env, S, hr, hE, p⟩ => ?_
  simp only [ex] at p
  refine ⟨fun n σ' H' => ∃ ι env S, HRep X.K ι S H' ∧ EnvRep X.K ι H' env σ' ∧ Pst X.K (whileM (evT G m) (exs G mb) n env S) ι H' (FlOk X.K W D) noE, ⟨G.fuel, ι, env, S, hr, hE, p⟩, ?_⟩
  rintro n σ' H' ⟨ι3, env3, S3, r3, e3, p3⟩
  cases n with
  | zero => exact p3.elim
  | succ k =>
    simp only [whileM] at p3
    obtain ⟨ι0, env0, S0, hr0, he0, p0⟩ := stT r3 e3 p3
    refine ⟨ι0, env0, S0, hr0, he0, p0.mono (fun t S1 ι1 H1 e1 r1 ⟨ι2, S2, r2, e2, p2⟩ => ?_) fun _ _ _ _ _ _ _ h => h⟩
    cases t with
    | true =>
      refine ite_tt ⟨fun σ4 H4 => ∃ ι env S, HRep X.K ι S H4 ∧ EnvRep X.K ι H4 env σ4 ∧ Pst X.K (whileM (evT G m) (exs G mb) k env S) ι H4 (FlOk X.K W D) noE, fun σ4 H4 w => ⟨k, Nat.lt_succ_self _, w⟩, ι2, env3, S2, r2, e2, ?_⟩
      exact turn_fl (Ext.refl _ _) p2 fun ι' env' S' σ'' H'' a1 a2 a3 a4 => ⟨ι', env', S', a2, a3, a4⟩
    | false => exact ite_ff (Pst.ok p2 r2 σ' e2)
theorem s_snil : PSs X [] (tMSs X.K G W []) := PSs.mono pss_nil fun D σ H ⟨ι, env, S, hr, hE, p⟩ => by
  simp only [exs] at p
  exact Pst.ok p hr σ hE
theorem s_scons {st : Stmt} {r : List Stmt} {ms : MS} {mr : List MS} (h1 : PS X st (tMS X.K G W ms)) (h2 : PSs X r (tMSs X.K G W mr)) : PSs X (st :: r) (tMSs X.K G W (ms :: mr)) := by
  refine PSs.mono (pss_cons h1 h2) fun D σ H ⟨ι, env, S, hr, hE, p⟩ => ?_
  simp only [exs] at p
  refine ⟨ι, env, S, hr, hE, p.bind.mono (fun f S1 ι1 H1 e1 r1 p1 => ?_) fun _ _ _ _ _ _ _ h => h⟩
  cases f with
  | nx env' => exact fun σ' he' => ⟨ι1, env', S1, r1, he', p1⟩
  | ct env' => exact fun σ' he' => (Pst.ok p1 r1) σ' he'
  | bk env' => exact fun σ' he' => (Pst.ok p1 r1) σ' he'
  | rt d => exact fun v q => (Pst.ok p1 r1) v q
  | xc c fs env' => exact fun σ' he' => (Pst.ok p1 r1) σ' he'
/-- x, y = a, b -/
theorem s_par {x y : Str} {a b : Expr} {i j : Nat} {es : MA} {px py pt : Pos} {kt k2 : Nat} {pt2 : Pos} (C : Cn X G CT c W) (hk : X.env.scope.kind = .function) (hi : c.N[i]? = some x) (hj : c.N[j]? = some y) (hij : i ≠ j) (hx : c.sc.names.lookup x = some .local) (hy : c.sc.names.lookup y = some .local)
    (hl : (py.line == px.line) = true) (hxy : (x == y) = false) (h1 : ([a, b].all (foldedForSure 8)) = false) (h2 : ([a, b].all (constantsAlone 8)) = false) (hs : noStars [a, b] = true) (ha : PA X [a, b] (tMs X.K G W es)) :
    PS X (.Assign [.Tuple [.Name x px, .Name y py] kt pt] (.Tuple [a, b] k2 pt2) pos) (tMS X.K G W (.asg (.tup (.cons (.nm i) (.cons (.nm j) .nil))) (.tup es))) := by
  simp only [noStars, Bool.and_eq_true] at hs
  refine PS.mono (ps_par C.calm C.nd (by rw [C.nn]; exact hi) (by rw [C.nn]; exact hj) hij (by rw [C.sc]; exact hx) (by rw [C.sc]; exact hy) ha (swap2_ok C.sc hk hx hy hl hxy h1 h2 hs.1 hs.2.1)) fun D σ H ⟨ι, env, S, hr, hE, p⟩ => ?_
  simp only [ex, ev] at p
  obtain ⟨ι0, env0, S0, hr0, he0, p0⟩ := seqA hr hE (at_seq hr hE p)
  refine ⟨ι0, env0, S0, hr0, he0, p0.mono (fun t S1 ι1 H1 e1 r1 f1 vs qs => ?_) fun _ _ _ _ _ _ _ h => h⟩
  obtain ⟨ι2, S2, ds, _, r2, e2, q2, pp⟩ := f1 vs qs
  obtain ⟨_, pp⟩ := Pst.grd pp
  have p3 := Pst.ok pp r2
  simp only [asgG] at p3
  obtain ⟨env', S4, hst, p4⟩ := calmly_inv p3
  obtain ⟨hlen, hst⟩ := grd_inv hst
  match ds, hlen, q2 with
  | [d1, d2], _, q2 =>
    obtain ⟨v, w, rfl, rv, rw'⟩ := reps2 q2
    simp only [asgGs, asgG, Res.bind_ok] at hst
    cases hst
    exact ⟨v, w, rfl, Pst.ok p4 r2 _ ((e2.set rv i).set rw' j)⟩
end

/-! ### the checker of statements -/
/-- how an assignment is checked: by the stores exchanged, by a comprehension, or plainly -/
def okAsg (c : Sc) (g : MG) (m : ME) (t e : Expr) : Bool := match t, e with
  | .Name y py, .ListComp _ [⟨_, _, _, _⟩] scope pos => okE c m e && (match g with
    | .nm i => decide (c.N[i]? = some y) && decide (c.sc.names.lookup y = some .local) && (py.line == pos.line) && !(scope.names.any fun (n, k) => n == y && (k == .local || k == .cell))
    | _ => false)
  | .Tuple ts _ _, .Tuple vs _ _ => okG c g t && okE c m e && (noSwap c.sc ts vs || (match ts, vs, g, m with
    | [.Name x px, .Name y py], [a, b], .tup (.cons (.nm i) (.cons (.nm j) .nil)), .tup _ => decide (i ≠ j) && decide (c.sc.names.lookup x = some .local) && decide (c.sc.names.lookup y = some .local) && (py.line == px.line) && !(x == y) && !([a, b].all (foldedForSure 8)) && !([a, b].all (constantsAlone 8))
    | _, _, _, _ => false))
  | .Tuple _ _ _, e => okG c g t && okE c m e && noComp e
  | .Name _ _, e => okG c g t && okE c m e && noComp e
  | .Subscript _ _ _, e => okG c g t && okE c m e && noComp e
  | _, _ => false
mutual
def okS (c : Sc) : MS → Stmt → Bool
  | .expr m, s => match s with
    | .Expr e _ => okE c m e && noComp e
    | _ => false
  | .asg g m, s => match s with
    | .Assign [t] e _ => okAsg c g m t e
    | _ => false
  | .aug i op m, s => match s with
    | .AugAssign (.Name x p) op' e _ => okG c (.nm i) (.Name x p) && okE c m e && decide (op' = op) && (decide (op = .Add) || decide (op = .Sub))
    | _ => false
  | .ret m, s => match s with
    | .Return (some e) _ => okE c m e
    | _ => false
  | .retN, s => match s with
    | .Return none _ => true
    | _ => false
  | .pass, s => match s with
    | .Pass _ => true
    | _ => false
  | .brk, s => match s with
    | .Break _ => true
    | _ => false
  | .cnt, s => match s with
    | .Continue _ => true
    | _ => false
  | .ite m l r, s => match s with
    | .If e a b _ => okE c m e && okSs c l a && okSs c r b
    | _ => false
  | .forr g it b, s => match s with
    | .For t i body [] _ => okI c it t i && okG c g t && okSs c b body && noSet i
    | _ => false
  | .whil m b, s => match s with
    | .While e body [] _ => okE c m e && okSs c b body
    | _ => false
def okSs (c : Sc) : List MS → List Stmt → Bool
  | [], ss => match ss with
    | [] => true
    | _ => false
  | m :: ms, ss => match ss with
    | s :: ss => okS c m s && okSs c ms ss
    | _ => false
end
theorem k_asg {X : Cx} {G : Gb} {CT : Str → Option Addr} {c : Sc} {W : WM} {g : MG} {m : ME} {t e : Expr} {pos : Pos} (C : Cn X G CT c W) (hk : X.env.scope.kind = .function) (h : okAsg c g m t e = true) : PS X (.Assign [t] e pos) (tMS X.K G W (.asg g m)) := by
  unfold okAsg at h
  split at h
  · rename_i y py el tgt it ifs z scope lpos
    simp only [Bool.and_eq_true] at h
    obtain ⟨h1, h2⟩ := h
    cases g with
    | nm i =>
      simp only [Bool.and_eq_true, decide_eq_true_eq, Bool.not_eq_true'] at h2
      obtain ⟨⟨⟨h2, h3⟩, h4⟩, h5⟩ := h2
      cases m <;> first | (simp only [okE] at h1; cases h1; done) | skip
      · rename_i elt tg mi mf own
        simp only [okE, Bool.and_eq_true, decide_eq_true_eq] at h1
        obtain ⟨⟨⟨⟨⟨⟨⟨k0, k1⟩, k2⟩, k3⟩, k4⟩, k5⟩, k6⟩, k7⟩ := h1
        exact s_setLc C hk k0 k1 (sndI mi X c W _ _ C k2) k3 k7 (fun X' _ C' => sndG tg X' _ noW _ C' k4) (fun X' _ C' => sndTs mf X' _ noW _ C' k5) (fun X' _ C' => sndE elt X' _ noW _ C' k6) h2 h3 h4 h5
    | _ => cases h2
  · rename_i ts k p vs k' p'
    simp only [Bool.and_eq_true, Bool.or_eq_true] at h
    obtain ⟨⟨h1, h2⟩, h3⟩ := h
    rcases h3 with h3 | h3
    · exact s_asg (sndE m X c W _ C h2) (sndG g X c W _ C h1) rfl (noSwap_ok C.sc h3) rfl
    · split at h3
      · rename_i x px y py a b i j es
        simp only [Bool.and_eq_true, decide_eq_true_eq, Bool.not_eq_true'] at h3
        obtain ⟨⟨⟨⟨⟨⟨n1, n2⟩, n3⟩, n4⟩, n5⟩, n6⟩, n7⟩ := h3
        simp only [okE] at h2
        simp only [okG, okGs, Bool.and_eq_true, decide_eq_true_eq] at h1
        exact s_par C hk h1.1.1.1 h1.2.1.1.1 n1 n2 n3 n4 n5 n6 n7 (okEs_stars h2) (sndEs es X c W _ C h2)
      · cases h3
  · rename_i ts k p hne
    simp only [Bool.and_eq_true] at h
    exact s_asg (sndE m X c W _ C h.1.2) (sndG g X c W _ C h.1.1) h.2 (by
      cases e <;> first | rfl | (exact absurd rfl (hne _ _ _))) rfl
  · rename_i x p hne
    simp only [Bool.and_eq_true] at h
    exact s_asg (sndE m X c W _ C h.1.2) (sndG g X c W _ C h.1.1) h.2 rfl rfl
  · rename_i a b p
    simp only [Bool.and_eq_true] at h
    exact s_asg (sndE m X c W _ C h.1.2) (sndG g X c W _ C h.1.1) h.2 rfl rfl
  · cases h
mutual
theorem sndS {G : Gb} {CT : Str → Option Addr} : ∀ (m : MS) (X : Cx) (c : Sc) (W : WM) (s : Stmt), Cn X G CT c W → X.env.scope.kind = .function → PassesOwn (model X.prog X.w) X.A X.env X.xe → okS c m s = true → PS X s (tMS X.K G W m)
  | .expr m, X, c, W, s, C, hk, hp, h => by
    simp only [okS] at h
    split at h
    · simp only [Bool.and_eq_true] at h
      exact s_expr (sndE m X c W _ C h.1) h.2
    · cases h
  | .asg g m, X, c, W, s, C, hk, hp, h => by
    simp only [okS] at h
    split at h
    · exact k_asg C hk h
    · cases h
  | .aug i op m, X, c, W, s, C, hk, hp, h => by
    simp only [okS] at h
    split at h
    · simp only [Bool.and_eq_true, Bool.or_eq_true, decide_eq_true_eq] at h
      obtain ⟨⟨⟨h1, h2⟩, rfl⟩, h4⟩ := h
      exact s_aug C h1 (sndE m X c W _ C h2) h4
    · cases h
  | .ret m, X, c, W, s, C, hk, hp, h => by
    simp only [okS] at h
    split at h
    · exact s_ret (sndE m X c W _ C h)
    · cases h
  | .retN, X, c, W, s, C, hk, hp, h => by
    simp only [okS] at h
    split at h
    · exact s_retN
    · cases h
  | .pass, X, c, W, s, C, hk, hp, h => by
    simp only [okS] at h
    split at h
    · exact s_pass
    · cases h
  | .brk, X, c, W, s, C, hk, hp, h => by
    simp only [okS] at h
    split at h
    · exact s_brk
    · cases h
  | .cnt, X, c, W, s, C, hk, hp, h => by
    simp only [okS] at h
    split at h
    · exact s_cnt
    · cases h
  | .ite m l r, X, c, W, s, C, hk, hp, h => by
    simp only [okS] at h
    split at h
    · simp only [Bool.and_eq_true] at h
      exact s_if (sndT m X c W _ C h.1.1) (sndSs l X c W _ C hk hp h.1.2) (sndSs r X c W _ C hk hp h.2)
    · cases h
  | .forr g it b, X, c, W, s, C, hk, hp, h => by
    simp only [okS] at h
    split at h
    · simp only [Bool.and_eq_true] at h
      exact s_for C hp (sndI it X c W _ _ C h.1.1.1) (sndG g X c W _ C h.1.1.2) (sndSs b X c W _ C hk hp h.1.2) h.2
    · cases h
  | .whil m b, X, c, W, s, C, hk, hp, h => by
    simp only [okS] at h
    split at h
    · simp only [Bool.and_eq_true] at h
      exact s_while hp (sndT m X c W _ C h.1) (sndSs b X c W _ C hk hp h.2)
    · cases h
theorem sndSs {G : Gb} {CT : Str → Option Addr} : ∀ (m : List MS) (X : Cx) (c : Sc) (W : WM) (s : List Stmt), Cn X G CT c W → X.env.scope.kind = .function → PassesOwn (model X.prog X.w) X.A X.env X.xe → okSs c m s = true → PSs X s (tMSs X.K G W m)
  | [], X, c, W, [], C, hk, hp, h => s_snil
  | [], X, c, W, _ :: _, C, hk, hp, h => by simp [okSs] at h
  | _ :: _, X, c, W, [], C, hk, hp, h => by simp [okSs] at h
  | m :: ms, X, c, W, s :: ss, C, hk, hp, h => by
    simp only [okSs, Bool.and_eq_true] at h
    exact s_scons (sndS m X c W s C hk hp h.1) (sndSs ms X c W ss C hk hp h.2)
end
end Mi
set_option Elab.async false
set_option linter.all false
set_option maxRecDepth 100000
set_option maxHeartbeats 400000
/-! Mi9: defs, and a law's end. -/
namespace Mi
open PySem PySem.Spec PyProof.Rows L2

section
variable {P : Program} {w : World} {K : PySem.W.Frag} {mg : Str → Option Value} {base : Heap}
/-- a def by its body, where nothing is being shown -/
theorem FnG.of {k : Nat} {f : Addr} {x qual : Str} {params : Arguments} {body : List Stmt} {scope : Scope} {dvs : List V} {kws : List (Str × V)} {fd : FuncData} {N ps : List Str} {sp : Sp} (F : FunD K x qual params body scope dvs kws f fd) (S : FnScope N ps scope)
    (len : ∀ vs H Q E, sp vs H Q E → vs.length = ps.length)
    (hbody : ∀ (cdv : Value) (A : Around) (outer : List PySem.Env) (s : Shared) (H : Hp) (vs : List V) (Q : VK) (E : XK), Room k (A.deeper (envOfC qual scope s.heap.objs.size f cdv)) → A.guards = some [] → sp vs H Q E →
      ∃ t, PSs (cxOf (L2.CX P w) P w K mg base N qual scope f cdv A outer s H E) body t ∧ t { nx := fun _ H' => Q .non H', rt := Q } (start N vs) H) : FnG P w K mg base (k + 1) f fd ps sp := by
  obtain ⟨oc, od, dV, kV, doc, pm, an, cdv, ct, osl, rfl, lk, hcd, _, _⟩ := F.ex
  refine ⟨len, fun A outer s H args us vs Q E room hgd e0 hb r hsp => ?_⟩
  have hkeep : ∀ b o, base.get? b = some o → s.heap.get? b = some o := fun b o e => (e0.bs b o e).1
  have KX : K.In s.heap := e0.mod.kin.keeps hkeep
  refine codeAny_call_function room.depth (KX _ _ lk) rfl S.co S.gen rfl (PySem.W.codeRec_of KX hcd) (hb _ _ _ _ (wpAny_newFunctionEnv_cells S.kind (fun y hy => ?_) fun env he s1 x1 => ?_))
  · obtain ⟨n, v⟩ := y
    exact (S.par n (List.of_mem_zip hy).1).imp id fun q => ⟨q, PySem.W.cellsFrom_some _ _ _ (.inl q)⟩
  · subst he
    obtain ⟨t, ht, hq⟩ := hbody cdv A outer s H vs Q E (room.deeper _) hgd hsp
    refine ⟨(e0.mod.nolimit.keeps hkeep).keeps x1.toInCall.keep, codeAny_func (wpAny_mono (ht.run [] s1 (start N vs) H _ (inv_start S room.hd e0 (len _ _ _ _ hsp) r x1) hq) (fun fl s' hs => ?_) fun e s' hs => hs)⟩
    cases fl with
    | ret u => exact let ⟨v, _, H', J, rv, q⟩ := hs; ⟨v, H', J.os, J.bare, J.base, J.hok, rv, q⟩
    | next => exact let ⟨_, H', J, q⟩ := hs; ⟨V.non, H', J.os, J.bare, J.base, J.hok, rfl, q⟩
    | brk => exact let ⟨_, _, _, q⟩ := hs; q.elim
    | cont => exact let ⟨_, _, _, q⟩ := hs; q.elim

/-- a def of the small language stands in K -/
structure DefOk (K : PySem.W.Frag) (mg : Str → Option Value) (fs : List Str) (f : Str) (d : MF) : Prop where
  ex : ∃ (a : Addr) (fd : FuncData) (x qual : Str) (params : Arguments) (body : List Stmt) (scope : Scope) (dvs : List V) (kws : List (Str × V)) (N ps cl : List Str),
    FunD K x qual params body scope dvs kws a fd ∧ FnScope N ps scope ∧ mg f = some (.ref a) ∧ Binds K fd ps [] ∧ ps.length = d.ps ∧ N.length = d.ns ∧ okSs ⟨scope, N, cl, fs⟩ d.body body = true

theorem env_start {ι : List Addr} {H : Hp} {N : List Str} {d : MF} {ds : List D} {vs : List V} (hN : N.length = d.ns) (r : Reps K ι H ds vs) : EnvRep K ι H (enter d ds) (start N vs) := by
  unfold enter L2.start
  rw [← hN, r.length]
  refine ⟨by simp [r.length], fun i x h => ?_⟩
  by_cases hi : i < ds.length
  · rw [List.getElem?_append_left (by simpa using hi), List.getElem?_map, Option.map_eq_some_iff] at h
    obtain ⟨y, h1, h2⟩ := h
    cases h2
    obtain ⟨v, h3, h4⟩ := r.get h1
    exact ⟨v, by rw [List.getElem?_append_left (by simpa [← r.length] using hi), List.getElem?_map, h3]; rfl, h4⟩
  · rw [List.getElem?_append_right (by simpa using hi)] at h
    have := List.mem_of_getElem? h
    simp [List.mem_replicate] at this

theorem wm_fl {ι : List Addr} {H : Hp} {Q : VK} {E : XK} {CT : Str → Option Addr} {r : Res Fl}
    (p : Pst K ((calmly r).bind fun r S => leave r S) ι H (VS K Q) (fun c fs S' ι' H' => ∀ cls d, XRep K CT c fs cls d ι' H' → E cls d H')) :
    Pst K r ι H (FlOk K (fun _ c fs _ ι' H' => ∀ cls d, XRep K CT c fs cls d ι' H' → E cls d H') { nx := fun _ H' => Q .non H', rt := Q }) noE := by
  refine p.bind.calm.mono (fun f S1 ι1 H1 e1 r1 p1 => ?_) fun _ _ _ _ _ _ _ h => h
  cases f with
  | nx env => exact fun σ _ => Pst.ok p1 r1 .non rfl
  | rt d => exact fun v q => Pst.ok p1 r1 v q
  | bk env => exact p1.elim
  | ct env => exact p1.elim
  | xc c fs env => exact fun σ _ => p1 ι1 H1 (Ext.refl _ _) r1
/-- every def does what the small language says, n calls deep -/
theorem fns_ok {M : MP} {CT : Str → Option Addr} {fs : List Str} (hd : ∀ f ∈ fs, ∃ d, M.defs.lookup f = some d ∧ DefOk K mg fs f d) (hbi : ∀ x ∈ biNames, mg x = none) (hcst : CstOk K mg (fun x => M.consts.lookup x)) :
    ∀ n, FnsOk P w K mg base CT n fs (callN M n) := by
  intro n
  induction n with
  | zero =>
    intro f hf
    obtain ⟨d, e, ⟨a, fd, x, qual, params, body, scope, dvs, kws, N, ps, cl, F, S, g, b, l1, l2, ok⟩⟩ := hd f hf
    exact ⟨a, fd, ps, fun _ _ _ => rfl, g, F.kp, b, fun vs H Q E h => h.1, fun A outer s H args us vs Q E _ _ _ _ _ h => by
      obtain ⟨_, ι, S, ds, _, _, p⟩ := h
      exact p.elim⟩
  | succ n ih =>
    intro f hf
    obtain ⟨d, e, ⟨a, fd, x, qual, params, body, scope, dvs, kws, N, ps, cl, F, S, g, b, l1, l2, ok⟩⟩ := hd f hf
    have ec : ∀ xs S, callN M (n + 1) f xs S = runF (glob0 M (callN M n)) d xs S := fun xs S => by
      simp only [callN, e]
    refine ⟨a, fd, ps, fun xs S h => ?_, g, F.kp, b, FnG.of F S (fun vs H Q E h => h.1) fun cdv A outer s H vs Q E room hgd h => ?_⟩
    · rw [ec]
      unfold runF grd
      rw [if_neg (fun z => h (by rw [z, l1]))]
    · obtain ⟨hl, ι, St, ds, hr, rs, p⟩ := h
      rw [ec] at p
      unfold runF at p
      obtain ⟨_, p⟩ := Pst.grd p
      have tk : Takes (cxOf (L2.CX P w) P w K mg base N qual scope a cdv A outer s H E) (toWX K CT fun _ c fs _ ι' H' => ∀ cls d, XRep K CT c fs cls d ι' H' → E cls d H') :=
        Takes.imp (takes_of (E := E) rfl rfl rfl rfl) fun cls d' σ H' ⟨c, fs, S', ι', x1, _, x2⟩ => x2 cls d' x1
      have C : Cn (cxOf (L2.CX P w) P w K mg base N qual scope a cdv A outer s H E) (glob0 M (callN M n)) CT ⟨scope, N, cl, fs⟩ (fun _ c fs _ ι' H' => ∀ cls d, XRep K CT c fs cls d ι' H' → E cls d H') :=
        ⟨rfl, rfl, S.nd, fun _ _ => rfl, rfl, hgd, ⟨n, room, ih⟩, hbi, hcst, tk⟩
      refine ⟨_, sndSs d.body _ _ _ _ C S.kind (passes_of rfl) ok, ι, enter d ds, St, hr, env_start l2 rs, wm_fl p⟩

/-! ### the law's end -/
theorem ints_reps {K : PySem.W.Frag} {ι : List Addr} {H : Hp} (ns : List Int) : Reps K ι H (ns.map D.int) (ns.map V.int) := reps_of_ints ns
/-- the script alone in view: the abstract heap, what is fixed -/
theorem script_env {mb : Str → Option Value} {a : Addr} {s₁ : Shared} {vs : List Value} {ns : List Int}
    (KX : K.In s₁.heap) (hns : s₁.heap.Ns mainGlobals mg) (hb : s₁.heap.Ns builtinsNs mb) (hbb : ∀ x : Str, x ≠ "__name__" → mb x = bootBuiltins x) (hlim : s₁.heap.NoLimit) (hg : s₁.gens = #[])
    (ha : s₁.heap.get? a = some { cls := .type "list", data := .seq vs.toArray }) (hi : IntsAre vs ns) (hl : ns.length ≤ sizeLine) :
    ∃ (H : Hp) (base : Heap), (∀ b, H b = none ∨ ∃ o xs, H b = some (.frz o (.lst xs))) ∧ FrL K H a (ns.map V.int) ∧ HOk P w H s₁.heap ∧ Env0 P w K mg base callerA [] s₁ H := by
  have gen : ∀ H : Hp, (∀ b, H b ≠ none → b = a ∧ K.lookup a = none) → (∀ b, H b = none ∨ ∃ o xs, H b = some (.frz o (.lst xs))) → FrL K H a (ns.map V.int) → HOk P w H s₁.heap →
      ∃ (H : Hp) (base : Heap), (∀ b, H b = none ∨ ∃ o xs, H b = some (.frz o (.lst xs))) ∧ FrL K H a (ns.map V.int) ∧ HOk P w H s₁.heap ∧ Env0 P w K mg base callerA [] s₁ H := fun H h1 h2 h3 h4 => by
    have free : ∀ b o, s₁.heap.get? b = some o → (∀ (v : List Value) n, b = a → o.data ≠ .seq v.toArray n) → H b = none := fun b o e d => by
      cases q : H b with
      | none => rfl
      | some u =>
        obtain ⟨e1, _⟩ := h1 b (by rw [q]; simp)
        have e2 := ha
        rw [← e1, e] at e2
        cases e2
        exact absurd rfl (d vs _ e1)
    have ns' : ∀ b m, s₁.heap.Ns b m → (hidT s₁.heap H).Ns b m := fun b m ⟨o, es, ep, e, d, r⟩ => ⟨o, es, ep, hidT_get e (free b o e fun v n _ z => by rw [d] at z; cases z), d, r⟩
    have KB : K.In (hidT s₁.heap H) := fun b o e => hidT_get (KX b o e) (by
      cases q : H b with
      | none => rfl
      | some u =>
        obtain ⟨e1, e2⟩ := h1 b (by rw [q]; simp)
        rw [e1, e2] at e; cases e)
    obtain ⟨mc, l1, l2⟩ := hlim
    exact ⟨H, hidT s₁.heap H, h2, h3, h4, rfl, ⟨KB, ns' _ _ hns, ⟨mb, ns' _ _ hb, hbb⟩, ⟨mc, ns' _ _ l1, l2⟩⟩, fun b o e => of_hidT e, Nat.le_of_eq (hidT_size _ _), trivial, (fun b hb => by cases hb), h4, .of_eq hg⟩
  have rv := vals_ints hi
  cases hk : K.lookup a with
  | some o =>
    have e := KX a o hk
    rw [ha] at e
    cases e
    exact gen (fun _ => none) (fun b z => absurd rfl z) (fun _ => .inl rfl) (.inr (.inr ⟨_, vs.toArray, _, hk, rfl, rfl, rfl, by rw [List.size_toArray, hi.length]; exact hl, by simpa using rv⟩)) fun b u z => by cases z
  | none =>
    refine gen (upd (fun _ => none) a (.frz { cls := .type "list", data := .seq vs.toArray } (.lst (ns.map V.int)))) (fun b z => ?_) (fun b => ?_) (.inl ⟨_, upd_same⟩) fun b u z => ?_
    all_goals by_cases hb : b = a
    · exact ⟨hb, hk⟩
    · rw [upd_ne hb] at z; exact absurd rfl z
    · subst hb; exact .inr ⟨_, _, upd_same⟩
    · exact .inl (upd_ne hb)
    · subst hb
      rw [upd_same] at z
      cases z
      exact ⟨ha, by rw [List.length_map]; exact hl, vs, _, rv, ha⟩
    · rw [upd_ne hb] at z; cases z
/-- a law's promise, from the small language -/
theorem law_end {l : PySem.W.OpenLaw} {n k : Nat} {q : Program} {loose : List Str} {XP : (Str → Option Value) → Heap → Prop} {YP : World → Heap → Prop} {d : DefRec} {x : Str} {M : MP}
    (hn : l.most = some n) (hn2 : n ≤ sizeLine) (hdf : d.params.defaults = []) (hr : Room k callerA)
    (F : ∀ (w : World) (mg : Str → Option Value) (fa : Addr) (h : Heap), YP w h → h.Ns mainGlobals mg → mg d.name = some (.ref fa) →
      ∃ (K : PySem.W.Frag) (fs : List Str), K.In h ∧ d.name ∈ fs ∧ (∀ f ∈ fs, ∃ md, M.defs.lookup f = some md ∧ DefOk K mg fs f md) ∧ (∀ x ∈ biNames, mg x = none) ∧ CstOk K mg (fun x => M.consts.lookup x))
    (law : ∀ ns : List Int, ns.length ≤ n → ∃ S, callN M k d.name [.fl (ns.map D.int)] [] = .ok (.bl true) S) :
    PySem.W.WalkO q loose XP YP l.row.toRowW d [] (fun f vs => PySem.call f vs) := by
  refine Att.attach_call hn hdf fun w s₀ s₁ mg mb fa o pm cd doc a vs ns G Y ho hd hcd hmg hobj hints hlen hg => ?_
  obtain ⟨K, fs, KX, hin, hdefs, hbi, hcst⟩ := F w mg fa _ Y G.T.g hmg
  obtain ⟨H, base, hO, hS, hok, e0⟩ := script_env (P := l.prog) (w := w) KX G.T.g G.T.b G.T.builtins G.T.nolimit hg hobj hints (Nat.le_trans hlen hn2)
  obtain ⟨fa', fd, ps, hbad, hf, kp, hb, FG⟩ := fns_ok (P := l.prog) (w := w) (base := base) (CT := fun _ => none) hdefs hbi hcst k d.name hin
  rw [hmg] at hf
  cases hf
  obtain ⟨S, eS⟩ := law ns hlen
  have hl1 : ps.length = 1 := by
    by_cases z : ps.length = 1
    · exact z
    · rw [hbad _ _ (by simpa using fun z' => z z'.symm)] at eS
      cases eS
  have bt := hb s₁ [.ref a] KX (by simpa using hl1.symm)
  have hr0 : HRep K [] [] H := ⟨rfl, fun n a o h => by simp at h, fun n m a h => by simp at h⟩
  have rs : Reps K [] H [.fl (ns.map D.int)] [.ref a] := .one ⟨a, _, rfl, hS, reps_of_ints ns⟩
  have sp : spM K (fun _ => none) ps.length (callN M k d.name) [.ref a] H (fun v _ => v = .bl true) (fun _ _ _ => False) :=
    ⟨hl1.symm, [], [], _, hr0, rs, by rw [eS]; exact fun ι' H' _ _ v q => q⟩
  refine codeAny_mono (FG.run callerA [] s₁ H ⟨[.ref a], []⟩ [.ref a] [.ref a] _ _ hr rfl e0 bt (.cons rfl .nil) sp) fun r s' h => ?_
  cases r with
  | error e =>
    obtain ⟨_, _, _, _, _, _, _, _, _, _, _, _, z⟩ := h
    exact z.elim
  | ok fl =>
    cases fl with
    | next => exact False.elim h
    | brk => exact False.elim h
    | cont => exact False.elim h
    | ret u =>
      obtain ⟨v, H', os, bare, un, hok', r', z⟩ := h
      cases (show v = V.bl true from z)
      cases (show u = Value.bool true from r')
      refine ⟨rfl, OldK.of_keep fun b o e => ?_, os, bare⟩
      rcases hO b with z | ⟨ob, xs, z⟩
      · exact un.keep b o e z (fun m => by cases m) (by simp)
      · have e1 := (hok b _ z).1
        have e2 := (hok' b _ (un.frzs b ob _ z)).1
        exact e2.trans (e1.symm.trans e)
end
end Mi
set_option Elab.async false
set_option linter.all false
set_option maxRecDepth 100000
set_option maxHeartbeats 400000
/-! MiA: the parts of a program, checked by one run. -/
namespace Mi
open PySem PySem.Spec PyProof.Rows L2

theorem lookup_zip_some {ps : List Str} {us : List Value} (hl : us.length = ps.length) {n : Str} (h : n ∈ ps) : ((ps.zip us).lookup n).isSome = true := by
  induction ps generalizing us with
  | nil => cases h
  | cons p ps ih =>
    cases us with
    | nil => simp at hl
    | cons u us =>
      simp only [List.zip_cons_cons, List.lookup_cons]
      split
      · rfl
      · rename_i z
        refine ih (by simpa using hl) ?_
        rcases List.mem_cons.mp h with q | q
        · subst q; simp at z
        · exact q
theorem filter_zip {ps : List Str} {us : List Value} (hl : us.length = ps.length) : (ps.filter fun n => ((ps.zip us).lookup n).isNone) = [] := by
  rw [List.filter_eq_nil_iff]
  intro n hn
  have := lookup_zip_some hl hn
  cases q : (ps.zip us).lookup n with
  | none => rw [q] at this; cases this
  | some v => simp
theorem filterMap_cong {α β : Type} {f g : α → Option β} : ∀ {l : List α}, (∀ x ∈ l, f x = g x) → l.filterMap f = l.filterMap g
  | [], _ => rfl
  | x :: l, h => by rw [List.filterMap_cons, List.filterMap_cons, h x (by simp), filterMap_cong fun y hy => h y (List.mem_cons_of_mem _ hy)]
theorem filterMap_zip {ps : List Str} {us : List Value} (hl : us.length = ps.length) (nd : ps.Nodup) : (ps.filterMap fun n => ((ps.zip us).lookup n).map fun v => (n, v)) = ps.zip us := by
  induction ps generalizing us with
  | nil => rfl
  | cons p ps ih =>
    cases us with
    | nil => simp at hl
    | cons u us =>
      obtain ⟨nin, nd'⟩ := List.nodup_cons.mp nd
      rw [List.zip_cons_cons, List.filterMap_cons]
      simp only [List.lookup_cons, beq_self_eq_true, Option.map_some]
      congr 1
      refine Eq.trans ?_ (ih (us := us) (by simpa using hl) nd')
      have : ∀ n ∈ ps, (n == p) = false := fun n hn => by
        cases q : n == p with
        | false => rfl
        | true =>
          have e : n = p := by simpa using q
          subst e; exact absurd hn nin
      exact filterMap_cong fun n hn => by rw [this n hn]
theorem bind_plain {fd : FuncData} {us : List Value} {ps : List Str} (h1 : fd.params.posonlyargs = []) (h2 : fd.params.vararg = none) (h3 : fd.params.kwonlyargs = []) (h4 : fd.params.kwarg = none) (hd : fd.defaults = .none) (hps : fd.params.args.map (·.arg) = ps) (nd : ps.Nodup) (hl : us.length = ps.length) :
    bindArgs fd ⟨us, []⟩ = pure (ps.zip us) := by
  unfold bindArgs
  simp only [h1, h2, h3, h4, hd, hps, List.map_nil, List.nil_append, List.append_nil]
  have hs : seqItems? Value.none = pure none := rfl
  rw [List.forIn_nil, pure_bind, hs, pure_bind]
  simp [hl, filter_zip hl, filterMap_zip hl nd]

/-- a def of the text and of the small language -/
structure DD where
  nm : Str
  md : MF
  dd : He.DefD
  N : List Str
  ps : List Str
def scOk (N ps : List Str) (sc : Scope) : Bool := decide (sc.kind = .function) && !sc.isCoroutine && !sc.isGenerator && decide N.Nodup && decide (N.take ps.length = ps) && ps.all (fun x => decide (sc.names.lookup x = some .local) || decide (sc.names.lookup x = some .cell)) && sc.names.all fun y => decide (y.2 ≠ .free)
theorem scOk_ok {N ps : List Str} {sc : Scope} (h : scOk N ps sc = true) : FnScope N ps sc := by
  unfold scOk at h
  simp only [Bool.and_eq_true, decide_eq_true_eq, Bool.not_eq_true', List.all_eq_true, Bool.or_eq_true] at h
  obtain ⟨⟨⟨⟨⟨⟨h1, h2⟩, h3⟩, h4⟩, h5⟩, h6⟩, h7⟩ := h
  exact ⟨h1, h2, h3, h4, h5, h6, h7⟩
def arOk (ps : List Str) (p : Arguments) : Bool := p.posonlyargs.isEmpty && p.vararg.isNone && p.kwonlyargs.isEmpty && p.kwarg.isNone && decide (p.args.map (·.arg) = ps)
def DD.ok (fs : List Str) (x : DD) : Bool := decide (x.dd.at_ = (x.nm, none)) && x.dd.dfl.isEmpty && x.dd.kwd.isEmpty && arOk x.ps x.dd.params && scOk x.N x.ps x.dd.scope && decide (x.ps.length = x.md.ps) && decide (x.N.length = x.md.ns) && okSs ⟨x.dd.scope, x.N, x.N, fs⟩ x.md.body x.dd.body
def namesOf (ds : List DD) : List Str := ds.map (·.nm)
def faOf (ds : List DD) : List He.Fa := ds.map (fun d => .glo d.nm) ++ biNames.map .free
def fnOfD (ds : List DD) : List He.DefD := ds.map (·.dd)
def defsOf (ds : List DD) : List (Str × MF) := ds.map fun d => (d.nm, d.md)
theorem lookup_defs {f : Str} : ∀ {ds : List DD}, f ∈ namesOf ds → ∃ d ∈ ds, d.nm = f ∧ (defsOf ds).lookup f = some d.md
  | [], h => by cases h
  | d :: ds, h => by
    by_cases e : f = d.nm
    · exact ⟨d, by simp, e.symm, by simp [defsOf, List.lookup_cons, e]⟩
    · have h' : f ∈ namesOf ds := by
        rcases List.mem_cons.mp h with z | z
        · exact absurd z e
        · exact z
      obtain ⟨d', m, e1, e2⟩ := lookup_defs h'
      refine ⟨d', List.mem_cons_of_mem _ m, e1, ?_⟩
      have : (f == d.nm) = false := by simpa using e
      simp only [defsOf, List.map_cons, List.lookup_cons, this]
      exact e2
section
variable {K : PySem.W.Frag} {mg : Str → Option Value} {h : Heap} {ds : List DD}
theorem dd_ok {fs : List Str} {x : DD} (X : K.In h) (G : h.Ns mainGlobals mg) (c : He.SaysD (faOf ds) (fnOfD ds) K) (m : x ∈ ds) (ok : x.ok fs = true) : DefOk K mg fs x.nm x.md := by
  unfold DD.ok at ok
  simp only [Bool.and_eq_true, decide_eq_true_eq] at ok
  obtain ⟨⟨⟨⟨⟨⟨⟨h1, h2⟩, h3⟩, h4⟩, h5⟩, h6⟩, h7⟩, h8⟩ := ok
  obtain ⟨fd, F⟩ := c.defs (d := x.dd) (List.mem_map_of_mem m)
  have e1 : x.dd.dvs K = [] := by unfold He.DefD.dvs; rw [List.isEmpty_iff.mp h2]; rfl
  have e2 : x.dd.kws K = [] := by unfold He.DefD.kws; rw [List.isEmpty_iff.mp h3]; rfl
  rw [e1, e2, h1] at F
  unfold arOk at h4
  simp only [Bool.and_eq_true, decide_eq_true_eq] at h4
  obtain ⟨⟨⟨⟨a1, a2⟩, a3⟩, a4⟩, a5⟩ := h4
  have S := scOk_ok h5
  have nd : x.ps.Nodup := by
    have := S.nd
    rw [← S.pre]
    exact List.Sublist.nodup (List.take_sublist _ _) this
  refine ⟨_, fd, _, _, _, _, _, [], [], x.N, x.ps, x.N, F, S, He.glo_ok X G (c.facts (f := .glo x.nm) (List.mem_append_left _ (List.mem_map_of_mem (f := fun d : DD => He.Fa.glo d.nm) m))), F.bindsN fun kV doc pm an cdv ct us hl => ?_, h6, h7, h8⟩
  exact bind_plain (List.isEmpty_iff.mp a1) (Option.isNone_iff_eq_none.mp a2) (List.isEmpty_iff.mp a3) (Option.isNone_iff_eq_none.mp a4) rfl a5 nd hl
/-- all of them, by one run of the checker -/
theorem prog_ok (X : K.In h) (G : h.Ns mainGlobals mg) (c : He.SaysD (faOf ds) (fnOfD ds) K) (ok : (ds.all fun x => x.ok (namesOf ds)) = true) :
    (∀ f ∈ namesOf ds, ∃ md, (defsOf ds).lookup f = some md ∧ DefOk K mg (namesOf ds) f md) ∧ ∀ x ∈ biNames, mg x = none := by
  refine ⟨fun f hf => ?_, fun x hx => He.free_ok X G (c.facts (f := .free x) (List.mem_append_right _ (List.mem_map_of_mem (f := He.Fa.free) hx)))⟩
  obtain ⟨d, m, e1, e2⟩ := lookup_defs hf
  refine ⟨d.md, e2, ?_⟩
  rw [← e1]
  exact dd_ok X G c m (List.all_eq_true.mp ok d m)
end
end Mi
set_option Elab.async false
set_option linter.all false
set_option maxRecDepth 100000
set_option maxHeartbeats 400000
/-! MiB: rules for running texts of the small language. -/
namespace Mi
open PySem

def RunsM {α : Type} (r : Res α) (P : α → Sto → Prop) : Prop := match r with
  | .ok a S => P a S
  | _ => False
/-- it runs to an end with P (closed: nothing is to look into it unasked) -/
structure Runs {α : Type} (r : Res α) (P : α → Sto → Prop) : Prop where
  out : RunsM r P
def RunSM (r : Res Fl) (N : Env → Sto → Prop) (T : D → Sto → Prop) (B C : Env → Sto → Prop) : Prop := match r with
  | .ok (.nx env) S => N env S
  | .ok (.rt d) S => T d S
  | .ok (.bk env) S => B env S
  | .ok (.ct env) S => C env S
  | _ => False
/-- a statement's ends: on, back with a value, break, continue -/
structure RunS (r : Res Fl) (N : Env → Sto → Prop) (T : D → Sto → Prop) (B C : Env → Sto → Prop) : Prop where
  out : RunSM r N T B C
section
variable {α β : Type} {P : α → Sto → Prop} {Q : β → Sto → Prop} {N B C : Env → Sto → Prop} {T : D → Sto → Prop}
theorem runs_eq (r : Res α) : Runs r P = RunsM r P := propext ⟨fun h => h.out, fun h => ⟨h⟩⟩
theorem runS_eq (r : Res Fl) : RunS r N T B C = RunSM r N T B C := propext ⟨fun h => h.out, fun h => ⟨h⟩⟩
theorem runs_ok (a : α) (S : Sto) : Runs (.ok a S) P = P a S := runs_eq _
theorem runs_bad : Runs (.bad : Res α) P = False := runs_eq _
theorem runs_bind (r : Res α) (f : α → Sto → Res β) : Runs (r.bind f) Q = Runs r fun a S => Runs (f a S) Q := by
  rw [runs_eq, runs_eq]
  cases r with
  | ok a S => exact (runs_eq (f a S)).symm
  | exc _ _ _ => rfl
  | bad => rfl
theorem runs_grd (p : Prop) [Decidable p] (r : Res α) : Runs (grd p r) P = (p ∧ Runs r P) := by
  unfold grd
  by_cases h : p
  · rw [if_pos h]; simp [h]
  · rw [if_neg h]; simp [h, runs_bad]
theorem runs_opt (o : Option α) (S : Sto) : Runs (opt o S) P = ∃ a, o = some a ∧ P a S := by
  cases o with
  | none => simp [opt, runs_bad]
  | some a => simp [opt, runs_ok]
theorem runs_calmly (r : Res α) : Runs (calmly r) P = Runs r P := by
  rw [runs_eq, runs_eq]
  cases r <;> rfl
theorem runs_ite (b : Bool) (x y : Res α) : Runs (if b = true then x else y) P = if b = true then Runs x P else Runs y P := by cases b <;> rfl
theorem runs_alloc (o : O) (S : Sto) (P : D → Sto → Prop) : Runs (alloc o S) P = P (.loc S.length) (S ++ [o]) := runs_eq _
theorem Runs.mono {r : Res α} {P P' : α → Sto → Prop} (h : Runs r P) (k : ∀ a S, P a S → P' a S) : Runs r P' := by
  cases r with
  | ok a S => exact ⟨k a S h.out⟩
  | exc _ _ _ => exact h.out.elim
  | bad => exact h.out.elim
theorem Runs.get {r : Res α} (h : Runs r P) : ∃ a S, r = .ok a S ∧ P a S := by
  cases r with
  | ok a S => exact ⟨a, S, rfl, h.out⟩
  | exc _ _ _ => exact h.out.elim
  | bad => exact h.out.elim

theorem runS_nx (env : Env) (S : Sto) : RunS (.ok (.nx env) S) N T B C = N env S := runS_eq _
theorem runS_rt (d : D) (S : Sto) : RunS (.ok (.rt d) S) N T B C = T d S := runS_eq _
theorem runS_bk (env : Env) (S : Sto) : RunS (.ok (.bk env) S) N T B C = B env S := runS_eq _
theorem runS_ct (env : Env) (S : Sto) : RunS (.ok (.ct env) S) N T B C = C env S := runS_eq _
theorem runS_atE (env : Env) (r : Res α) (f : α → Sto → Res Fl) : RunS (atE env r f) N T B C = Runs r fun a S => RunS (f a S) N T B C := by
  rw [runS_eq, runs_eq]
  cases r with
  | ok a S => exact (runS_eq (f a S)).symm
  | exc _ _ _ => rfl
  | bad => rfl
theorem runS_bind (r : Res α) (f : α → Sto → Res Fl) : RunS (r.bind f) N T B C = Runs r fun a S => RunS (f a S) N T B C := by
  rw [runS_eq, runs_eq]
  cases r with
  | ok a S => exact (runS_eq (f a S)).symm
  | exc _ _ _ => rfl
  | bad => rfl
theorem runS_bindE (r : Res Env) (f : Env → Sto → Res Fl) : RunS (r.bind f) N T B C = Runs r fun a S => RunS (f a S) N T B C := runS_bind r f
theorem runS_bindD (r : Res D) (f : D → Sto → Res Fl) : RunS (r.bind f) N T B C = Runs r fun a S => RunS (f a S) N T B C := runS_bind r f
theorem runS_seq (r : Res Fl) (k : Env → Sto → Res Fl) : RunS (r.bind fun f S => andThen f S k) N T B C = RunS r (fun env S => RunS (k env S) N T B C) T B C := by
  cases r with
  | ok f S => cases f <;> simp only [runS_eq, RunSM, Res.bind, andThen]
  | exc _ _ _ => simp only [runS_eq, RunSM, Res.bind]
  | bad => simp only [runS_eq, RunSM, Res.bind]
theorem runS_turn (r : Res Fl) (k : Env → Sto → Res Fl) : RunS (r.bind fun f S => turnEnd f S k) N T B C = RunS r (fun env S => RunS (k env S) N T B C) T N (fun env S => RunS (k env S) N T B C) := by
  cases r with
  | ok f S => cases f <;> simp only [runS_eq, RunSM, Res.bind, turnEnd]
  | exc _ _ _ => simp only [runS_eq, RunSM, Res.bind]
  | bad => simp only [runS_eq, RunSM, Res.bind]
theorem runS_ite (b : Bool) (x y : Res Fl) : RunS (if b = true then x else y) N T B C = if b = true then RunS x N T B C else RunS y N T B C := by cases b <;> rfl
theorem RunS.mono {r : Res Fl} {N' B' C' : Env → Sto → Prop} {T' : D → Sto → Prop} (h : RunS r N T B C) (h1 : ∀ e S, N e S → N' e S) (h2 : ∀ e S, T e S → T' e S) (h3 : ∀ e S, B e S → B' e S) (h4 : ∀ e S, C e S → C' e S) : RunS r N' T' B' C' := by
  cases r with
  | ok f S =>
    cases f with
    | nx e => exact ⟨h1 e S h.out⟩
    | rt d => exact ⟨h2 d S h.out⟩
    | bk e => exact ⟨h3 e S h.out⟩
    | ct e => exact ⟨h4 e S h.out⟩
    | xc _ _ _ => exact h.out.elim
  | exc _ _ _ => exact h.out.elim
  | bad => exact h.out.elim
/-- a def called -/
theorem runs_runF (G : Gb) (f : MF) (xs : List D) (S : Sto) (P : D → Sto → Prop) : Runs (runF G f xs S) P = (xs.length = f.ps ∧ Runs (exs G f.body (enter f xs) S) fun r S => Runs (leave r S) P) := by
  unfold runF
  rw [runs_grd, runs_bind, runs_calmly]
theorem runs_body {G : Gb} {f : MF} {xs : List D} {S : Sto} {P : D → Sto → Prop} (hl : xs.length = f.ps) (h : RunS (exs G f.body (enter f xs) S) (fun _ S => P .non S) P (fun _ _ => False) fun _ _ => False) : Runs (runF G f xs S) P := by
  rw [runs_runF]
  refine ⟨hl, ?_⟩
  cases r : exs G f.body (enter f xs) S with
  | ok fl S' =>
    rw [r] at h
    cases fl with
    | nx e => exact ⟨⟨h.out⟩⟩
    | rt d => exact ⟨⟨h.out⟩⟩
    | bk e => exact h.out.elim
    | ct e => exact h.out.elim
    | xc _ _ _ => exact h.out.elim
  | exc _ _ _ => rw [r] at h; exact h.out.elim
  | bad => rw [r] at h; exact h.out.elim
end

/-! ### loops -/
theorem for_fix {N B C : Env → Sto → Prop} {T : D → Sto → Prop} {st : D → Env → Sto → Res Env} {bd : Env → Sto → Res Fl} {xs : List D} {env : Env} {S : Sto} (I : Nat → Env → Sto → Prop) (h0 : I 0 env S)
    (hs : ∀ i x env S, xs[i]? = some x → I i env S → Runs (st x env S) fun env S => RunS (bd env S) (I (i + 1)) T N (I (i + 1))) (he : ∀ env S, I xs.length env S → N env S) : RunS (forFix st bd xs env S) N T B C := by
  have gen : ∀ k i env S, xs.length - i = k → i ≤ xs.length → I i env S → RunS (forFix st bd (xs.drop i) env S) N T B C := by
    intro k
    induction k with
    | zero =>
      intro i env S hk hi h
      have e : i = xs.length := by omega
      subst e
      rw [List.drop_length]
      exact ⟨he env S h⟩
    | succ k ih =>
      intro i env S hk hi h
      have hlt : i < xs.length := by omega
      rw [List.drop_eq_getElem_cons hlt]
      simp only [forFix]
      rw [runS_bind, runs_calmly]
      refine (hs i _ env S (List.getElem?_eq_getElem hlt) h).mono fun env1 S1 h1 => ?_
      rw [runS_turn]
      exact h1.mono (fun e S2 h2 => ih (i + 1) e S2 (by omega) (by omega) h2) (fun _ _ h => h) (fun _ _ h => h) fun e S2 h2 => ih (i + 1) e S2 (by omega) (by omega) h2
  have := gen xs.length 0 env S (by omega) (by omega) h0
  rwa [List.drop_zero] at this
/-- over a list in the store that stays as it is -/
theorem for_live {N B C : Env → Sto → Prop} {T : D → Sto → Prop} {st : D → Env → Sto → Res Env} {bd : Env → Sto → Res Fl} {g : Sto → Option (List D)} {xs : List D} {env : Env} {S : Sto} (I : Nat → Env → Sto → Prop) (h0 : I 0 env S) (hg : ∀ i env S, i ≤ xs.length → I i env S → g S = some xs)
    (hs : ∀ i x env S, xs[i]? = some x → I i env S → Runs (st x env S) fun env S => RunS (bd env S) (I (i + 1)) T N (I (i + 1))) (he : ∀ env S, I xs.length env S → N env S) : RunS (forLive st bd g xs.length 0 env S) N T B C := by
  have gen : ∀ k i env S, xs.length - i = k → i ≤ xs.length → I i env S → RunS (forLive st bd g k i env S) N T B C := by
    intro k
    induction k with
    | zero =>
      intro i env S hk hi h
      have e : i = xs.length := by omega
      subst e
      simp only [forLive, hg _ _ _ hi h]
      rw [grd_pos trivial]
      exact ⟨he env S h⟩
    | succ k ih =>
      intro i env S hk hi h
      have hlt : i < xs.length := by omega
      simp only [forLive, hg _ _ _ hi h, List.getElem?_eq_getElem hlt]
      rw [runS_bind, runs_calmly]
      refine (hs i _ env S (List.getElem?_eq_getElem hlt) h).mono fun env1 S1 h1 => ?_
      rw [runS_turn]
      exact h1.mono (fun e S2 h2 => ih (i + 1) e S2 (by omega) (by omega) h2) (fun _ _ h => h) (fun _ _ h => h) fun e S2 h2 => ih (i + 1) e S2 (by omega) (by omega) h2
  exact gen xs.length 0 env S (by omega) (by omega) h0
theorem while_m {N B C : Env → Sto → Prop} {T : D → Sto → Prop} {c : Env → Sto → Res Bool} {bd : Env → Sto → Res Fl} (I : Nat → Env → Sto → Prop)
    (hs : ∀ m env S, I m env S → Runs (c env S) fun b S => if b = true then 0 < m ∧ RunS (bd env S) (I (m - 1)) T N (I (m - 1)) else N env S) : ∀ {n m : Nat} {env : Env} {S : Sto}, m < n → I m env S → RunS (whileM c bd n env S) N T B C := by
  intro n
  induction n with
  | zero => intro m env S h _; omega
  | succ n ih =>
    intro m env S hm h
    simp only [whileM]
    rw [runS_atE]
    refine (hs m env S h).mono fun b S1 h1 => ?_
    cases b with
    | true =>
      rw [if_pos rfl] at h1 ⊢
      rw [runS_turn]
      exact h1.2.mono (fun e S2 h2 => ih (by omega) h2) (fun _ _ h => h) (fun _ _ h => h) fun e S2 h2 => ih (by omega) h2
    | false =>
      rw [if_neg Bool.false_ne_true] at h1 ⊢
      exact ⟨h1⟩
theorem lc_fix {P : List D → Sto → Prop} {f : List D → D → Sto → Res (List D)} {xs acc : List D} {S : Sto} (I : Nat → List D → Sto → Prop) (h0 : I 0 acc S) (hs : ∀ i x acc S, xs[i]? = some x → I i acc S → Runs (f acc x S) (I (i + 1))) (he : ∀ acc S, I xs.length acc S → P acc S) : Runs (lcFix f xs acc S) P := by
  have gen : ∀ k i acc S, xs.length - i = k → i ≤ xs.length → I i acc S → Runs (lcFix f (xs.drop i) acc S) P := by
    intro k
    induction k with
    | zero =>
      intro i acc S hk hi h
      have e : i = xs.length := by omega
      subst e
      rw [List.drop_length]
      exact ⟨he acc S h⟩
    | succ k ih =>
      intro i acc S hk hi h
      have hlt : i < xs.length := by omega
      rw [List.drop_eq_getElem_cons hlt]
      simp only [lcFix]
      rw [runs_bind]
      exact (hs i _ acc S (List.getElem?_eq_getElem hlt) h).mono fun a S2 h2 => ih (i + 1) a S2 (by omega) (by omega) h2
  have := gen xs.length 0 acc S (by omega) (by omega) h0
  rwa [List.drop_zero] at this
theorem lc_live {P : List D → Sto → Prop} {f : List D → D → Sto → Res (List D)} {g : Sto → Option (List D)} {xs acc : List D} {S : Sto} (I : Nat → List D → Sto → Prop) (h0 : I 0 acc S) (hg : ∀ i acc S, i ≤ xs.length → I i acc S → g S = some xs) (hs : ∀ i x acc S, xs[i]? = some x → I i acc S → Runs (f acc x S) (I (i + 1))) (he : ∀ acc S, I xs.length acc S → P acc S) : Runs (lcLive f g xs.length 0 acc S) P := by
  have gen : ∀ k i acc S, xs.length - i = k → i ≤ xs.length → I i acc S → Runs (lcLive f g k i acc S) P := by
    intro k
    induction k with
    | zero =>
      intro i acc S hk hi h
      have e : i = xs.length := by omega
      subst e
      simp only [lcLive, hg _ _ _ hi h]
      rw [grd_pos trivial]
      exact ⟨he acc S h⟩
    | succ k ih =>
      intro i acc S hk hi h
      have hlt : i < xs.length := by omega
      simp only [lcLive, hg _ _ _ hi h, List.getElem?_eq_getElem hlt]
      rw [runs_bind]
      exact (hs i _ acc S (List.getElem?_eq_getElem hlt) h).mono fun a S2 h2 => ih (i + 1) a S2 (by omega) (by omega) h2
  exact gen xs.length 0 acc S (by omega) (by omega) h0

/-! ### the store grows -/
/-- what stood still stands -/
def Kp (S S' : Sto) : Prop := ∀ (n : Nat) (o : O), S[n]? = some o → S'[n]? = some o
theorem Kp.refl (S : Sto) : Kp S S := fun _ _ h => h
theorem Kp.trans {S S1 S2 : Sto} (h : Kp S S1) (k : Kp S1 S2) : Kp S S2 := fun n o e => k n o (h n o e)
theorem Kp.app (S T : Sto) : Kp S (S ++ T) := fun n o e => by
  rw [List.getElem?_append_left (List.getElem?_eq_some_iff.mp e).1]; exact e
theorem Kp.len {S S' : Sto} (h : Kp S S') : S.length ≤ S'.length := by
  cases q : S.length with
  | zero => omega
  | succ n =>
    have hn : n < S.length := by omega
    have := h n _ (List.getElem?_eq_getElem hn)
    have := (List.getElem?_eq_some_iff.mp this).1
    omega
theorem Kp.set {S S' : Sto} (h : Kp S S') {n : Nat} (hn : S.length ≤ n) (o : O) : Kp S (S'.set n o) := fun m u e => by
  have hm := (List.getElem?_eq_some_iff.mp e).1
  rw [List.getElem?_set_ne (by omega)]
  exact h m u e
theorem getLst_at {S : Sto} {n : Nat} {xs : List D} (h : S[n]? = some (.lst xs)) : getLst S n = some xs := by unfold getLst; rw [h]
theorem at_app {S : Sto} (o : O) : (S ++ [o])[S.length]? = some o := List.getElem?_concat_length ..
theorem at_set {S : Sto} {n : Nat} {o o' : O} (h : S[n]? = some o) : (S.set n o')[n]? = some o' := List.getElem?_set_self (List.getElem?_eq_some_iff.mp h).1

/-! ### equations for a walk by simp only -/
section
variable {N B C : Env → Sto → Prop} {T : D → Sto → Prop}
theorem runS_cons (G : Gb) (s : MS) (r : List MS) (env : Env) (S : Sto) : RunS (exs G (s :: r) env S) N T B C = RunS (ex G s env S) (fun env S => RunS (exs G r env S) N T B C) T B C := by
  simp only [exs]
  rw [runS_seq]
theorem runS_nil (G : Gb) (env : Env) (S : Sto) : RunS (exs G [] env S) N T B C = N env S := by
  simp only [exs]
  rw [runS_nx]
theorem runS_one (G : Gb) (s : MS) (env : Env) (S : Sto) : RunS (exs G [s] env S) N T B C = RunS (ex G s env S) N T B C := by
  rw [runS_cons]
  simp only [runS_nil]
end
theorem bi_repr (a : D) (S : Sto) : biD .repr [a] S = (opt (reprD S a) S).bind fun x S => .ok (.str x) S := by simp only [biD]
theorem bi_list (a : D) (S : Sto) : biD .list [a] S = (opt (seqOf S a) S).bind fun xs S => alloc (.lst xs) S := by
  simp only [biD]
  cases seqOf S a <;> rfl
theorem bi_tuple (a : D) (S : Sto) : biD .tuple [a] S = (opt (seqOf S a) S).bind fun xs S => .ok (.tup xs) S := by
  simp only [biD]
  cases seqOf S a <;> rfl
theorem bi_abs (i : Int) (S : Sto) : biD .abs [.int i] S = .ok (.int (if i < 0 then -i else i)) S := by simp only [biD]
theorem bi_int (i : Int) (S : Sto) : biD .int [.int i] S = .ok (.int i) S := by simp only [biD]
theorem bi_intb (b : Bool) (S : Sto) : biD .int [.bl b] S = .ok (.int (if b = true then 1 else 0)) S := by simp only [biD]
theorem bi_max (i j : Int) (S : Sto) : biD .max [.int i, .int j] S = .ok (.int (if j > i then j else i)) S := by simp only [biD]
theorem bi_min (i j : Int) (S : Sto) : biD .min [.int i, .int j] S = .ok (.int (if j < i then j else i)) S := by simp only [biD]
theorem bi_lent (xs : List D) (S : Sto) : biD .len [.tup xs] S = .ok (.int xs.length) S := by simp only [biD, seqOf]
theorem bi_lenf (xs : List D) (S : Sto) : biD .len [.fl xs] S = .ok (.int xs.length) S := by simp only [biD, seqOf]
theorem bi_lenl (n : Nat) (S : Sto) : biD .len [.loc n] S = (opt (getLst S n) S).bind fun xs S => .ok (.int xs.length) S := by
  simp only [biD, seqOf]
  cases getLst S n <;> rfl
theorem op_add (i j : Int) (S : Sto) : opBin .Add (.int i) (.int j) S = .ok (.int (i + j)) S := by simp only [opBin]
theorem op_addt (a b : List D) (S : Sto) : opBin .Add (.tup a) (.tup b) S = grd (a.length + b.length ≤ sizeLine) (.ok (.tup (a ++ b)) S) := by simp only [opBin]
theorem op_sub (i j : Int) (S : Sto) : opBin .Sub (.int i) (.int j) S = .ok (.int (i - j)) S := by simp only [opBin]
theorem op_mul (i j : Int) (S : Sto) : opBin .Mult (.int i) (.int j) S = grd (mulOk i j = true) (.ok (.int (i * j)) S) := by simp only [opBin]
theorem op_div (i j : Int) (S : Sto) : opBin .FloorDiv (.int i) (.int j) S = grd (0 < j ∧ j < 1073741824) (.ok (.int (i / j)) S) := by simp only [opBin]
theorem op_mod (i j : Int) (S : Sto) : opBin .Mod (.int i) (.int j) S = grd (0 < j) (.ok (.int (i % j)) S) := by simp only [opBin]
theorem op_pow (i j : Int) (S : Sto) : opBin .Pow (.int i) (.int j) S = grd (0 ≤ j ∧ j ≤ 1000000 ∧ i.natAbs < 2 ^ 64) (.ok (.int (i ^ j.toNat)) S) := by simp only [opBin]
theorem op_addl {S : Sto} {l k : Nat} {a b : List D} (h : S[l]? = some (.lst a)) (h' : S[k]? = some (.lst b)) : opBin .Add (.loc l) (.loc k) S = grd (a.length + b.length ≤ sizeLine) (alloc (.lst (a ++ b)) S) := by simp only [opBin, getLst_at h, getLst_at h']
theorem cp_eq (a b : D) (S : Sto) : opCmp .Eq a b S = (opt (eqD S a b) S).bind fun r S => .ok (.bl r) S := by simp only [opCmp]
theorem cp_ne (a b : D) (S : Sto) : opCmp .NotEq a b S = (opt (eqD S a b) S).bind fun r S => .ok (.bl (!r)) S := by simp only [opCmp]
theorem cp_lt (i j : Int) (S : Sto) : opCmp .Lt (.int i) (.int j) S = .ok (.bl (decide (i < j))) S := by simp only [opCmp]
theorem cp_le (i j : Int) (S : Sto) : opCmp .LtE (.int i) (.int j) S = .ok (.bl (decide (i ≤ j))) S := by simp only [opCmp]
theorem cp_gt (i j : Int) (S : Sto) : opCmp .Gt (.int i) (.int j) S = .ok (.bl (decide (j < i))) S := by simp only [opCmp]
theorem cp_ge (i j : Int) (S : Sto) : opCmp .GtE (.int i) (.int j) S = .ok (.bl (decide (j ≤ i))) S := by simp only [opCmp]
theorem cp_in (a b : D) (S : Sto) : opCmp .In a b S = (opt (inD S a b) S).bind fun r S => .ok (.bl r) S := by simp only [opCmp]
theorem cp_nin (a b : D) (S : Sto) : opCmp .NotIn a b S = (opt (inD S a b) S).bind fun r S => .ok (.bl (!r)) S := by simp only [opCmp]
theorem eq_int (i j : Int) (S : Sto) : eqD S (.int i) (.int j) = some (decide (i = j)) := by simp only [eqD]
theorem eq_str (i j : Str) (S : Sto) : eqD S (.str i) (.str j) = some (decide (i = j)) := by simp only [eqD]
theorem tr_bl (b : Bool) (S : Sto) : truthD S (.bl b) = some b := by simp only [truthD]
theorem ix_int (S : Sto) (a : D) (i : Int) : ixD S a (.int i) = (seqOf S a).bind fun xs => atD xs i := by
  simp only [ixD]
  cases seqOf S a <;> rfl
theorem seq_tup (S : Sto) (xs : List D) : seqOf S (.tup xs) = some xs := rfl
theorem seq_fl (S : Sto) (xs : List D) : seqOf S (.fl xs) = some xs := rfl
theorem seq_loc {S : Sto} {n : Nat} {xs : List D} (h : S[n]? = some (.lst xs)) : seqOf S (.loc n) = some xs := getLst_at h
theorem at_0 (x : D) (xs : List D) : atD (x :: xs) 0 = some x := by simp [atD, L2.atI, L2.ixN]
theorem at_1 (x y : D) (xs : List D) : atD (x :: y :: xs) 1 = some y := by
  unfold atD L2.atI L2.ixN
  rw [if_pos (by decide), if_pos (by simp; omega)]; rfl
theorem at_2 (x y z : D) (xs : List D) : atD (x :: y :: z :: xs) 2 = some z := by
  unfold atD L2.atI L2.ixN
  rw [if_pos (by decide), if_pos (by simp; omega)]; rfl
theorem at_3 (x y z w : D) (xs : List D) : atD (x :: y :: z :: w :: xs) 3 = some w := by
  unfold atD L2.atI L2.ixN
  rw [if_pos (by decide), if_pos (by simp; omega)]; rfl
end Mi
set_option Elab.async false
set_option linter.all false
set_option maxRecDepth 100000
set_option maxHeartbeats 4000000
namespace K02
open Mi PySem
def top (i : Nat) : PySem.Stmt := PySem.Challenge.pw_likewebs_k02_one_behind_the_other.main.body.getD i (.Pass ⟨0, 0, 0, 0⟩)
def b_stays : List MS := [.ret (.trg (.cst (.int 0)) (.var 0))]
def d_stays : DD := ⟨"stays", ⟨1, 1, b_stays⟩, ⟨("stays", none), "stays", "stays", L2.defArgs (top 1), L2.defBody (top 1), L2.defScope (top 1), [], []⟩, ["many"], ["many"]⟩
def b_then : List MS := [.ret (.bi .tuple (.cons (.lc (.ix (.var 1) (.var 2)) (.nm 2) (.ex (.var 0)) .nil [2]) .nil))]
def d_then : DD := ⟨"then", ⟨2, 3, b_then⟩, ⟨("then", none), "then", "then", L2.defArgs (top 2), L2.defBody (top 2), L2.defScope (top 2), [], []⟩, ["first", "second", "number"], ["first", "second"]⟩
def b_back : List MS := [.asg (.nm 1) (.bi .list (.cons (.var 0) .nil)), .forr (.tup (.cons (.nm 2) (.cons (.nm 3) .nil))) (.enm (.var 0)) [.asg (.sub (.var 1) (.var 3)) (.var 2)], .ret (.bi .tuple (.cons (.var 1) .nil))]
def d_back : DD := ⟨"back", ⟨1, 4, b_back⟩, ⟨("back", none), "back", "back", L2.defArgs (top 3), L2.defBody (top 3), L2.defScope (top 3), [], []⟩, ["naming", "found", "corner", "number"], ["naming"]⟩
def b_law_stream : List MS := [.asg (.nm 2) (.lc (.bin .Add (.bin .Mult (.cst (.int 2)) (.bi .abs (.cons (.var 4) .nil))) (.bi .int (.cons (.cmp .Lt (.var 4) (.cst (.int 0))) .nil))) (.nm 4) (.ex (.bin .Add (.slc (.var 0) (.yes (.var 1)) .no) (.slc (.var 0) .no (.yes (.var 1))))) .nil [4]), .asg (.nm 3) (.lc (.var 4) (.nm 4) (.ex (.slc (.var 2) .no (.yes (.bi .int (.cons (.cmp .Lt (.var 1) (.bi .len (.cons (.var 0) .nil))) .nil))))) (.cons (.cmp .GtE (.var 4) (.bin .Mult (.cst (.int 2)) (.bin .Pow (.cst (.int 10)) (.cst (.int 18))))) .nil) [4]), .ret (.lst (.cons (.var 3) (.cons (.bin .Add (.lc (.bin .Mod (.var 4) (.cst (.int 2305843009213693951))) (.nm 4) (.ex (.var 2)) .nil [4]) (.lst (.cons (.var 1) .nil))) (.cons (.cst (.int 0)) (.cons (.bin .Add (.bi .len (.cons (.var 2) .nil)) (.bin .Mult (.cst (.int 7)) (.var 1))) .nil)))))]
def d_law_stream : DD := ⟨"_law_stream", ⟨2, 5, b_law_stream⟩, ⟨("_law_stream", none), "_law_stream", "_law_stream", L2.defArgs (top 5), L2.defBody (top 5), L2.defScope (top 5), [], []⟩, ["_law_script", "_law_k", "_law_cells", "_law_great", "_law_cell"], ["_law_script", "_law_k"]⟩
def b_law_take : List MS := [.whil (.and (.cons (.cmp .NotEq (.ix (.var 0) (.cst (.int 0))) (.lst .nil)) (.cons (.cmp .Eq (.ix (.ix (.var 0) (.cst (.int 0))) (.cst (.int 0))) (.cst (.int 0))) .nil))) [.expr (.mt .pop (.ix (.var 0) (.cst (.int 0))) (.cons (.cst (.int 0)) .nil))], .ite (.cmp .NotEq (.ix (.var 0) (.cst (.int 0))) (.lst .nil)) [.asg (.nm 2) (.bin .Mod (.ix (.ix (.var 0) (.cst (.int 0))) (.cst (.int 0))) (.var 1)), .asg (.sub (.ix (.var 0) (.cst (.int 0))) (.cst (.int 0))) (.bin .FloorDiv (.ix (.ix (.var 0) (.cst (.int 0))) (.cst (.int 0))) (.var 1)), .ret (.var 2)] [], .asg (.nm 3) (.ix (.ix (.var 0) (.cst (.int 1))) (.bin .Mod (.ix (.var 0) (.cst (.int 2))) (.bi .len (.cons (.ix (.var 0) (.cst (.int 1))) .nil)))), .asg (.sub (.var 0) (.cst (.int 2))) (.bin .Add (.ix (.var 0) (.cst (.int 2))) (.cst (.int 1))), .asg (.sub (.var 0) (.cst (.int 3))) (.bin .Mod (.bin .Add (.bin .Add (.bin .Mult (.ix (.var 0) (.cst (.int 3))) (.cst (.int 48271))) (.bin .Mult (.var 3) (.cst (.int 69621)))) (.ix (.var 0) (.cst (.int 2)))) (.cst (.int 2305843009213693951))), .ret (.bin .Mod (.bin .Mod (.bin .Mult (.ix (.var 0) (.cst (.int 3))) (.ix (.var 0) (.cst (.int 3)))) (.cst (.int 2147483629))) (.var 1))]
def d_law_take : DD := ⟨"_law_take", ⟨2, 4, b_law_take⟩, ⟨("_law_take", none), "_law_take", "_law_take", L2.defArgs (top 6), L2.defBody (top 6), L2.defScope (top 6), [], []⟩, ["_law_stream_here", "_law_most", "_law_digit", "_law_cell"], ["_law_stream_here", "_law_most"]⟩
def b_law_naming : List MS := [.asg (.nm 2) (.lrg (.cst (.int 0)) (.var 1)), .asg (.nm 3) (.lst .nil), .forr (.nm 4) (.rng (.cst (.int 0)) (.var 1)) [.expr (.mt .append (.var 3) (.cons (.mt .pop (.var 2) (.cons (.call "_law_take" (.cons (.var 0) (.cons (.bi .len (.cons (.var 2) .nil)) .nil))) .nil)) .nil))], .ret (.bi .tuple (.cons (.var 3) .nil))]
def d_law_naming : DD := ⟨"_law_naming", ⟨2, 5, b_law_naming⟩, ⟨("_law_naming", none), "_law_naming", "_law_naming", L2.defArgs (top 7), L2.defBody (top 7), L2.defScope (top 7), [], []⟩, ["_law_stream_here", "_law_many", "_law_left", "_law_found", "_law_turn"], ["_law_stream_here", "_law_many"]⟩
def b_law_then : List MS := [.asg (.nm 2) (.lst .nil), .forr (.nm 3) (.rng (.cst (.int 0)) (.bi .len (.cons (.var 0) .nil))) [.expr (.mt .append (.var 2) (.cons (.ix (.var 1) (.ix (.var 0) (.var 3))) .nil))], .ret (.bi .tuple (.cons (.var 2) .nil))]
def d_law_then : DD := ⟨"_law_then", ⟨2, 4, b_law_then⟩, ⟨("_law_then", none), "_law_then", "_law_then", L2.defArgs (top 8), L2.defBody (top 8), L2.defScope (top 8), [], []⟩, ["_law_first", "_law_second", "_law_found", "_law_corner"], ["_law_first", "_law_second"]⟩
def b_law_back : List MS := [.ret (.bi .tuple (.cons (.lc (.mt .index (.bi .list (.cons (.var 0) .nil)) (.cons (.var 1) .nil)) (.nm 1) (.rng (.cst (.int 0)) (.bi .len (.cons (.var 0) .nil))) .nil [1]) .nil))]
def d_law_back : DD := ⟨"_law_back", ⟨1, 2, b_law_back⟩, ⟨("_law_back", none), "_law_back", "_law_back", L2.defArgs (top 9), L2.defBody (top 9), L2.defScope (top 9), [], []⟩, ["_law_naming_here", "_law_corner"], ["_law_naming_here"]⟩
def b_law_two_right : List MS := [.asg (.nm 2) (.call "_law_then" (.cons (.var 0) (.cons (.var 1) .nil))), .ite (.or (.cons (.cmp .NotEq (.bi .repr (.cons (.call "then" (.cons (.var 0) (.cons (.var 1) .nil))) .nil)) (.bi .repr (.cons (.var 2) .nil))) (.cons (.cmp .NotEq (.bi .repr (.cons (.call "back" (.cons (.var 0) .nil)) .nil)) (.bi .repr (.cons (.call "_law_back" (.cons (.var 0) .nil)) .nil))) .nil))) [.ret (.cst (.bl false))] [], .ite (.or (.cons (.cmp .NotEq (.bi .repr (.cons (.call "then" (.cons (.var 0) (.cons (.call "back" (.cons (.var 0) .nil)) .nil))) .nil)) (.bi .repr (.cons (.call "stays" (.cons (.bi .len (.cons (.var 0) .nil)) .nil)) .nil))) (.cons (.cmp .NotEq (.bi .repr (.cons (.call "back" (.cons (.call "back" (.cons (.var 0) .nil)) .nil)) .nil)) (.bi .repr (.cons (.var 0) .nil))) .nil))) [.ret (.cst (.bl false))] [], .ite (.cmp .NotEq (.bi .repr (.cons (.call "then" (.cons (.call "back" (.cons (.var 1) .nil)) (.cons (.var 1) .nil))) .nil)) (.bi .repr (.cons (.trg (.cst (.int 0)) (.bi .len (.cons (.var 1) .nil))) .nil))) [.ret (.cst (.bl false))] [], .ite (.or (.cons (.cmp .NotEq (.bi .repr (.cons (.call "then" (.cons (.var 0) (.cons (.call "stays" (.cons (.bi .len (.cons (.var 0) .nil)) .nil)) .nil))) .nil)) (.bi .repr (.cons (.var 0) .nil))) (.cons (.cmp .NotEq (.bi .repr (.cons (.call "then" (.cons (.call "stays" (.cons (.bi .len (.cons (.var 0) .nil)) .nil)) (.cons (.var 0) .nil))) .nil)) (.bi .repr (.cons (.var 0) .nil))) .nil))) [.ret (.cst (.bl false))] [], .ret (.cmp .Eq (.call "back" (.cons (.var 2) .nil)) (.call "then" (.cons (.call "back" (.cons (.var 1) .nil)) (.cons (.call "back" (.cons (.var 0) .nil)) .nil))))]
def d_law_two_right : DD := ⟨"_law_two_right", ⟨2, 3, b_law_two_right⟩, ⟨("_law_two_right", none), "_law_two_right", "_law_two_right", L2.defArgs (top 10), L2.defBody (top 10), L2.defScope (top 10), [], []⟩, ["_law_first", "_law_second", "_law_due"], ["_law_first", "_law_second"]⟩
def b_law : List MS := [.forr (.nm 1) (.rng (.cst (.int 0)) (.bi .max (.cons (.cst (.int 2)) (.cons (.bi .min (.cons (.cst (.int 8)) (.cons (.bi .len (.cons (.var 0) .nil)) .nil))) .nil)))) [.asg (.nm 2) (.call "_law_stream" (.cons (.var 0) (.cons (.var 1) .nil))), .asg (.nm 3) (.call "_law_take" (.cons (.var 2) (.cons (.cst (.int 13)) .nil))), .asg (.nm 4) (.bi .tuple (.cons (.lc (.bin .Mod (.bin .Add (.var 14) (.cst (.int 1))) (.var 3)) (.nm 14) (.rng (.cst (.int 0)) (.var 3)) .nil [14]) .nil)), .asg (.nm 5) (.bin .Add (.lc (.call "_law_naming" (.cons (.var 2) (.cons (.var 3) .nil))) (.nm 6) (.rng (.cst (.int 0)) (.cst (.int 3))) .nil [6]) (.lst (.cons (.var 4) .nil))), .asg (.nm 6) (.call "_law_take" (.cons (.var 2) (.cons (.cst (.int 4)) .nil))), .asg (.tup (.cons (.nm 7) (.cons (.nm 8) (.cons (.nm 9) (.cons (.nm 10) .nil))))) (.bin .Add (.slc (.var 5) (.yes (.var 6)) .no) (.slc (.var 5) .no (.yes (.var 6)))), .forr (.tup (.cons (.nm 11) (.cons (.nm 12) .nil))) (.ex (.lst (.cons (.tup (.cons (.var 7) (.cons (.var 8) .nil))) (.cons (.tup (.cons (.var 8) (.cons (.var 9) .nil))) (.cons (.tup (.cons (.var 9) (.cons (.var 10) .nil))) (.cons (.tup (.cons (.var 8) (.cons (.var 7) .nil))) (.cons (.tup (.cons (.var 7) (.cons (.var 8) .nil))) (.cons (.tup (.cons (.var 7) (.cons (.var 7) .nil))) .nil)))))))) [.ite (.not (.call "_law_two_right" (.cons (.var 11) (.cons (.var 12) .nil)))) [.ret (.cst (.bl false))] []], .ite (.cmp .NotEq (.call "then" (.cons (.call "then" (.cons (.var 7) (.cons (.var 8) .nil))) (.cons (.var 9) .nil))) (.call "then" (.cons (.var 7) (.cons (.call "then" (.cons (.var 8) (.cons (.var 9) .nil))) .nil)))) [.ret (.cst (.bl false))] [], .asg (.nm 13) (.call "_law_then" (.cons (.call "_law_then" (.cons (.var 7) (.cons (.var 8) .nil))) (.cons (.call "_law_then" (.cons (.var 9) (.cons (.var 10) .nil))) .nil))), .ite (.cmp .NotEq (.bi .repr (.cons (.call "then" (.cons (.call "then" (.cons (.var 7) (.cons (.var 8) .nil))) (.cons (.call "then" (.cons (.var 9) (.cons (.var 10) .nil))) .nil))) .nil)) (.bi .repr (.cons (.var 13) .nil))) [.ret (.cst (.bl false))] []], .ret (.cst (.bl true))]
def d_law : DD := ⟨"law", ⟨1, 15, b_law⟩, ⟨("law", none), "law", "law", L2.defArgs (top 11), L2.defBody (top 11), L2.defScope (top 11), [], []⟩, ["_law_script", "_law_k", "_law_stream_here", "_law_many", "_law_round_all", "_law_some", "_law_turn", "_law_one", "_law_two", "_law_three", "_law_four", "_law_first", "_law_second", "_law_due", "_law_corner"], ["_law_script"]⟩
def ds : List DD := [d_stays, d_then, d_back, d_law_stream, d_law_take, d_law_naming, d_law_then, d_law_back, d_law_two_right, d_law]
def lawAt : Nat := 11
def loose : List PySem.Str := ["stays", "then", "back", "_law_stream", "_law_take", "_law_naming", "_law_then", "_law_back", "_law_two_right"]
theorem checked : (ds.all fun x => x.ok (namesOf ds)) = true := by decide +kernel
end K02
set_option Elab.async false
set_option linter.all false
set_option maxRecDepth 100000
set_option maxHeartbeats 400000
namespace K02
open Mi PySem
/-- second behind first -/
def comp (p q : List Nat) : List Nat := p.map fun i => q.getD i 0
def inv (p : List Nat) : List Nat := (List.range p.length).map fun c => p.idxOf c
def IsP (m : Nat) (p : List Nat) : Prop := p.Perm (List.range m)
namespace IsP
variable {m : Nat} {p q r : List Nat}
theorem len (h : IsP m p) : p.length = m := by simpa using List.Perm.length_eq h
theorem nd (h : IsP m p) : p.Nodup := (List.Perm.nodup_iff h).mpr List.nodup_range
theorem mem (h : IsP m p) {x : Nat} : x ∈ p ↔ x < m := by rw [List.Perm.mem_iff h, List.mem_range]
theorem id (m : Nat) : IsP m (List.range m) := List.Perm.refl _
theorem getD (h : IsP m p) {i : Nat} (hi : i < m) : p.getD i 0 < m := by
  have hi' : i < p.length := by rw [h.len]; exact hi
  rw [List.getD_eq_getElem?_getD, List.getElem?_eq_getElem hi', Option.getD_some]
  exact h.mem.mp (List.getElem_mem hi')
theorem map_range (hq : q.length = m) : (List.range m).map (fun i => q.getD i 0) = q := by
  refine List.ext_getElem (by simp [hq]) fun i h1 h2 => ?_
  simp [List.getD_eq_getElem?_getD, List.getElem?_eq_getElem h2]
theorem comp (hp : IsP m p) (hq : IsP m q) : IsP m (comp p q) := by
  have := List.Perm.map (fun i => q.getD i 0) hp
  rw [map_range hq.len] at this
  exact this.trans hq
theorem idx (h : IsP m p) {i : Nat} (hi : i < m) : p.idxOf (p.getD i 0) = i := by
  have hi' : i < p.length := by rw [h.len]; exact hi
  rw [List.getD_eq_getElem?_getD, List.getElem?_eq_getElem hi', Option.getD_some]
  exact List.Nodup.idxOf_getElem h.nd i hi'
theorem at_idx (h : IsP m p) {c : Nat} (hc : c < m) : p.getD (p.idxOf c) 0 = c := by
  have hm := h.mem.mpr hc
  have hl := List.idxOf_lt_length_iff.mpr hm
  rw [List.getD_eq_getElem?_getD, List.getElem?_eq_getElem hl, Option.getD_some]
  exact List.getElem_idxOf hl
theorem idx_lt (h : IsP m p) {c : Nat} (hc : c < m) : p.idxOf c < m := by
  rw [← h.len]; exact List.idxOf_lt_length_iff.mpr (h.mem.mpr hc)
theorem inv (h : IsP m p) : IsP m (inv p) := by
  unfold K02.inv
  rw [h.len]
  have := List.Perm.map (fun c => p.idxOf c) (List.Perm.symm h)
  refine this.trans ?_
  have e : p.map (fun c => p.idxOf c) = List.range m := by
    refine List.ext_getElem (by simp [h.len]) fun i h1 h2 => ?_
    have hi : i < m := by simpa using h2
    have := h.idx hi
    have hi' : i < p.length := by rw [h.len]; exact hi
    rw [List.getD_eq_getElem?_getD, List.getElem?_eq_getElem hi', Option.getD_some] at this
    simpa using this
  rw [e]
theorem inv_getD (h : IsP m p) {c : Nat} (hc : c < m) : (K02.inv p).getD c 0 = p.idxOf c := by
  unfold K02.inv
  rw [h.len, List.getD_eq_getElem?_getD]
  simp [hc]
theorem comp_getD (hp : IsP m p) {i : Nat} (hi : i < m) : (K02.comp p q).getD i 0 = q.getD (p.getD i 0) 0 := by
  unfold K02.comp
  have hi' : i < p.length := by rw [hp.len]; exact hi
  simp [List.getD_eq_getElem?_getD, List.getElem?_eq_getElem hi']
theorem ext' (hp : IsP m p) (hq : IsP m q) (h : ∀ i, i < m → p.getD i 0 = q.getD i 0) : p = q := by
  refine List.ext_getElem (by rw [hp.len, hq.len]) fun i h1 h2 => ?_
  have := h i (by rw [← hp.len]; exact h1)
  simpa [List.getD_eq_getElem?_getD, List.getElem?_eq_getElem h1, List.getElem?_eq_getElem h2] using this
theorem range_getD {i : Nat} (hi : i < m) : (List.range m).getD i 0 = i := by
  rw [List.getD_eq_getElem?_getD]; simp [hi]
theorem comp_inv (hp : IsP m p) : K02.comp p (K02.inv p) = List.range m := by
  refine ext' (hp.comp hp.inv) (IsP.id m) fun i hi => ?_
  rw [comp_getD hp hi, hp.inv_getD (hp.getD hi), hp.idx hi, range_getD hi]
theorem inv_inv (hp : IsP m p) : K02.inv (K02.inv p) = p := by
  refine ext' hp.inv.inv hp fun i hi => ?_
  rw [hp.inv.inv_getD hi]
  have h1 := hp.getD hi
  have := hp.inv.idx h1
  rw [hp.inv_getD h1, hp.idx hi] at this
  exact this
theorem inv_comp (hp : IsP m p) : K02.comp (K02.inv p) p = List.range m := by
  refine ext' (hp.inv.comp hp) (IsP.id m) fun i hi => ?_
  rw [comp_getD hp.inv hi, hp.inv_getD hi, hp.at_idx hi, range_getD hi]
theorem comp_id (hp : IsP m p) : K02.comp p (List.range m) = p := by
  refine ext' (hp.comp (IsP.id m)) hp fun i hi => ?_
  rw [comp_getD hp hi, range_getD (hp.getD hi)]
theorem id_comp (hp : IsP m p) : K02.comp (List.range m) p = p := by
  refine ext' ((IsP.id m).comp hp) hp fun i hi => ?_
  rw [comp_getD (IsP.id m) hi, range_getD hi]
theorem assoc (hp : IsP m p) (hq : IsP m q) (hr : IsP m r) : K02.comp (K02.comp p q) r = K02.comp p (K02.comp q r) := by
  refine ext' ((hp.comp hq).comp hr) (hp.comp (hq.comp hr)) fun i hi => ?_
  rw [comp_getD (hp.comp hq) hi, comp_getD hp hi, comp_getD hp hi, comp_getD hq (hp.getD hi)]
theorem inv_of_comp (hp : IsP m p) (hq : IsP m q) : K02.inv (K02.comp p q) = K02.comp (K02.inv q) (K02.inv p) := by
  refine ext' (hp.comp hq).inv (hq.inv.comp hp.inv) fun i hi => ?_
  rw [(hp.comp hq).inv_getD hi, comp_getD hq.inv hi, hq.inv_getD hi, hp.inv_getD (hq.idx_lt hi)]
  have h1 := hp.idx_lt (hq.idx_lt hi)
  have := (hp.comp hq).idx h1
  rw [comp_getD hp h1, hp.at_idx (hq.idx_lt hi), hq.at_idx hi] at this
  exact this
/-- the round: each to the next -/
theorem round (m : Nat) : IsP m ((List.range m).map fun c => (c + 1) % m) := by
  cases m with
  | zero => exact List.Perm.refl _
  | succ k =>
    have e : (List.range (k + 1)).map (fun c => (c + 1) % (k + 1)) = (List.range k).map (· + 1) ++ [0] := by
      rw [List.range_succ, List.map_append]
      congr 1
      · refine List.map_congr_left fun x hx => ?_
        rw [Nat.mod_eq_of_lt (by have := List.mem_range.mp hx; omega)]
      · simp
    unfold IsP
    rw [e, List.range_succ_eq_map]
    exact (List.perm_append_comm (l₁ := (List.range k).map (· + 1)) (l₂ := [0]))
end IsP
end K02
set_option Elab.async false
set_option linter.all false
set_option maxRecDepth 100000
set_option maxHeartbeats 400000
namespace K02
open Mi PySem
def M : MP := ⟨defsOf ds, [], 200⟩
def tupN (p : List Nat) : D := .tup (p.map fun i => D.int (i : Nat))
theorem look_eq {f : Str} {d : MF} (h : (defsOf ds).lookup f = some d) (k : Nat) (xs : List D) (S : Sto) : callN M (k + 1) f xs S = runF (glob0 M (callN M k)) d xs S := by
  simp only [callN]
  rw [show M.defs.lookup f = some d from h]
theorem c_stays (k : Nat) (xs : List D) (S : Sto) : callN M (k + 1) "stays" xs S = runF (glob0 M (callN M k)) ⟨1, 1, b_stays⟩ xs S := look_eq (by kernel_rfl) k xs S
theorem c_then (k : Nat) (xs : List D) (S : Sto) : callN M (k + 1) "then" xs S = runF (glob0 M (callN M k)) ⟨2, 3, b_then⟩ xs S := look_eq (by kernel_rfl) k xs S
theorem c_back (k : Nat) (xs : List D) (S : Sto) : callN M (k + 1) "back" xs S = runF (glob0 M (callN M k)) ⟨1, 4, b_back⟩ xs S := look_eq (by kernel_rfl) k xs S
theorem c_stream (k : Nat) (xs : List D) (S : Sto) : callN M (k + 1) "_law_stream" xs S = runF (glob0 M (callN M k)) ⟨2, 5, b_law_stream⟩ xs S := look_eq (by kernel_rfl) k xs S
theorem c_take (k : Nat) (xs : List D) (S : Sto) : callN M (k + 1) "_law_take" xs S = runF (glob0 M (callN M k)) ⟨2, 4, b_law_take⟩ xs S := look_eq (by kernel_rfl) k xs S
theorem c_naming (k : Nat) (xs : List D) (S : Sto) : callN M (k + 1) "_law_naming" xs S = runF (glob0 M (callN M k)) ⟨2, 5, b_law_naming⟩ xs S := look_eq (by kernel_rfl) k xs S
theorem c_lthen (k : Nat) (xs : List D) (S : Sto) : callN M (k + 1) "_law_then" xs S = runF (glob0 M (callN M k)) ⟨2, 4, b_law_then⟩ xs S := look_eq (by kernel_rfl) k xs S
theorem c_lback (k : Nat) (xs : List D) (S : Sto) : callN M (k + 1) "_law_back" xs S = runF (glob0 M (callN M k)) ⟨1, 2, b_law_back⟩ xs S := look_eq (by kernel_rfl) k xs S
theorem c_two (k : Nat) (xs : List D) (S : Sto) : callN M (k + 1) "_law_two_right" xs S = runF (glob0 M (callN M k)) ⟨2, 3, b_law_two_right⟩ xs S := look_eq (by kernel_rfl) k xs S
theorem c_law (k : Nat) (xs : List D) (S : Sto) : callN M (k + 1) "law" xs S = runF (glob0 M (callN M k)) ⟨1, 15, b_law⟩ xs S := look_eq (by kernel_rfl) k xs S

theorem rg_ok {m : Nat} (h : m < 1000) : L2.RgOk 0 (m : Int) := by unfold L2.RgOk; omega
theorem range_ints (m : Nat) : ((List.range ((m : Int) - 0).toNat).map fun k => D.int (0 + (k : Nat))) = (List.range m).map fun i => D.int (i : Nat) := by
  have : ((m : Int) - 0).toNat = m := by omega
  rw [this]
  refine List.map_congr_left fun x _ => ?_
  rw [Int.zero_add]
theorem at_nat {xs : List D} {n : Nat} {d : D} (h : xs[n]? = some d) : atD xs (n : Int) = some d := by
  unfold atD L2.atI L2.ixN
  have hl := (List.getElem?_eq_some_iff.mp h).1
  have h1 : ¬ ((n : Int) < 0) := by omega
  simp [h1, hl, h]
  exact (List.getElem?_eq_some_iff.mp h).2
theorem map_at {p : List Nat} {n : Nat} (h : n < p.length) : (p.map fun i => D.int (i : Nat))[n]? = some (.int (p.getD n 0)) := by
  rw [List.getElem?_map, List.getElem?_eq_getElem h, List.getD_eq_getElem?_getD, List.getElem?_eq_getElem h]
  rfl
theorem map_at' {p : List Nat} {n : Nat} {x : D} (h : (p.map fun i => D.int (i : Nat))[n]? = some x) : n < p.length ∧ x = .int (p.getD n 0) := by
  have hl : n < p.length := by
    have := (List.getElem?_eq_some_iff.mp h).1
    simpa using this
  rw [map_at hl] at h
  exact ⟨hl, by cases h; rfl⟩
theorem take_next {p : List Nat} {n : Nat} (h : n < p.length) : ((p.take n).map fun i => D.int (i : Nat)) ++ [D.int (p.getD n 0)] = (p.take (n + 1)).map fun i => D.int (i : Nat) := by
  rw [List.take_succ, List.map_append, List.getElem?_eq_getElem h, List.getD_eq_getElem?_getD, List.getElem?_eq_getElem h]
  rfl
theorem small_size {n m : Nat} (hn : n ≤ m) (hm : m < 1000) : n < sizeLine := by
  have : (1000 : Nat) < sizeLine := by decide
  omega
theorem seq_new (S : Sto) (xs : List D) : seqOf (S ++ [O.lst xs]) (.loc S.length) = some xs := getLst_at (at_app _)
theorem r_stays {k m : Nat} {i : Int} {S : Sto} {P : D → Sto → Prop} (h : m < 1000) (hi : i = (m : Nat)) (hP : P (tupN (List.range m)) S) : Runs (callN M (k + 1) "stays" [.int i] S) P := by
  rw [c_stays]
  refine runs_body (by rfl) ?_
  simp only [b_stays, runS_nil, runS_one, ex, ev, evT, evTs, evs, evO, evI, asgG, asgGs, tAnd, tOr, evAnd, evOr, lookE, enter, glob0, bi_repr, bi_list, bi_tuple, bi_abs, bi_int, bi_intb, bi_max, bi_min, bi_lent, bi_lenf, bi_lenl, op_add, op_addt, op_sub, op_mul, op_div, op_mod, op_pow, cp_eq, cp_ne, cp_lt, cp_le, cp_gt, cp_ge, cp_in, cp_nin, eq_int, eq_str, tr_bl, ix_int, seq_tup, seq_fl, at_0, at_1, at_2, at_3, runs_ok, runs_bad, runs_bind, runs_grd, runs_opt, runs_calmly, runs_ite, runs_alloc, runS_nx, runS_rt, runS_bk, runS_ct, runS_atE, runS_bindE, runS_bindD, runS_seq, runS_turn, runS_ite, List.map_cons, List.map_nil, List.length_cons, List.length_nil, List.replicate, List.nil_append, List.cons_append, List.getElem?_cons_zero, List.getElem?_cons_succ, List.set_cons_zero, List.set_cons_succ, Option.bind_some, id_eq, Option.some.injEq, exists_eq_left', wipeE, lenGs, if_true, if_false, ↓reduceIte, Bool.false_eq_true, Bool.not_true, Bool.not_false, decide_true, decide_false, runS_cons]
  subst hi
  refine And.intro (rg_ok h) ?_
  rw [range_ints]
  exact hP
theorem r_then {k m : Nat} {p q : List Nat} {S : Sto} {P : D → Sto → Prop} (hm : m < 1000) (hp : IsP m p) (hq : IsP m q) (hP : ∀ S', Kp S S' → P (tupN (comp p q)) S') : Runs (callN M (k + 1) "then" [tupN p, tupN q] S) P := by
  rw [c_then]
  refine runs_body (by rfl) ?_
  simp only [b_then, tupN, runS_nil, runS_one, ex, ev, evT, evTs, evs, evO, evI, asgG, asgGs, tAnd, tOr, evAnd, evOr, lookE, enter, glob0, bi_repr, bi_list, bi_tuple, bi_abs, bi_int, bi_intb, bi_max, bi_min, bi_lent, bi_lenf, bi_lenl, op_add, op_addt, op_sub, op_mul, op_div, op_mod, op_pow, cp_eq, cp_ne, cp_lt, cp_le, cp_gt, cp_ge, cp_in, cp_nin, eq_int, eq_str, tr_bl, ix_int, seq_tup, seq_fl, at_0, at_1, at_2, at_3, runs_ok, runs_bad, runs_bind, runs_grd, runs_opt, runs_calmly, runs_ite, runs_alloc, runS_nx, runS_rt, runS_bk, runS_ct, runS_atE, runS_bindE, runS_bindD, runS_seq, runS_turn, runS_ite, List.map_cons, List.map_nil, List.length_cons, List.length_nil, List.replicate, List.nil_append, List.cons_append, List.getElem?_cons_zero, List.getElem?_cons_succ, List.set_cons_zero, List.set_cons_succ, Option.bind_some, id_eq, Option.some.injEq, exists_eq_left', wipeE, lenGs, if_true, if_false, ↓reduceIte, Bool.false_eq_true, Bool.not_true, Bool.not_false, decide_true, decide_false, runS_cons]
  refine lc_fix (fun i acc S' => acc = ((comp p q).take i).map (fun i => D.int (i : Nat)) ∧ S' = S) ⟨rfl, rfl⟩ ?_ ?_
  · rintro i x acc S' hx ⟨rfl, rfl⟩
    obtain ⟨hi, rfl⟩ := map_at' hx
    rw [hp.len] at hi
    simp only [lcStep, runs_ok, runs_bad, runs_bind, runs_grd, runs_opt, runs_calmly, runs_ite, runs_alloc, runS_nx, runS_rt, runS_bk, runS_ct, runS_atE, runS_bindE, runS_bindD, runS_seq, runS_turn, runS_ite, List.map_cons, List.map_nil, List.length_cons, List.length_nil, List.replicate, List.nil_append, List.cons_append, List.getElem?_cons_zero, List.getElem?_cons_succ, List.set_cons_zero, List.set_cons_succ, Option.bind_some, id_eq, Option.some.injEq, exists_eq_left', wipeE, lenGs, if_true, if_false, ↓reduceIte, Bool.false_eq_true, Bool.not_true, Bool.not_false, decide_true, decide_false, runS_cons]
    refine ⟨_, at_nat (map_at (by rw [hq.len]; exact hp.getD hi)), ?_⟩
    have hl : (comp p q).length = m := (hp.comp hq).len
    refine ⟨small_size (by simp; omega) hm, ?_, trivial⟩
    rw [← IsP.comp_getD hp hi]
    exact take_next (by omega)
  · rintro acc S' ⟨rfl, rfl⟩
    have e : (p.map fun i => D.int (i : Nat)).length = (comp p q).length := by simp [comp]
    rw [e, List.take_length]
    rw [seq_new]
    simp only [List.map_cons, List.map_nil, List.length_cons, List.length_nil, List.replicate, List.nil_append, List.cons_append, List.getElem?_cons_zero, List.getElem?_cons_succ, List.set_cons_zero, List.set_cons_succ, Option.bind_some, id_eq, Option.some.injEq, exists_eq_left', wipeE, lenGs, if_true, if_false, ↓reduceIte, Bool.false_eq_true, Bool.not_true, Bool.not_false, decide_true, decide_false]
    exact hP _ (Kp.app _ _)

theorem set_nat {S : Sto} {L n : Nat} {xs : List D} {v : D} (h : S[L]? = some (.lst xs)) (hn : n < xs.length) : setIx (.loc L) (.int (n : Nat)) v S = .ok () (S.set L (.lst (xs.set n v))) := by
  have h1 : L2.ixN xs.length (n : Int) = some n := by
    unfold L2.ixN
    simp [hn]
  simp only [setIx, h, h1]
theorem nl_set {p : List Nat} {n v : Nat} : (p.map fun i => D.int (i : Nat)).set n (.int (v : Nat)) = (p.set n v).map fun i => D.int (i : Nat) := by
  rw [List.map_set]
def half (p : List Nat) (i : Nat) : List Nat := (List.range p.length).map fun c => if p.idxOf c < i then p.idxOf c else p.getD c 0
theorem half_zero {p : List Nat} : half p 0 = p := by
  unfold half
  simp only [Nat.not_lt_zero, if_false]
  exact IsP.map_range rfl
theorem half_end {m : Nat} {p : List Nat} (hp : IsP m p) : half p m = inv p := by
  unfold half inv
  refine List.map_congr_left fun c hc => ?_
  rw [List.mem_range, hp.len] at hc
  rw [if_pos (hp.idx_lt hc)]
theorem half_step {m : Nat} {p : List Nat} (hp : IsP m p) {i : Nat} (hi : i < m) : (half p i).set (p.getD i 0) i = half p (i + 1) := by
  unfold half
  refine List.ext_getElem (by simp) fun c h1 h2 => ?_
  have hc : c < m := by simp [hp.len] at h2; exact h2
  rw [List.getElem_set]
  by_cases e : p.getD i 0 = c
  · rw [if_pos e]
    subst e
    simp only [List.getElem_map, List.getElem_range]
    rw [hp.idx hi, if_pos (Nat.lt_succ_self i)]
  · rw [if_neg e]
    simp only [List.getElem_map, List.getElem_range]
    have ne : p.idxOf c ≠ i := fun z => e (by rw [← z]; exact hp.at_idx hc)
    by_cases z : p.idxOf c < i
    · rw [if_pos z, if_pos (by omega)]
    · rw [if_neg z, if_neg (by omega)]
theorem enum_at {ds : List D} {i : Nat} {x : D} (h : ((List.range ds.length).zipWith (fun (k : Nat) (x : D) => D.tup [.int (k : Nat), x]) ds)[i]? = some x) : ∃ d, ds[i]? = some d ∧ x = .tup [.int (i : Nat), d] := enum_get h
theorem r_back {k m : Nat} {p : List Nat} {S : Sto} {P : D → Sto → Prop} (hm : m < 1000) (hp : IsP m p) (hP : ∀ S', Kp S S' → P (tupN (inv p)) S') : Runs (callN M (k + 1) "back" [tupN p] S) P := by
  rw [c_back]
  refine runs_body (by rfl) ?_
  simp only [b_back, tupN, runS_nil, runS_one, ex, ev, evT, evTs, evs, evO, evI, asgG, asgGs, tAnd, tOr, evAnd, evOr, lookE, enter, glob0, bi_repr, bi_list, bi_tuple, bi_abs, bi_int, bi_intb, bi_max, bi_min, bi_lent, bi_lenf, bi_lenl, op_add, op_addt, op_sub, op_mul, op_div, op_mod, op_pow, cp_eq, cp_ne, cp_lt, cp_le, cp_gt, cp_ge, cp_in, cp_nin, eq_int, eq_str, tr_bl, ix_int, seq_tup, seq_fl, at_0, at_1, at_2, at_3, runs_ok, runs_bad, runs_bind, runs_grd, runs_opt, runs_calmly, runs_ite, runs_alloc, runS_nx, runS_rt, runS_bk, runS_ct, runS_atE, runS_bindE, runS_bindD, runS_seq, runS_turn, runS_ite, List.map_cons, List.map_nil, List.length_cons, List.length_nil, List.replicate, List.nil_append, List.cons_append, List.getElem?_cons_zero, List.getElem?_cons_succ, List.set_cons_zero, List.set_cons_succ, Option.bind_some, id_eq, Option.some.injEq, exists_eq_left', wipeE, lenGs, if_true, if_false, ↓reduceIte, Bool.false_eq_true, Bool.not_true, Bool.not_false, decide_true, decide_false, runS_cons]
  refine for_fix (fun i env S' => ∃ e2 e3, env = [some (.tup (p.map fun i => D.int (i : Nat))), some (.loc S.length), e2, e3] ∧ S'[S.length]? = some (.lst ((half p i).map fun i => D.int (i : Nat))) ∧ Kp S S') ?_ ?_ ?_
  · exact ⟨_, _, rfl, by rw [half_zero]; exact at_app _, Kp.app _ _⟩
  · rintro i x env S' hx ⟨e2, e3, rfl, hL, hk⟩
    obtain ⟨d, hd, rfl⟩ := enum_at hx
    obtain ⟨hi, rfl⟩ := map_at' hd
    rw [hp.len] at hi
    have hlen : (half p i).length = m := by simp [half, hp.len]
    have hpi := hp.getD hi
    simp only [runS_nil, runS_one, ex, ev, evT, evTs, evs, evO, evI, asgG, asgGs, tAnd, tOr, evAnd, evOr, lookE, enter, glob0, bi_repr, bi_list, bi_tuple, bi_abs, bi_int, bi_intb, bi_max, bi_min, bi_lent, bi_lenf, bi_lenl, op_add, op_addt, op_sub, op_mul, op_div, op_mod, op_pow, cp_eq, cp_ne, cp_lt, cp_le, cp_gt, cp_ge, cp_in, cp_nin, eq_int, eq_str, tr_bl, ix_int, seq_tup, seq_fl, at_0, at_1, at_2, at_3, runs_ok, runs_bad, runs_bind, runs_grd, runs_opt, runs_calmly, runs_ite, runs_alloc, runS_nx, runS_rt, runS_bk, runS_ct, runS_atE, runS_bindE, runS_bindD, runS_seq, runS_turn, runS_ite, List.map_cons, List.map_nil, List.length_cons, List.length_nil, List.replicate, List.nil_append, List.cons_append, List.getElem?_cons_zero, List.getElem?_cons_succ, List.set_cons_zero, List.set_cons_succ, Option.bind_some, id_eq, Option.some.injEq, exists_eq_left', wipeE, lenGs, if_true, if_false, ↓reduceIte, Bool.false_eq_true, Bool.not_true, Bool.not_false, decide_true, decide_false, runS_cons]
    refine ⟨trivial, ?_⟩
    rw [set_nat hL (by simp only [List.length_map]; omega)]
    simp only [runs_ok, runs_bad, runs_bind, runs_grd, runs_opt, runs_calmly, runs_ite, runs_alloc, runS_nx, runS_rt, runS_bk, runS_ct, runS_atE, runS_bindE, runS_bindD, runS_seq, runS_turn, runS_ite]
    refine ⟨_, _, rfl, ?_, hk.set (Nat.le_refl _) _⟩
    rw [at_set hL, nl_set, half_step hp hi]
  · rintro env S' ⟨e2, e3, rfl, hL, hk⟩
    have e : ((List.range (p.map fun i => D.int (i : Nat)).length).zipWith (fun (k : Nat) (x : D) => D.tup [.int (k : Nat), x]) (p.map fun i => D.int (i : Nat))).length = m := by simp [hp.len]
    rw [e, half_end hp] at hL
    simp only [runS_nil, runS_one, ex, ev, evT, evTs, evs, evO, evI, asgG, asgGs, tAnd, tOr, evAnd, evOr, lookE, enter, glob0, bi_repr, bi_list, bi_tuple, bi_abs, bi_int, bi_intb, bi_max, bi_min, bi_lent, bi_lenf, bi_lenl, op_add, op_addt, op_sub, op_mul, op_div, op_mod, op_pow, cp_eq, cp_ne, cp_lt, cp_le, cp_gt, cp_ge, cp_in, cp_nin, eq_int, eq_str, tr_bl, ix_int, seq_tup, seq_fl, at_0, at_1, at_2, at_3, runs_ok, runs_bad, runs_bind, runs_grd, runs_opt, runs_calmly, runs_ite, runs_alloc, runS_nx, runS_rt, runS_bk, runS_ct, runS_atE, runS_bindE, runS_bindD, runS_seq, runS_turn, runS_ite, List.map_cons, List.map_nil, List.length_cons, List.length_nil, List.replicate, List.nil_append, List.cons_append, List.getElem?_cons_zero, List.getElem?_cons_succ, List.set_cons_zero, List.set_cons_succ, Option.bind_some, id_eq, Option.some.injEq, exists_eq_left', wipeE, lenGs, if_true, if_false, ↓reduceIte, Bool.false_eq_true, Bool.not_true, Bool.not_false, decide_true, decide_false, runS_cons, seq_loc hL, runs_ok, runs_bad, runs_bind, runs_grd, runs_opt, runs_calmly, runs_ite, runs_alloc, runS_nx, runS_rt, runS_bk, runS_ct, runS_atE, runS_bindE, runS_bindD, runS_seq, runS_turn, runS_ite]
    exact hP _ hk
theorem app_at {S : Sto} {L : Nat} {xs : List D} {x : D} (h : S[L]? = some (.lst xs)) : mtD .append (.loc L) [x] S = grd (xs.length < sizeLine) (.ok .non (S.set L (.lst (xs ++ [x])))) := by
  simp only [mtD, getLst_at h]
theorem recv_app {S : Sto} {L : Nat} {xs : List D} (h : S[L]? = some (.lst xs)) : recvOk .append (.loc L) S = true := by
  simp only [recvOk, getLst_at h, Option.isSome_some]
theorem rng_bd {n : Nat} (h : n < 1000) : (-2 ^ 62 ≤ (0 : Int) ∧ (0 : Int) < 2 ^ 62) ∧ -2 ^ 62 ≤ (n : Int) ∧ (n : Int) < 2 ^ 62 := by omega
theorem range_at {m i : Nat} {x : D} (h : ((List.range m).map fun i => D.int (i : Nat))[i]? = some x) : i < m ∧ x = .int (i : Nat) := by
  obtain ⟨h1, h2⟩ := map_at' h
  rw [List.length_range] at h1
  exact ⟨h1, by rw [h2, IsP.range_getD h1]⟩
theorem r_lthen {k m : Nat} {p q : List Nat} {S : Sto} {P : D → Sto → Prop} (hm : m < 1000) (hp : IsP m p) (hq : IsP m q) (hP : ∀ S', Kp S S' → P (tupN (comp p q)) S') : Runs (callN M (k + 1) "_law_then" [tupN p, tupN q] S) P := by
  rw [c_lthen]
  refine runs_body (by rfl) ?_
  have hl : (p.map fun i => D.int (i : Nat)).length = m := by rw [List.length_map]; exact hp.len
  have hc : (comp p q).length = m := (hp.comp hq).len
  simp only [b_law_then, tupN, runS_nil, runS_one, ex, ev, evT, evTs, evs, evO, evI, asgG, asgGs, tAnd, tOr, evAnd, evOr, lookE, enter, glob0, bi_repr, bi_list, bi_tuple, bi_abs, bi_int, bi_intb, bi_max, bi_min, bi_lent, bi_lenf, bi_lenl, op_add, op_addt, op_sub, op_mul, op_div, op_mod, op_pow, cp_eq, cp_ne, cp_lt, cp_le, cp_gt, cp_ge, cp_in, cp_nin, eq_int, eq_str, tr_bl, ix_int, seq_tup, seq_fl, at_0, at_1, at_2, at_3, runs_ok, runs_bad, runs_bind, runs_grd, runs_opt, runs_calmly, runs_ite, runs_alloc, runS_nx, runS_rt, runS_bk, runS_ct, runS_atE, runS_bindE, runS_bindD, runS_seq, runS_turn, runS_ite, List.map_cons, List.map_nil, List.length_cons, List.length_nil, List.replicate, List.nil_append, List.cons_append, List.getElem?_cons_zero, List.getElem?_cons_succ, List.set_cons_zero, List.set_cons_succ, Option.bind_some, id_eq, Option.some.injEq, exists_eq_left', wipeE, lenGs, if_true, if_false, ↓reduceIte, Bool.false_eq_true, Bool.not_true, Bool.not_false, decide_true, decide_false, runS_cons]
  rw [hl, range_ints]
  refine And.intro (by decide) (And.intro (rng_bd hm) ?_)
  refine for_fix (fun i env S' => ∃ e3, env = [some (.tup (p.map fun i => D.int (i : Nat))), some (.tup (q.map fun i => D.int (i : Nat))), some (.loc S.length), e3] ∧ S'[S.length]? = some (.lst (((comp p q).take i).map fun i => D.int (i : Nat))) ∧ Kp S S') ?_ ?_ ?_
  · exact ⟨_, rfl, at_app _, Kp.app _ _⟩
  · rintro i x env S' hx ⟨e3, rfl, hL, hk⟩
    obtain ⟨hi, rfl⟩ := range_at hx
    simp only [runS_nil, runS_one, ex, ev, evT, evTs, evs, evO, evI, asgG, asgGs, tAnd, tOr, evAnd, evOr, lookE, enter, glob0, bi_repr, bi_list, bi_tuple, bi_abs, bi_int, bi_intb, bi_max, bi_min, bi_lent, bi_lenf, bi_lenl, op_add, op_addt, op_sub, op_mul, op_div, op_mod, op_pow, cp_eq, cp_ne, cp_lt, cp_le, cp_gt, cp_ge, cp_in, cp_nin, eq_int, eq_str, tr_bl, ix_int, seq_tup, seq_fl, at_0, at_1, at_2, at_3, runs_ok, runs_bad, runs_bind, runs_grd, runs_opt, runs_calmly, runs_ite, runs_alloc, runS_nx, runS_rt, runS_bk, runS_ct, runS_atE, runS_bindE, runS_bindD, runS_seq, runS_turn, runS_ite, List.map_cons, List.map_nil, List.length_cons, List.length_nil, List.replicate, List.nil_append, List.cons_append, List.getElem?_cons_zero, List.getElem?_cons_succ, List.set_cons_zero, List.set_cons_succ, Option.bind_some, id_eq, Option.some.injEq, exists_eq_left', wipeE, lenGs, if_true, if_false, ↓reduceIte, Bool.false_eq_true, Bool.not_true, Bool.not_false, decide_true, decide_false, runS_cons]
    refine ⟨recv_app hL, _, at_nat (map_at (by rw [hp.len]; exact hi)), _, at_nat (map_at (by rw [hq.len]; exact hp.getD hi)), ?_⟩
    rw [app_at hL]
    simp only [runs_ok, runs_bad, runs_bind, runs_grd, runs_opt, runs_calmly, runs_ite, runs_alloc, runS_nx, runS_rt, runS_bk, runS_ct, runS_atE, runS_bindE, runS_bindD, runS_seq, runS_turn, runS_ite]
    refine ⟨small_size (m := m) (by simp; omega) hm, _, rfl, ?_, hk.set (Nat.le_refl _) _⟩
    rw [at_set hL, ← IsP.comp_getD hp hi, take_next (by omega)]
  · rintro env S' ⟨e3, rfl, hL, hk⟩
    rw [List.length_map, List.length_range, ← hc, List.take_length] at hL
    simp only [runS_nil, runS_one, ex, ev, evT, evTs, evs, evO, evI, asgG, asgGs, tAnd, tOr, evAnd, evOr, lookE, enter, glob0, bi_repr, bi_list, bi_tuple, bi_abs, bi_int, bi_intb, bi_max, bi_min, bi_lent, bi_lenf, bi_lenl, op_add, op_addt, op_sub, op_mul, op_div, op_mod, op_pow, cp_eq, cp_ne, cp_lt, cp_le, cp_gt, cp_ge, cp_in, cp_nin, eq_int, eq_str, tr_bl, ix_int, seq_tup, seq_fl, at_0, at_1, at_2, at_3, runs_ok, runs_bad, runs_bind, runs_grd, runs_opt, runs_calmly, runs_ite, runs_alloc, runS_nx, runS_rt, runS_bk, runS_ct, runS_atE, runS_bindE, runS_bindD, runS_seq, runS_turn, runS_ite, List.map_cons, List.map_nil, List.length_cons, List.length_nil, List.replicate, List.nil_append, List.cons_append, List.getElem?_cons_zero, List.getElem?_cons_succ, List.set_cons_zero, List.set_cons_succ, Option.bind_some, id_eq, Option.some.injEq, exists_eq_left', wipeE, lenGs, if_true, if_false, ↓reduceIte, Bool.false_eq_true, Bool.not_true, Bool.not_false, decide_true, decide_false, runS_cons, seq_loc hL, runs_ok, runs_bad, runs_bind, runs_grd, runs_opt, runs_calmly, runs_ite, runs_alloc, runS_nx, runS_rt, runS_bk, runS_ct, runS_atE, runS_bindE, runS_bindD, runS_seq, runS_turn, runS_ite]
    exact hP _ hk
theorem allInt_nl (p : List Nat) : allInt (p.map fun i => D.int (i : Nat)) = some (p.map fun (i : Nat) => (i : Int)) := by
  induction p with
  | nil => rfl
  | cons x p ih => simp only [List.map_cons, allInt, ih, Option.map_some]
theorem idxI_nl {c : Nat} : ∀ {p : List Nat}, c ∈ p → idxI (c : Int) (p.map fun (i : Nat) => (i : Int)) = some (p.idxOf c)
  | [], h => by cases h
  | x :: p, h => by
    simp only [List.map_cons, idxI]
    by_cases e : x = c
    · subst e
      simp
    · have h' : c ∈ p := by
        rcases List.mem_cons.mp h with z | z
        · exact absurd z.symm e
        · exact z
      have e' : (x == c) = false := by simpa using e
      rw [if_neg (by omega), idxI_nl h', List.idxOf_cons, e']
      rfl
theorem idx_at {S : Sto} {L c : Nat} {p : List Nat} (h : S[L]? = some (.lst (p.map fun i => D.int (i : Nat)))) (hc : c ∈ p) : mtD .index (.loc L) [.int (c : Nat)] S = .ok (.int (p.idxOf c)) S := by
  simp only [mtD, getLst_at h, allInt_nl, idxI_nl hc]
theorem recv_idx {S : Sto} {L : Nat} {xs : List D} (h : S[L]? = some (.lst xs)) : recvOk .index (.loc L) S = true := by
  simp only [recvOk, getLst_at h, Option.isSome_some]
theorem r_lback {k m : Nat} {p : List Nat} {S : Sto} {P : D → Sto → Prop} (hm : m < 1000) (hp : IsP m p) (hP : ∀ S', Kp S S' → P (tupN (inv p)) S') : Runs (callN M (k + 1) "_law_back" [tupN p] S) P := by
  rw [c_lback]
  refine runs_body (by rfl) ?_
  have hl : (p.map fun i => D.int (i : Nat)).length = m := by rw [List.length_map]; exact hp.len
  have hc : (inv p).length = m := hp.inv.len
  simp only [b_law_back, tupN, runS_nil, runS_one, ex, ev, evT, evTs, evs, evO, evI, asgG, asgGs, tAnd, tOr, evAnd, evOr, lookE, enter, glob0, bi_repr, bi_list, bi_tuple, bi_abs, bi_int, bi_intb, bi_max, bi_min, bi_lent, bi_lenf, bi_lenl, op_add, op_addt, op_sub, op_mul, op_div, op_mod, op_pow, cp_eq, cp_ne, cp_lt, cp_le, cp_gt, cp_ge, cp_in, cp_nin, eq_int, eq_str, tr_bl, ix_int, seq_tup, seq_fl, at_0, at_1, at_2, at_3, runs_ok, runs_bad, runs_bind, runs_grd, runs_opt, runs_calmly, runs_ite, runs_alloc, runS_nx, runS_rt, runS_bk, runS_ct, runS_atE, runS_bindE, runS_bindD, runS_seq, runS_turn, runS_ite, List.map_cons, List.map_nil, List.length_cons, List.length_nil, List.replicate, List.nil_append, List.cons_append, List.getElem?_cons_zero, List.getElem?_cons_succ, List.set_cons_zero, List.set_cons_succ, Option.bind_some, id_eq, Option.some.injEq, exists_eq_left', wipeE, lenGs, if_true, if_false, ↓reduceIte, Bool.false_eq_true, Bool.not_true, Bool.not_false, decide_true, decide_false, runS_cons]
  rw [hl, range_ints]
  refine And.intro (rng_bd hm) ?_
  refine lc_fix (fun i acc S' => acc = ((inv p).take i).map (fun i => D.int (i : Nat)) ∧ Kp S S') ⟨rfl, Kp.refl _⟩ ?_ ?_
  · rintro i x acc S' hx ⟨rfl, hk⟩
    obtain ⟨hi, rfl⟩ := range_at hx
    simp only [lcStep, runS_nil, runS_one, ex, ev, evT, evTs, evs, evO, evI, asgG, asgGs, tAnd, tOr, evAnd, evOr, lookE, enter, glob0, bi_repr, bi_list, bi_tuple, bi_abs, bi_int, bi_intb, bi_max, bi_min, bi_lent, bi_lenf, bi_lenl, op_add, op_addt, op_sub, op_mul, op_div, op_mod, op_pow, cp_eq, cp_ne, cp_lt, cp_le, cp_gt, cp_ge, cp_in, cp_nin, eq_int, eq_str, tr_bl, ix_int, seq_tup, seq_fl, at_0, at_1, at_2, at_3, runs_ok, runs_bad, runs_bind, runs_grd, runs_opt, runs_calmly, runs_ite, runs_alloc, runS_nx, runS_rt, runS_bk, runS_ct, runS_atE, runS_bindE, runS_bindD, runS_seq, runS_turn, runS_ite, List.map_cons, List.map_nil, List.length_cons, List.length_nil, List.replicate, List.nil_append, List.cons_append, List.getElem?_cons_zero, List.getElem?_cons_succ, List.set_cons_zero, List.set_cons_succ, Option.bind_some, id_eq, Option.some.injEq, exists_eq_left', wipeE, lenGs, if_true, if_false, ↓reduceIte, Bool.false_eq_true, Bool.not_true, Bool.not_false, decide_true, decide_false, runS_cons]
    refine ⟨recv_idx (at_app _), ?_⟩
    rw [idx_at (at_app _) (hp.mem.mpr hi)]
    simp only [runs_ok, runs_bad, runs_bind, runs_grd, runs_opt, runs_calmly, runs_ite, runs_alloc, runS_nx, runS_rt, runS_bk, runS_ct, runS_atE, runS_bindE, runS_bindD, runS_seq, runS_turn, runS_ite]
    refine ⟨small_size (m := m) (by simp; omega) hm, ?_, hk.trans (Kp.app _ _)⟩
    rw [← hp.inv_getD hi]
    exact take_next (by omega)
  · rintro acc S' ⟨rfl, hk⟩
    rw [List.length_map, List.length_range, ← hc, List.take_length]
    simp only [seq_loc (at_app _), runs_ok, runs_bad, runs_bind, runs_grd, runs_opt, runs_calmly, runs_ite, runs_alloc, runS_nx, runS_rt, runS_bk, runS_ct, runS_atE, runS_bindE, runS_bindD, runS_seq, runS_turn, runS_ite, List.map_cons, List.map_nil, List.length_cons, List.length_nil, List.replicate, List.nil_append, List.cons_append, List.getElem?_cons_zero, List.getElem?_cons_succ, List.set_cons_zero, List.set_cons_succ, Option.bind_some, id_eq, Option.some.injEq, exists_eq_left', wipeE, lenGs, if_true, if_false, ↓reduceIte, Bool.false_eq_true, Bool.not_true, Bool.not_false, decide_true, decide_false, runS_cons]
    exact hP _ (hk.trans (Kp.app _ _))

def dat (p : List Nat) : PyData := .tuple (p.map fun i => PyData.int (i : Nat))
theorem snaps_nl (S : Sto) (n : Nat) (p : List Nat) : snaps S n (p.map fun i => D.int (i : Nat)) = some (p.map fun i => PyData.int (i : Nat)) := by
  induction p with
  | nil => simp only [List.map_nil, snaps]
  | cons x p ih => simp only [List.map_cons, snaps, ih, snap, Option.bind_some, Option.map_some]
theorem snap_tupN (S : Sto) (p : List Nat) : snap S deep (tupN p) = some (dat p) := by
  unfold tupN deep dat
  simp only [snap, snaps_nl, Option.map_some]
theorem canLay_nl (p : List Nat) : PyData.canLayAll0 (p.map fun i => PyData.int (i : Nat)) = true := by
  induction p with
  | nil => simp only [List.map_nil, PyData.canLayAll0]
  | cons x p ih => simp only [List.map_cons, PyData.canLayAll0, PyData.canLay0, ih, Bool.and_self]
theorem depth_nl (p : List Nat) : PyData.depthAll (p.map fun i => PyData.int (i : Nat)) = 0 := by
  induction p with
  | nil => simp only [List.map_nil, PyData.depthAll]
  | cons x p ih => simp only [List.map_cons, PyData.depthAll, PyData.depth, ih, Nat.max_self]
theorem canLay_dat (p : List Nat) : (dat p).canLay0 = true := by unfold dat; simp only [PyData.canLay0]; exact canLay_nl p
theorem shaped_dat (p : List Nat) : SeqAt.shaped (dat p) = true := by
  unfold SeqAt.shaped
  rw [canLay_dat]
  unfold dat
  simp only [PyData.depth, depth_nl]
  rfl
def small (p : List Nat) : Prop := p.length ≤ 12 ∧ ∀ x ∈ p, x < 12
theorem IsP.small {m : Nat} {p : List Nat} (h : IsP m p) (hm : m ≤ 12) : small p := ⟨by rw [h.len]; exact hm, fun x hx => by have := h.mem.mp hx; omega⟩
theorem num_small : ∀ x : Fin 12, ((toString ((x.val : Nat) : Int) : String) : Str).length ≤ 2 ∧ ((x.val : Nat) : Int).natAbs.log2 < 1920 := by decide +kernel
theorem show_nl {p : List Nat} (h : ∀ x ∈ p, x < 12) : PyData.showableAll (p.map fun i => PyData.int (i : Nat)) = true := by
  induction p with
  | nil => simp only [List.map_nil, PyData.showableAll]
  | cons x p ih =>
    simp only [List.map_cons, PyData.showableAll, PyData.showable, ih fun y hy => h y (List.mem_cons_of_mem _ hy), Bool.and_true]
    exact decide_eq_true (num_small ⟨x, h x (by simp)⟩).2
theorem pile_nl {p : List Nat} (h : ∀ x ∈ p, x < 12) : piled (PyData.shownAll (p.map fun i => PyData.int (i : Nat))) ≤ 4 * p.length := by
  induction p with
  | nil => simp [PyData.shownAll, piled]
  | cons x p ih =>
    simp only [List.map_cons, PyData.shownAll, PyData.shown, piled_cons, List.length_cons]
    have h1 := (num_small ⟨x, h x (by simp)⟩).1
    have h2 := ih fun y hy => h y (List.mem_cons_of_mem _ hy)
    have h3 : ((toString ((x : Nat) : Int) : String) : Str).length ≤ 2 := h1
    omega
theorem repr_tup {p : List Nat} (h : K02.small p) (S : Sto) : reprD S (tupN p) = some (dat p).shown := by
  unfold reprD
  rw [snap_tupN, Option.bind_some, shaped_dat]
  have h1 : (dat p).showable = true := by unfold dat; simp only [PyData.showable]; exact show_nl h.2
  have h2 : (dat p).shown.length ≤ sizeLine := by
    unfold dat
    simp only [PyData.shown, tupleText]
    rw [Str.length_append, Str.length_append]
    have e1 : ((("(" : String) : Str)).length = 1 := rfl
    have e3 : ∀ b : Bool, (((if b = true then ",)" else ")" : String) : Str)).length ≤ 2 := by decide
    have := pile_nl h.2
    have := h.1
    have e4 := e3 ((PyData.shownAll (p.map fun i => PyData.int (i : Nat))).length == 1)
    have e5 : (Str.join ", " (PyData.shownAll (p.map fun i => PyData.int (i : Nat)))).length ≤ 48 := by
      by_cases z : PyData.shownAll (p.map fun i => PyData.int (i : Nat)) = []
      · rw [z]; decide
      · have := join_length_add _ z
        omega
    have : (1000 : Nat) < sizeLine := by decide
    omega
  rw [h1, decide_eq_true h2]
  rfl
theorem eq_tup (S : Sto) (p : List Nat) : eqD S (tupN p) (tupN p) = some true := by
  have : eqD S (tupN p) (tupN p) = (snap S deep (tupN p)).bind fun x => (snap S deep (tupN p)).bind fun y => if SeqAt.shaped x && SeqAt.shaped y then some (PyData.eqv x y) else none := by
    unfold tupN
    simp only [eqD]
  rw [this, snap_tupN, Option.bind_some, Option.bind_some, shaped_dat, Bool.and_self, if_pos rfl, SeqAt.eqv_refl _ (canLay_dat p)]
theorem len_tup {S : Sto} {p : List Nat} {m : Nat} (hp : IsP m p) : biD .len [tupN p] S = .ok (.int (m : Nat)) S := by
  unfold tupN
  simp only [biD, seqOf, List.length_map, hp.len]
theorem r_two {k m : Nat} {p q : List Nat} {S : Sto} {P : D → Sto → Prop} (hm : m ≤ 12) (hp : IsP m p) (hq : IsP m q) (hP : ∀ S', Kp S S' → P (.bl true) S') : Runs (callN M (k + 2) "_law_two_right" [tupN p, tupN q] S) P := by
  have hm' : m < 1000 := by omega
  have r1 := fun S => repr_tup ((hp.comp hq).small hm) S
  have r2 := fun S => repr_tup (hp.inv.small hm) S
  have r3 := fun S => repr_tup ((IsP.id m).small hm) S
  have r4 := fun S => repr_tup (hp.small hm) S
  rw [c_two]
  refine runs_body (by rfl) ?_
  unfold b_law_two_right
  rw [runS_cons]
  simp only [runS_nil, runS_one, ex, ev, evT, evTs, evs, evO, evI, asgG, asgGs, tAnd, tOr, evAnd, evOr, lookE, enter, glob0, bi_repr, bi_list, bi_tuple, bi_abs, bi_int, bi_intb, bi_max, bi_min, bi_lent, bi_lenf, bi_lenl, op_add, op_addt, op_sub, op_mul, op_div, op_mod, op_pow, cp_eq, cp_ne, cp_lt, cp_le, cp_gt, cp_ge, cp_in, cp_nin, eq_int, eq_str, tr_bl, ix_int, seq_tup, seq_fl, at_0, at_1, at_2, at_3, runs_ok, runs_bad, runs_bind, runs_grd, runs_opt, runs_calmly, runs_ite, runs_alloc, runS_nx, runS_rt, runS_bk, runS_ct, runS_atE, runS_bindE, runS_bindD, runS_seq, runS_turn, runS_ite, List.map_cons, List.map_nil, List.length_cons, List.length_nil, List.replicate, List.nil_append, List.cons_append, List.getElem?_cons_zero, List.getElem?_cons_succ, List.set_cons_zero, List.set_cons_succ, Option.bind_some, id_eq, Option.some.injEq, exists_eq_left', wipeE, lenGs, if_true, if_false, ↓reduceIte, Bool.false_eq_true, Bool.not_true, Bool.not_false, decide_true, decide_false]
  refine r_lthen hm' hp hq fun S1 h1 => ?_
  rw [runS_cons]
  simp only [runS_nil, runS_one, ex, ev, evT, evTs, evs, evO, evI, asgG, asgGs, tAnd, tOr, evAnd, evOr, lookE, enter, glob0, bi_repr, bi_list, bi_tuple, bi_abs, bi_int, bi_intb, bi_max, bi_min, bi_lent, bi_lenf, bi_lenl, op_add, op_addt, op_sub, op_mul, op_div, op_mod, op_pow, cp_eq, cp_ne, cp_lt, cp_le, cp_gt, cp_ge, cp_in, cp_nin, eq_int, eq_str, tr_bl, ix_int, seq_tup, seq_fl, at_0, at_1, at_2, at_3, runs_ok, runs_bad, runs_bind, runs_grd, runs_opt, runs_calmly, runs_ite, runs_alloc, runS_nx, runS_rt, runS_bk, runS_ct, runS_atE, runS_bindE, runS_bindD, runS_seq, runS_turn, runS_ite, List.map_cons, List.map_nil, List.length_cons, List.length_nil, List.replicate, List.nil_append, List.cons_append, List.getElem?_cons_zero, List.getElem?_cons_succ, List.set_cons_zero, List.set_cons_succ, Option.bind_some, id_eq, Option.some.injEq, exists_eq_left', wipeE, lenGs, if_true, if_false, ↓reduceIte, Bool.false_eq_true, Bool.not_true, Bool.not_false, decide_true, decide_false]
  refine r_then hm' hp hq fun S2 h2 => ?_
  simp only [r1, runS_nil, runS_one, ex, ev, evT, evTs, evs, evO, evI, asgG, asgGs, tAnd, tOr, evAnd, evOr, lookE, enter, glob0, bi_repr, bi_list, bi_tuple, bi_abs, bi_int, bi_intb, bi_max, bi_min, bi_lent, bi_lenf, bi_lenl, op_add, op_addt, op_sub, op_mul, op_div, op_mod, op_pow, cp_eq, cp_ne, cp_lt, cp_le, cp_gt, cp_ge, cp_in, cp_nin, eq_int, eq_str, tr_bl, ix_int, seq_tup, seq_fl, at_0, at_1, at_2, at_3, runs_ok, runs_bad, runs_bind, runs_grd, runs_opt, runs_calmly, runs_ite, runs_alloc, runS_nx, runS_rt, runS_bk, runS_ct, runS_atE, runS_bindE, runS_bindD, runS_seq, runS_turn, runS_ite, List.map_cons, List.map_nil, List.length_cons, List.length_nil, List.replicate, List.nil_append, List.cons_append, List.getElem?_cons_zero, List.getElem?_cons_succ, List.set_cons_zero, List.set_cons_succ, Option.bind_some, id_eq, Option.some.injEq, exists_eq_left', wipeE, lenGs, if_true, if_false, ↓reduceIte, Bool.false_eq_true, Bool.not_true, Bool.not_false, decide_true, decide_false]
  refine r_back hm' hp fun S3 h3 => ?_
  simp only [r2, runS_nil, runS_one, ex, ev, evT, evTs, evs, evO, evI, asgG, asgGs, tAnd, tOr, evAnd, evOr, lookE, enter, glob0, bi_repr, bi_list, bi_tuple, bi_abs, bi_int, bi_intb, bi_max, bi_min, bi_lent, bi_lenf, bi_lenl, op_add, op_addt, op_sub, op_mul, op_div, op_mod, op_pow, cp_eq, cp_ne, cp_lt, cp_le, cp_gt, cp_ge, cp_in, cp_nin, eq_int, eq_str, tr_bl, ix_int, seq_tup, seq_fl, at_0, at_1, at_2, at_3, runs_ok, runs_bad, runs_bind, runs_grd, runs_opt, runs_calmly, runs_ite, runs_alloc, runS_nx, runS_rt, runS_bk, runS_ct, runS_atE, runS_bindE, runS_bindD, runS_seq, runS_turn, runS_ite, List.map_cons, List.map_nil, List.length_cons, List.length_nil, List.replicate, List.nil_append, List.cons_append, List.getElem?_cons_zero, List.getElem?_cons_succ, List.set_cons_zero, List.set_cons_succ, Option.bind_some, id_eq, Option.some.injEq, exists_eq_left', wipeE, lenGs, if_true, if_false, ↓reduceIte, Bool.false_eq_true, Bool.not_true, Bool.not_false, decide_true, decide_false]
  refine r_lback hm' hp fun S4 h4 => ?_
  simp only [r2, runS_nil, runS_one, ex, ev, evT, evTs, evs, evO, evI, asgG, asgGs, tAnd, tOr, evAnd, evOr, lookE, enter, glob0, bi_repr, bi_list, bi_tuple, bi_abs, bi_int, bi_intb, bi_max, bi_min, bi_lent, bi_lenf, bi_lenl, op_add, op_addt, op_sub, op_mul, op_div, op_mod, op_pow, cp_eq, cp_ne, cp_lt, cp_le, cp_gt, cp_ge, cp_in, cp_nin, eq_int, eq_str, tr_bl, ix_int, seq_tup, seq_fl, at_0, at_1, at_2, at_3, runs_ok, runs_bad, runs_bind, runs_grd, runs_opt, runs_calmly, runs_ite, runs_alloc, runS_nx, runS_rt, runS_bk, runS_ct, runS_atE, runS_bindE, runS_bindD, runS_seq, runS_turn, runS_ite, List.map_cons, List.map_nil, List.length_cons, List.length_nil, List.replicate, List.nil_append, List.cons_append, List.getElem?_cons_zero, List.getElem?_cons_succ, List.set_cons_zero, List.set_cons_succ, Option.bind_some, id_eq, Option.some.injEq, exists_eq_left', wipeE, lenGs, if_true, if_false, ↓reduceIte, Bool.false_eq_true, Bool.not_true, Bool.not_false, decide_true, decide_false]
  rw [runS_cons]
  simp only [runS_nil, runS_one, ex, ev, evT, evTs, evs, evO, evI, asgG, asgGs, tAnd, tOr, evAnd, evOr, lookE, enter, glob0, bi_repr, bi_list, bi_tuple, bi_abs, bi_int, bi_intb, bi_max, bi_min, bi_lent, bi_lenf, bi_lenl, op_add, op_addt, op_sub, op_mul, op_div, op_mod, op_pow, cp_eq, cp_ne, cp_lt, cp_le, cp_gt, cp_ge, cp_in, cp_nin, eq_int, eq_str, tr_bl, ix_int, seq_tup, seq_fl, at_0, at_1, at_2, at_3, runs_ok, runs_bad, runs_bind, runs_grd, runs_opt, runs_calmly, runs_ite, runs_alloc, runS_nx, runS_rt, runS_bk, runS_ct, runS_atE, runS_bindE, runS_bindD, runS_seq, runS_turn, runS_ite, List.map_cons, List.map_nil, List.length_cons, List.length_nil, List.replicate, List.nil_append, List.cons_append, List.getElem?_cons_zero, List.getElem?_cons_succ, List.set_cons_zero, List.set_cons_succ, Option.bind_some, id_eq, Option.some.injEq, exists_eq_left', wipeE, lenGs, if_true, if_false, ↓reduceIte, Bool.false_eq_true, Bool.not_true, Bool.not_false, decide_true, decide_false]
  refine r_back hm' hp fun S5 h5 => ?_
  refine r_then hm' hp hp.inv fun S6 h6 => ?_
  rw [hp.comp_inv]
  simp only [r3, len_tup hp, runS_nil, runS_one, ex, ev, evT, evTs, evs, evO, evI, asgG, asgGs, tAnd, tOr, evAnd, evOr, lookE, enter, glob0, bi_repr, bi_list, bi_tuple, bi_abs, bi_int, bi_intb, bi_max, bi_min, bi_lent, bi_lenf, bi_lenl, op_add, op_addt, op_sub, op_mul, op_div, op_mod, op_pow, cp_eq, cp_ne, cp_lt, cp_le, cp_gt, cp_ge, cp_in, cp_nin, eq_int, eq_str, tr_bl, ix_int, seq_tup, seq_fl, at_0, at_1, at_2, at_3, runs_ok, runs_bad, runs_bind, runs_grd, runs_opt, runs_calmly, runs_ite, runs_alloc, runS_nx, runS_rt, runS_bk, runS_ct, runS_atE, runS_bindE, runS_bindD, runS_seq, runS_turn, runS_ite, List.map_cons, List.map_nil, List.length_cons, List.length_nil, List.replicate, List.nil_append, List.cons_append, List.getElem?_cons_zero, List.getElem?_cons_succ, List.set_cons_zero, List.set_cons_succ, Option.bind_some, id_eq, Option.some.injEq, exists_eq_left', wipeE, lenGs, if_true, if_false, ↓reduceIte, Bool.false_eq_true, Bool.not_true, Bool.not_false, decide_true, decide_false]
  refine r_stays hm' rfl ?_
  simp only [r3, runS_nil, runS_one, ex, ev, evT, evTs, evs, evO, evI, asgG, asgGs, tAnd, tOr, evAnd, evOr, lookE, enter, glob0, bi_repr, bi_list, bi_tuple, bi_abs, bi_int, bi_intb, bi_max, bi_min, bi_lent, bi_lenf, bi_lenl, op_add, op_addt, op_sub, op_mul, op_div, op_mod, op_pow, cp_eq, cp_ne, cp_lt, cp_le, cp_gt, cp_ge, cp_in, cp_nin, eq_int, eq_str, tr_bl, ix_int, seq_tup, seq_fl, at_0, at_1, at_2, at_3, runs_ok, runs_bad, runs_bind, runs_grd, runs_opt, runs_calmly, runs_ite, runs_alloc, runS_nx, runS_rt, runS_bk, runS_ct, runS_atE, runS_bindE, runS_bindD, runS_seq, runS_turn, runS_ite, List.map_cons, List.map_nil, List.length_cons, List.length_nil, List.replicate, List.nil_append, List.cons_append, List.getElem?_cons_zero, List.getElem?_cons_succ, List.set_cons_zero, List.set_cons_succ, Option.bind_some, id_eq, Option.some.injEq, exists_eq_left', wipeE, lenGs, if_true, if_false, ↓reduceIte, Bool.false_eq_true, Bool.not_true, Bool.not_false, decide_true, decide_false]
  refine r_back hm' hp fun S7 h7 => ?_
  refine r_back hm' hp.inv fun S8 h8 => ?_
  rw [hp.inv_inv]
  simp only [r4, runS_nil, runS_one, ex, ev, evT, evTs, evs, evO, evI, asgG, asgGs, tAnd, tOr, evAnd, evOr, lookE, enter, glob0, bi_repr, bi_list, bi_tuple, bi_abs, bi_int, bi_intb, bi_max, bi_min, bi_lent, bi_lenf, bi_lenl, op_add, op_addt, op_sub, op_mul, op_div, op_mod, op_pow, cp_eq, cp_ne, cp_lt, cp_le, cp_gt, cp_ge, cp_in, cp_nin, eq_int, eq_str, tr_bl, ix_int, seq_tup, seq_fl, at_0, at_1, at_2, at_3, runs_ok, runs_bad, runs_bind, runs_grd, runs_opt, runs_calmly, runs_ite, runs_alloc, runS_nx, runS_rt, runS_bk, runS_ct, runS_atE, runS_bindE, runS_bindD, runS_seq, runS_turn, runS_ite, List.map_cons, List.map_nil, List.length_cons, List.length_nil, List.replicate, List.nil_append, List.cons_append, List.getElem?_cons_zero, List.getElem?_cons_succ, List.set_cons_zero, List.set_cons_succ, Option.bind_some, id_eq, Option.some.injEq, exists_eq_left', wipeE, lenGs, if_true, if_false, ↓reduceIte, Bool.false_eq_true, Bool.not_true, Bool.not_false, decide_true, decide_false]
  rw [runS_cons]
  simp only [runS_nil, runS_one, ex, ev, evT, evTs, evs, evO, evI, asgG, asgGs, tAnd, tOr, evAnd, evOr, lookE, enter, glob0, bi_repr, bi_list, bi_tuple, bi_abs, bi_int, bi_intb, bi_max, bi_min, bi_lent, bi_lenf, bi_lenl, op_add, op_addt, op_sub, op_mul, op_div, op_mod, op_pow, cp_eq, cp_ne, cp_lt, cp_le, cp_gt, cp_ge, cp_in, cp_nin, eq_int, eq_str, tr_bl, ix_int, seq_tup, seq_fl, at_0, at_1, at_2, at_3, runs_ok, runs_bad, runs_bind, runs_grd, runs_opt, runs_calmly, runs_ite, runs_alloc, runS_nx, runS_rt, runS_bk, runS_ct, runS_atE, runS_bindE, runS_bindD, runS_seq, runS_turn, runS_ite, List.map_cons, List.map_nil, List.length_cons, List.length_nil, List.replicate, List.nil_append, List.cons_append, List.getElem?_cons_zero, List.getElem?_cons_succ, List.set_cons_zero, List.set_cons_succ, Option.bind_some, id_eq, Option.some.injEq, exists_eq_left', wipeE, lenGs, if_true, if_false, ↓reduceIte, Bool.false_eq_true, Bool.not_true, Bool.not_false, decide_true, decide_false]
  refine r_back hm' hq fun S9 h9 => ?_
  refine r_then hm' hq.inv hq fun S10 h10 => ?_
  rw [hq.inv_comp]
  simp only [r3, len_tup hq, runS_nil, runS_one, ex, ev, evT, evTs, evs, evO, evI, asgG, asgGs, tAnd, tOr, evAnd, evOr, lookE, enter, glob0, bi_repr, bi_list, bi_tuple, bi_abs, bi_int, bi_intb, bi_max, bi_min, bi_lent, bi_lenf, bi_lenl, op_add, op_addt, op_sub, op_mul, op_div, op_mod, op_pow, cp_eq, cp_ne, cp_lt, cp_le, cp_gt, cp_ge, cp_in, cp_nin, eq_int, eq_str, tr_bl, ix_int, seq_tup, seq_fl, at_0, at_1, at_2, at_3, runs_ok, runs_bad, runs_bind, runs_grd, runs_opt, runs_calmly, runs_ite, runs_alloc, runS_nx, runS_rt, runS_bk, runS_ct, runS_atE, runS_bindE, runS_bindD, runS_seq, runS_turn, runS_ite, List.map_cons, List.map_nil, List.length_cons, List.length_nil, List.replicate, List.nil_append, List.cons_append, List.getElem?_cons_zero, List.getElem?_cons_succ, List.set_cons_zero, List.set_cons_succ, Option.bind_some, id_eq, Option.some.injEq, exists_eq_left', wipeE, lenGs, if_true, if_false, ↓reduceIte, Bool.false_eq_true, Bool.not_true, Bool.not_false, decide_true, decide_false]
  refine And.intro (rg_ok hm') ?_
  rw [range_ints, show D.tup ((List.range m).map fun i => D.int (i : Nat)) = tupN (List.range m) from rfl]
  simp only [r3, runS_nil, runS_one, ex, ev, evT, evTs, evs, evO, evI, asgG, asgGs, tAnd, tOr, evAnd, evOr, lookE, enter, glob0, bi_repr, bi_list, bi_tuple, bi_abs, bi_int, bi_intb, bi_max, bi_min, bi_lent, bi_lenf, bi_lenl, op_add, op_addt, op_sub, op_mul, op_div, op_mod, op_pow, cp_eq, cp_ne, cp_lt, cp_le, cp_gt, cp_ge, cp_in, cp_nin, eq_int, eq_str, tr_bl, ix_int, seq_tup, seq_fl, at_0, at_1, at_2, at_3, runs_ok, runs_bad, runs_bind, runs_grd, runs_opt, runs_calmly, runs_ite, runs_alloc, runS_nx, runS_rt, runS_bk, runS_ct, runS_atE, runS_bindE, runS_bindD, runS_seq, runS_turn, runS_ite, List.map_cons, List.map_nil, List.length_cons, List.length_nil, List.replicate, List.nil_append, List.cons_append, List.getElem?_cons_zero, List.getElem?_cons_succ, List.set_cons_zero, List.set_cons_succ, Option.bind_some, id_eq, Option.some.injEq, exists_eq_left', wipeE, lenGs, if_true, if_false, ↓reduceIte, Bool.false_eq_true, Bool.not_true, Bool.not_false, decide_true, decide_false]
  rw [runS_cons]
  simp only [len_tup hp, runS_nil, runS_one, ex, ev, evT, evTs, evs, evO, evI, asgG, asgGs, tAnd, tOr, evAnd, evOr, lookE, enter, glob0, bi_repr, bi_list, bi_tuple, bi_abs, bi_int, bi_intb, bi_max, bi_min, bi_lent, bi_lenf, bi_lenl, op_add, op_addt, op_sub, op_mul, op_div, op_mod, op_pow, cp_eq, cp_ne, cp_lt, cp_le, cp_gt, cp_ge, cp_in, cp_nin, eq_int, eq_str, tr_bl, ix_int, seq_tup, seq_fl, at_0, at_1, at_2, at_3, runs_ok, runs_bad, runs_bind, runs_grd, runs_opt, runs_calmly, runs_ite, runs_alloc, runS_nx, runS_rt, runS_bk, runS_ct, runS_atE, runS_bindE, runS_bindD, runS_seq, runS_turn, runS_ite, List.map_cons, List.map_nil, List.length_cons, List.length_nil, List.replicate, List.nil_append, List.cons_append, List.getElem?_cons_zero, List.getElem?_cons_succ, List.set_cons_zero, List.set_cons_succ, Option.bind_some, id_eq, Option.some.injEq, exists_eq_left', wipeE, lenGs, if_true, if_false, ↓reduceIte, Bool.false_eq_true, Bool.not_true, Bool.not_false, decide_true, decide_false]
  refine r_stays hm' rfl ?_
  refine r_then hm' hp (IsP.id m) fun S11 h11 => ?_
  rw [hp.comp_id]
  simp only [r4, len_tup hp, runS_nil, runS_one, ex, ev, evT, evTs, evs, evO, evI, asgG, asgGs, tAnd, tOr, evAnd, evOr, lookE, enter, glob0, bi_repr, bi_list, bi_tuple, bi_abs, bi_int, bi_intb, bi_max, bi_min, bi_lent, bi_lenf, bi_lenl, op_add, op_addt, op_sub, op_mul, op_div, op_mod, op_pow, cp_eq, cp_ne, cp_lt, cp_le, cp_gt, cp_ge, cp_in, cp_nin, eq_int, eq_str, tr_bl, ix_int, seq_tup, seq_fl, at_0, at_1, at_2, at_3, runs_ok, runs_bad, runs_bind, runs_grd, runs_opt, runs_calmly, runs_ite, runs_alloc, runS_nx, runS_rt, runS_bk, runS_ct, runS_atE, runS_bindE, runS_bindD, runS_seq, runS_turn, runS_ite, List.map_cons, List.map_nil, List.length_cons, List.length_nil, List.replicate, List.nil_append, List.cons_append, List.getElem?_cons_zero, List.getElem?_cons_succ, List.set_cons_zero, List.set_cons_succ, Option.bind_some, id_eq, Option.some.injEq, exists_eq_left', wipeE, lenGs, if_true, if_false, ↓reduceIte, Bool.false_eq_true, Bool.not_true, Bool.not_false, decide_true, decide_false]
  refine r_stays hm' rfl ?_
  refine r_then hm' (IsP.id m) hp fun S12 h12 => ?_
  rw [hp.id_comp]
  simp only [r4, runS_nil, runS_one, ex, ev, evT, evTs, evs, evO, evI, asgG, asgGs, tAnd, tOr, evAnd, evOr, lookE, enter, glob0, bi_repr, bi_list, bi_tuple, bi_abs, bi_int, bi_intb, bi_max, bi_min, bi_lent, bi_lenf, bi_lenl, op_add, op_addt, op_sub, op_mul, op_div, op_mod, op_pow, cp_eq, cp_ne, cp_lt, cp_le, cp_gt, cp_ge, cp_in, cp_nin, eq_int, eq_str, tr_bl, ix_int, seq_tup, seq_fl, at_0, at_1, at_2, at_3, runs_ok, runs_bad, runs_bind, runs_grd, runs_opt, runs_calmly, runs_ite, runs_alloc, runS_nx, runS_rt, runS_bk, runS_ct, runS_atE, runS_bindE, runS_bindD, runS_seq, runS_turn, runS_ite, List.map_cons, List.map_nil, List.length_cons, List.length_nil, List.replicate, List.nil_append, List.cons_append, List.getElem?_cons_zero, List.getElem?_cons_succ, List.set_cons_zero, List.set_cons_succ, Option.bind_some, id_eq, Option.some.injEq, exists_eq_left', wipeE, lenGs, if_true, if_false, ↓reduceIte, Bool.false_eq_true, Bool.not_true, Bool.not_false, decide_true, decide_false]
  refine r_back hm' (hp.comp hq) fun S13 h13 => ?_
  refine r_back hm' hq fun S14 h14 => ?_
  refine r_back hm' hp fun S15 h15 => ?_
  refine r_then hm' hq.inv hp.inv fun S16 h16 => ?_
  rw [hp.inv_of_comp hq]
  simp only [eq_tup, runS_nil, runS_one, ex, ev, evT, evTs, evs, evO, evI, asgG, asgGs, tAnd, tOr, evAnd, evOr, lookE, enter, glob0, bi_repr, bi_list, bi_tuple, bi_abs, bi_int, bi_intb, bi_max, bi_min, bi_lent, bi_lenf, bi_lenl, op_add, op_addt, op_sub, op_mul, op_div, op_mod, op_pow, cp_eq, cp_ne, cp_lt, cp_le, cp_gt, cp_ge, cp_in, cp_nin, eq_int, eq_str, tr_bl, ix_int, seq_tup, seq_fl, at_0, at_1, at_2, at_3, runs_ok, runs_bad, runs_bind, runs_grd, runs_opt, runs_calmly, runs_ite, runs_alloc, runS_nx, runS_rt, runS_bk, runS_ct, runS_atE, runS_bindE, runS_bindD, runS_seq, runS_turn, runS_ite, List.map_cons, List.map_nil, List.length_cons, List.length_nil, List.replicate, List.nil_append, List.cons_append, List.getElem?_cons_zero, List.getElem?_cons_succ, List.set_cons_zero, List.set_cons_succ, Option.bind_some, id_eq, Option.some.injEq, exists_eq_left', wipeE, lenGs, if_true, if_false, ↓reduceIte, Bool.false_eq_true, Bool.not_true, Bool.not_false, decide_true, decide_false]
  exact hP _ ((((((((((((((((h1.trans h2).trans h3).trans h4).trans h5).trans h6).trans h7).trans h8).trans h9).trans h10).trans h11).trans h12).trans h13).trans h14).trans h15).trans h16))
end K02
set_option Elab.async false
set_option linter.all false
set_option maxRecDepth 100000
set_option maxHeartbeats 400000
namespace K02
open Mi PySem
/-- the stream of digits as it lies in the store -/
structure St (S : Sto) (n g c : Nat) (i a : Int) (gs cs : List Int) : Prop where
  hn : S[n]? = some (.lst [.loc g, .loc c, .int i, .int a])
  hg : S[g]? = some (.lst (gs.map D.int))
  hc : S[c]? = some (.lst (cs.map D.int))
  ng : n ≠ g
  nc : n ≠ c
  gc : g ≠ c
  gl : gs.length ≤ 1
  gp : ∀ x ∈ gs, 0 ≤ x
  cl : 0 < cs.length ∧ cs.length < 1000
  cp : ∀ x ∈ cs, 0 ≤ x ∧ x < 2305843009213693951
  ip : 0 ≤ i
  ap : 0 ≤ a ∧ a < 2305843009213693951
def Kp2 (n g : Nat) (S S' : Sto) : Prop := ∀ (j : Nat) (o : O), S[j]? = some o → j ≠ n → j ≠ g → S'[j]? = some o
theorem Kp2.refl (n g : Nat) (S : Sto) : Kp2 n g S S := fun _ _ h _ _ => h
theorem Kp2.trans {n g : Nat} {S S1 S2 : Sto} (h : Kp2 n g S S1) (k : Kp2 n g S1 S2) : Kp2 n g S S2 := fun j o e a b => k j o (h j o e a b) a b
theorem Kp2.app (n g : Nat) (S T : Sto) : Kp2 n g S (S ++ T) := fun j o e _ _ => Kp.app S T j o e
theorem Kp2.setn (n g : Nat) (S : Sto) (o : O) : Kp2 n g S (S.set n o) := fun j u e a _ => by rw [List.getElem?_set_ne (Ne.symm a)]; exact e
theorem Kp2.setg (n g : Nat) (S : Sto) (o : O) : Kp2 n g S (S.set g o) := fun j u e _ b => by rw [List.getElem?_set_ne (Ne.symm b)]; exact e
section
variable {S : Sto} {n g c : Nat} {i a : Int} {gs cs : List Int}
theorem St.app (h : St S n g c i a gs cs) (T : Sto) : St (S ++ T) n g c i a gs cs := { h with hn := Kp.app S T _ _ h.hn, hg := Kp.app S T _ _ h.hg, hc := Kp.app S T _ _ h.hc }
theorem St.setn (h : St S n g c i a gs cs) {i' a' : Int} (hi : 0 ≤ i') (ha : 0 ≤ a' ∧ a' < 2305843009213693951) : St (S.set n (.lst [.loc g, .loc c, .int i', .int a'])) n g c i' a' gs cs :=
  { h with hn := at_set h.hn, hg := by rw [List.getElem?_set_ne h.ng]; exact h.hg, hc := by rw [List.getElem?_set_ne h.nc]; exact h.hc, ip := hi, ap := ha }
theorem St.setg (h : St S n g c i a gs cs) {gs' : List Int} (h1 : gs'.length ≤ 1) (h2 : ∀ x ∈ gs', 0 ≤ x) : St (S.set g (.lst (gs'.map D.int))) n g c i a gs' cs :=
  { h with hg := at_set h.hg, hn := by rw [List.getElem?_set_ne (Ne.symm h.ng)]; exact h.hn, hc := by rw [List.getElem?_set_ne h.gc]; exact h.hc, gl := h1, gp := h2 }
end
theorem snaps_ints (S : Sto) (n : Nat) (p : List Int) : snaps S n (p.map D.int) = some (p.map PyData.int) := by
  induction p with
  | nil => simp only [List.map_nil, snaps]
  | cons x p ih => simp only [List.map_cons, snaps, ih, snap, Option.bind_some, Option.map_some]
theorem canLay_ints (p : List Int) : PyData.canLayAll0 (p.map PyData.int) = true := by
  induction p with
  | nil => simp only [List.map_nil, PyData.canLayAll0]
  | cons x p ih => simp only [List.map_cons, PyData.canLayAll0, PyData.canLay0, ih, Bool.and_self]
theorem depth_ints (p : List Int) : PyData.depthAll (p.map PyData.int) = 0 := by
  induction p with
  | nil => simp only [List.map_nil, PyData.depthAll]
  | cons x p ih => simp only [List.map_cons, PyData.depthAll, PyData.depth, ih, Nat.max_self]
theorem shaped_ints (p : List Int) : SeqAt.shaped (.list (p.map PyData.int)) = true := by
  unfold SeqAt.shaped
  simp only [PyData.canLay0, canLay_ints, PyData.depth, depth_ints]
  rfl
theorem snap_lint {S : Sto} {l : Nat} {p : List Int} (h : S[l]? = some (.lst (p.map D.int))) : snap S deep (.loc l) = some (.list (p.map PyData.int)) := by
  unfold deep
  simp only [snap, getLst_at h, Option.bind_some, snaps_ints, Option.map_some]
theorem eq_empty {S : Sto} {l e : Nat} {p : List Int} (h : S[l]? = some (.lst (p.map D.int))) (h' : S[e]? = some (.lst [])) : eqD S (.loc l) (.loc e) = some p.isEmpty := by
  have : eqD S (.loc l) (.loc e) = (snap S deep (.loc l)).bind fun x => (snap S deep (.loc e)).bind fun y => if SeqAt.shaped x && SeqAt.shaped y then some (PyData.eqv x y) else none := by
    simp only [eqD]
  have s2 : snap S deep (.loc e) = some (.list (([] : List Int).map PyData.int)) := snap_lint (p := []) h'
  rw [this, snap_lint h, s2, Option.bind_some, Option.bind_some, shaped_ints, shaped_ints, Bool.and_self, if_pos rfl]
  cases p with
  | nil => simp [PyData.eqv, PyData.eqvAll]
  | cons x p => simp [PyData.eqv, PyData.eqvAll]
theorem pop_at {S : Sto} {L : Nat} {x : D} {xs : List D} (h : S[L]? = some (.lst (x :: xs))) : mtD .pop (.loc L) [.int 0] S = .ok x (S.set L (.lst xs)) := by
  have e : L2.ixN (x :: xs).length 0 = some 0 := by
    unfold L2.ixN
    rw [if_pos (by decide), if_pos (by simp)]; rfl
  simp only [mtD, getLst_at h, e, List.getElem?_cons_zero, List.eraseIdx_cons_zero]
theorem recv_pop {S : Sto} {L : Nat} {xs : List D} (h : S[L]? = some (.lst xs)) : recvOk .pop (.loc L) S = true := by
  simp only [recvOk, getLst_at h, Option.isSome_some]
theorem mul_r {i j : Int} (h : -(2 ^ 64) < j ∧ j < 2 ^ 64) : mulOk i j = true := by
  unfold mulOk
  rw [decide_eq_true h.1, decide_eq_true h.2]
  simp
theorem set_2 {S : Sto} {L : Nat} {x y z w v : D} (h : S[L]? = some (.lst [x, y, z, w])) : setIx (.loc L) (.int 2) v S = .ok () (S.set L (.lst [x, y, v, w])) := set_nat (n := 2) h (by simp)
theorem set_3 {S : Sto} {L : Nat} {x y z w v : D} (h : S[L]? = some (.lst [x, y, z, w])) : setIx (.loc L) (.int 3) v S = .ok () (S.set L (.lst [x, y, z, v])) := set_nat (n := 3) h (by simp)
theorem set_0 {S : Sto} {L : Nat} {x v : D} {xs : List D} (h : S[L]? = some (.lst (x :: xs))) : setIx (.loc L) (.int 0) v S = .ok () (S.set L (.lst (v :: xs))) := set_nat (n := 0) h (by simp)
theorem at_int {xs : List Int} {i : Int} (h0 : 0 ≤ i) (h1 : i < xs.length) : ∃ x ∈ xs, atD (xs.map D.int) i = some (.int x) := by
  obtain ⟨n, rfl⟩ := Int.eq_ofNat_of_zero_le h0
  have hn : n < xs.length := by omega
  refine ⟨xs[n], List.getElem_mem hn, at_nat ?_⟩
  rw [List.getElem?_map, List.getElem?_eq_getElem hn]; rfl
theorem take_tail {k n g c : Nat} {i a m : Int} {gs cs : List Int} {S : Sto} {P : D → Sto → Prop} (h : St S n g c i a gs cs) (hm : 0 < m ∧ m < 1073741824)
    (hP : ∀ d S' i' a' gs', 0 ≤ d ∧ d < m → St S' n g c i' a' gs' cs → Kp2 n g S S' → P (.int d) S') :
    RunS (exs (glob0 M (callN M k)) (b_law_take.drop 1) [some (.loc n), some (.int m), none, none] S) (fun _ S => P .non S) P (fun _ _ => False) (fun _ _ => False) := by
  simp only [b_law_take, List.drop_succ_cons, List.drop_zero]
  rw [runS_cons]
  have h1 := h.app [.lst []]
  simp only [runS_nil, runS_one, ex, ev, evT, evTs, evs, evO, evI, asgG, asgGs, tAnd, tOr, evAnd, evOr, lookE, enter, glob0, bi_repr, bi_list, bi_tuple, bi_abs, bi_int, bi_intb, bi_max, bi_min, bi_lent, bi_lenf, bi_lenl, op_add, op_addt, op_sub, op_mul, op_div, op_mod, op_pow, cp_eq, cp_ne, cp_lt, cp_le, cp_gt, cp_ge, cp_in, cp_nin, eq_int, eq_str, tr_bl, ix_int, seq_tup, seq_fl, at_0, at_1, at_2, at_3, runs_ok, runs_bad, runs_bind, runs_grd, runs_opt, runs_calmly, runs_ite, runs_alloc, runS_nx, runS_rt, runS_bk, runS_ct, runS_atE, runS_bindE, runS_bindD, runS_seq, runS_turn, runS_ite, List.map_cons, List.map_nil, List.length_cons, List.length_nil, List.replicate, List.nil_append, List.cons_append, List.getElem?_cons_zero, List.getElem?_cons_succ, List.set_cons_zero, List.set_cons_succ, Option.bind_some, id_eq, Option.some.injEq, exists_eq_left', wipeE, lenGs, if_true, if_false, ↓reduceIte, Bool.false_eq_true, Bool.not_true, Bool.not_false, decide_true, decide_false, seq_loc h.hn]
  refine ⟨by decide, _, eq_empty h1.hg (at_app _), ?_⟩
  cases gs with
  | cons x r =>
    have hr : r = [] := by
      have := h.gl
      cases r with
      | nil => rfl
      | cons _ _ => simp at this
    subst hr
    have hx := h.gp x (by simp)
    have eg : seqOf (S ++ [.lst []]) (.loc g) = some [.int x] := seq_loc h1.hg
    simp only [List.isEmpty_cons, runS_cons, runS_nil, runS_one, ex, ev, evT, evTs, evs, evO, evI, asgG, asgGs, tAnd, tOr, evAnd, evOr, lookE, enter, glob0, bi_repr, bi_list, bi_tuple, bi_abs, bi_int, bi_intb, bi_max, bi_min, bi_lent, bi_lenf, bi_lenl, op_add, op_addt, op_sub, op_mul, op_div, op_mod, op_pow, cp_eq, cp_ne, cp_lt, cp_le, cp_gt, cp_ge, cp_in, cp_nin, eq_int, eq_str, tr_bl, ix_int, seq_tup, seq_fl, at_0, at_1, at_2, at_3, runs_ok, runs_bad, runs_bind, runs_grd, runs_opt, runs_calmly, runs_ite, runs_alloc, runS_nx, runS_rt, runS_bk, runS_ct, runS_atE, runS_bindE, runS_bindD, runS_seq, runS_turn, runS_ite, List.map_cons, List.map_nil, List.length_cons, List.length_nil, List.replicate, List.nil_append, List.cons_append, List.getElem?_cons_zero, List.getElem?_cons_succ, List.set_cons_zero, List.set_cons_succ, Option.bind_some, id_eq, Option.some.injEq, exists_eq_left', wipeE, lenGs, if_true, if_false, ↓reduceIte, Bool.false_eq_true, Bool.not_true, Bool.not_false, decide_true, decide_false, seq_loc h1.hn, eg]
    refine ⟨hm.1, hm, ?_⟩
    rw [set_0 (x := .int x) (xs := []) h1.hg]
    simp only [runS_nil, runS_one, ex, ev, evT, evTs, evs, evO, evI, asgG, asgGs, tAnd, tOr, evAnd, evOr, lookE, enter, glob0, bi_repr, bi_list, bi_tuple, bi_abs, bi_int, bi_intb, bi_max, bi_min, bi_lent, bi_lenf, bi_lenl, op_add, op_addt, op_sub, op_mul, op_div, op_mod, op_pow, cp_eq, cp_ne, cp_lt, cp_le, cp_gt, cp_ge, cp_in, cp_nin, eq_int, eq_str, tr_bl, ix_int, seq_tup, seq_fl, at_0, at_1, at_2, at_3, runs_ok, runs_bad, runs_bind, runs_grd, runs_opt, runs_calmly, runs_ite, runs_alloc, runS_nx, runS_rt, runS_bk, runS_ct, runS_atE, runS_bindE, runS_bindD, runS_seq, runS_turn, runS_ite, List.map_cons, List.map_nil, List.length_cons, List.length_nil, List.replicate, List.nil_append, List.cons_append, List.getElem?_cons_zero, List.getElem?_cons_succ, List.set_cons_zero, List.set_cons_succ, Option.bind_some, id_eq, Option.some.injEq, exists_eq_left', wipeE, lenGs, if_true, if_false, ↓reduceIte, Bool.false_eq_true, Bool.not_true, Bool.not_false, decide_true, decide_false]
    exact hP _ _ i a [x / m] ⟨Int.emod_nonneg _ (by omega), Int.emod_lt_of_pos _ hm.1⟩ (h1.setg (gs' := [x / m]) (by simp) (fun y hy => by rw [List.mem_singleton.mp hy]; exact Int.ediv_nonneg hx (by omega))) ((Kp2.app n g S _).trans (Kp2.setg n g _ _))
  | nil =>
    have hl : (cs.map D.int).length = cs.length := List.length_map ..
    have hcl := h.cl
    simp only [List.isEmpty_nil, runS_nil, runS_one, ex, ev, evT, evTs, evs, evO, evI, asgG, asgGs, tAnd, tOr, evAnd, evOr, lookE, enter, glob0, bi_repr, bi_list, bi_tuple, bi_abs, bi_int, bi_intb, bi_max, bi_min, bi_lent, bi_lenf, bi_lenl, op_add, op_addt, op_sub, op_mul, op_div, op_mod, op_pow, cp_eq, cp_ne, cp_lt, cp_le, cp_gt, cp_ge, cp_in, cp_nin, eq_int, eq_str, tr_bl, ix_int, seq_tup, seq_fl, at_0, at_1, at_2, at_3, runs_ok, runs_bad, runs_bind, runs_grd, runs_opt, runs_calmly, runs_ite, runs_alloc, runS_nx, runS_rt, runS_bk, runS_ct, runS_atE, runS_bindE, runS_bindD, runS_seq, runS_turn, runS_ite, List.map_cons, List.map_nil, List.length_cons, List.length_nil, List.replicate, List.nil_append, List.cons_append, List.getElem?_cons_zero, List.getElem?_cons_succ, List.set_cons_zero, List.set_cons_succ, Option.bind_some, id_eq, Option.some.injEq, exists_eq_left', wipeE, lenGs, if_true, if_false, ↓reduceIte, Bool.false_eq_true, Bool.not_true, Bool.not_false, decide_true, decide_false]
    rw [runS_cons]
    simp only [runS_nil, runS_one, ex, ev, evT, evTs, evs, evO, evI, asgG, asgGs, tAnd, tOr, evAnd, evOr, lookE, enter, glob0, bi_repr, bi_list, bi_tuple, bi_abs, bi_int, bi_intb, bi_max, bi_min, bi_lent, bi_lenf, bi_lenl, op_add, op_addt, op_sub, op_mul, op_div, op_mod, op_pow, cp_eq, cp_ne, cp_lt, cp_le, cp_gt, cp_ge, cp_in, cp_nin, eq_int, eq_str, tr_bl, ix_int, seq_tup, seq_fl, at_0, at_1, at_2, at_3, runs_ok, runs_bad, runs_bind, runs_grd, runs_opt, runs_calmly, runs_ite, runs_alloc, runS_nx, runS_rt, runS_bk, runS_ct, runS_atE, runS_bindE, runS_bindD, runS_seq, runS_turn, runS_ite, List.map_cons, List.map_nil, List.length_cons, List.length_nil, List.replicate, List.nil_append, List.cons_append, List.getElem?_cons_zero, List.getElem?_cons_succ, List.set_cons_zero, List.set_cons_succ, Option.bind_some, id_eq, Option.some.injEq, exists_eq_left', wipeE, lenGs, if_true, if_false, ↓reduceIte, Bool.false_eq_true, Bool.not_true, Bool.not_false, decide_true, decide_false, seq_loc h1.hn, getLst_at h1.hc, seq_loc h1.hc, hl]
    refine ⟨by omega, ?_⟩
    obtain ⟨x, hx, hxe⟩ := at_int (xs := cs) (i := i % (cs.length : Int)) (Int.emod_nonneg _ (by omega)) (Int.emod_lt_of_pos _ (by omega))
    have hxp := h.cp x hx
    refine ⟨_, hxe, ?_⟩
    rw [runS_cons]
    simp only [runS_nil, runS_one, ex, ev, evT, evTs, evs, evO, evI, asgG, asgGs, tAnd, tOr, evAnd, evOr, lookE, enter, glob0, bi_repr, bi_list, bi_tuple, bi_abs, bi_int, bi_intb, bi_max, bi_min, bi_lent, bi_lenf, bi_lenl, op_add, op_addt, op_sub, op_mul, op_div, op_mod, op_pow, cp_eq, cp_ne, cp_lt, cp_le, cp_gt, cp_ge, cp_in, cp_nin, eq_int, eq_str, tr_bl, ix_int, seq_tup, seq_fl, at_0, at_1, at_2, at_3, runs_ok, runs_bad, runs_bind, runs_grd, runs_opt, runs_calmly, runs_ite, runs_alloc, runS_nx, runS_rt, runS_bk, runS_ct, runS_atE, runS_bindE, runS_bindD, runS_seq, runS_turn, runS_ite, List.map_cons, List.map_nil, List.length_cons, List.length_nil, List.replicate, List.nil_append, List.cons_append, List.getElem?_cons_zero, List.getElem?_cons_succ, List.set_cons_zero, List.set_cons_succ, Option.bind_some, id_eq, Option.some.injEq, exists_eq_left', wipeE, lenGs, if_true, if_false, ↓reduceIte, Bool.false_eq_true, Bool.not_true, Bool.not_false, decide_true, decide_false, seq_loc h1.hn]
    rw [set_2 h1.hn]
    simp only [runS_nil, runS_one, ex, ev, evT, evTs, evs, evO, evI, asgG, asgGs, tAnd, tOr, evAnd, evOr, lookE, enter, glob0, bi_repr, bi_list, bi_tuple, bi_abs, bi_int, bi_intb, bi_max, bi_min, bi_lent, bi_lenf, bi_lenl, op_add, op_addt, op_sub, op_mul, op_div, op_mod, op_pow, cp_eq, cp_ne, cp_lt, cp_le, cp_gt, cp_ge, cp_in, cp_nin, eq_int, eq_str, tr_bl, ix_int, seq_tup, seq_fl, at_0, at_1, at_2, at_3, runs_ok, runs_bad, runs_bind, runs_grd, runs_opt, runs_calmly, runs_ite, runs_alloc, runS_nx, runS_rt, runS_bk, runS_ct, runS_atE, runS_bindE, runS_bindD, runS_seq, runS_turn, runS_ite, List.map_cons, List.map_nil, List.length_cons, List.length_nil, List.replicate, List.nil_append, List.cons_append, List.getElem?_cons_zero, List.getElem?_cons_succ, List.set_cons_zero, List.set_cons_succ, Option.bind_some, id_eq, Option.some.injEq, exists_eq_left', wipeE, lenGs, if_true, if_false, ↓reduceIte, Bool.false_eq_true, Bool.not_true, Bool.not_false, decide_true, decide_false]
    have h2 := h1.setn (i' := i + 1) (a' := a) (by have := h.ip; omega) h.ap
    rw [runS_cons]
    simp only [runS_nil, runS_one, ex, ev, evT, evTs, evs, evO, evI, asgG, asgGs, tAnd, tOr, evAnd, evOr, lookE, enter, glob0, bi_repr, bi_list, bi_tuple, bi_abs, bi_int, bi_intb, bi_max, bi_min, bi_lent, bi_lenf, bi_lenl, op_add, op_addt, op_sub, op_mul, op_div, op_mod, op_pow, cp_eq, cp_ne, cp_lt, cp_le, cp_gt, cp_ge, cp_in, cp_nin, eq_int, eq_str, tr_bl, ix_int, seq_tup, seq_fl, at_0, at_1, at_2, at_3, runs_ok, runs_bad, runs_bind, runs_grd, runs_opt, runs_calmly, runs_ite, runs_alloc, runS_nx, runS_rt, runS_bk, runS_ct, runS_atE, runS_bindE, runS_bindD, runS_seq, runS_turn, runS_ite, List.map_cons, List.map_nil, List.length_cons, List.length_nil, List.replicate, List.nil_append, List.cons_append, List.getElem?_cons_zero, List.getElem?_cons_succ, List.set_cons_zero, List.set_cons_succ, Option.bind_some, id_eq, Option.some.injEq, exists_eq_left', wipeE, lenGs, if_true, if_false, ↓reduceIte, Bool.false_eq_true, Bool.not_true, Bool.not_false, decide_true, decide_false, seq_loc h2.hn]
    refine ⟨mul_r (by decide), mul_r (by decide), by decide, ?_⟩
    rw [set_3 h2.hn]
    simp only [runS_nil, runS_one, ex, ev, evT, evTs, evs, evO, evI, asgG, asgGs, tAnd, tOr, evAnd, evOr, lookE, enter, glob0, bi_repr, bi_list, bi_tuple, bi_abs, bi_int, bi_intb, bi_max, bi_min, bi_lent, bi_lenf, bi_lenl, op_add, op_addt, op_sub, op_mul, op_div, op_mod, op_pow, cp_eq, cp_ne, cp_lt, cp_le, cp_gt, cp_ge, cp_in, cp_nin, eq_int, eq_str, tr_bl, ix_int, seq_tup, seq_fl, at_0, at_1, at_2, at_3, runs_ok, runs_bad, runs_bind, runs_grd, runs_opt, runs_calmly, runs_ite, runs_alloc, runS_nx, runS_rt, runS_bk, runS_ct, runS_atE, runS_bindE, runS_bindD, runS_seq, runS_turn, runS_ite, List.map_cons, List.map_nil, List.length_cons, List.length_nil, List.replicate, List.nil_append, List.cons_append, List.getElem?_cons_zero, List.getElem?_cons_succ, List.set_cons_zero, List.set_cons_succ, Option.bind_some, id_eq, Option.some.injEq, exists_eq_left', wipeE, lenGs, if_true, if_false, ↓reduceIte, Bool.false_eq_true, Bool.not_true, Bool.not_false, decide_true, decide_false]
    have hb := Int.emod_lt_of_pos (a * 48271 + x * 69621 + (i + 1)) (b := 2305843009213693951) (by decide)
    have ha := Int.emod_nonneg (a * 48271 + x * 69621 + (i + 1)) (b := 2305843009213693951) (by decide)
    have h3 := h2.setn (i' := i + 1) (a' := (a * 48271 + x * 69621 + (i + 1)) % 2305843009213693951) (by have := h.ip; omega) ⟨ha, hb⟩
    simp only [seq_loc h3.hn, runS_nil, runS_one, ex, ev, evT, evTs, evs, evO, evI, asgG, asgGs, tAnd, tOr, evAnd, evOr, lookE, enter, glob0, bi_repr, bi_list, bi_tuple, bi_abs, bi_int, bi_intb, bi_max, bi_min, bi_lent, bi_lenf, bi_lenl, op_add, op_addt, op_sub, op_mul, op_div, op_mod, op_pow, cp_eq, cp_ne, cp_lt, cp_le, cp_gt, cp_ge, cp_in, cp_nin, eq_int, eq_str, tr_bl, ix_int, seq_tup, seq_fl, at_0, at_1, at_2, at_3, runs_ok, runs_bad, runs_bind, runs_grd, runs_opt, runs_calmly, runs_ite, runs_alloc, runS_nx, runS_rt, runS_bk, runS_ct, runS_atE, runS_bindE, runS_bindD, runS_seq, runS_turn, runS_ite, List.map_cons, List.map_nil, List.length_cons, List.length_nil, List.replicate, List.nil_append, List.cons_append, List.getElem?_cons_zero, List.getElem?_cons_succ, List.set_cons_zero, List.set_cons_succ, Option.bind_some, id_eq, Option.some.injEq, exists_eq_left', wipeE, lenGs, if_true, if_false, ↓reduceIte, Bool.false_eq_true, Bool.not_true, Bool.not_false, decide_true, decide_false]
    refine ⟨mul_r (by omega), by decide, hm.1, ?_⟩
    exact hP _ _ _ _ _ ⟨Int.emod_nonneg _ (by omega), Int.emod_lt_of_pos _ hm.1⟩ h3 (((Kp2.app n g S _).trans (Kp2.setn n g _ _)).trans (Kp2.setn n g _ _))
theorem r_take {k n g c : Nat} {i a m : Int} {gs cs : List Int} {S : Sto} {P : D → Sto → Prop} (h : St S n g c i a gs cs) (hm : 0 < m ∧ m < 1073741824)
    (hP : ∀ d S' i' a' gs', 0 ≤ d ∧ d < m → St S' n g c i' a' gs' cs → Kp2 n g S S' → P (.int d) S') : Runs (callN M (k + 1) "_law_take" [.loc n, .int m] S) P := by
  rw [c_take]
  refine runs_body (by rfl) ?_
  have tail : ∀ S1 gs1, St S1 n g c i a gs1 cs → Kp2 n g S S1 → RunS (exs (glob0 M (callN M k)) (b_law_take.drop 1) [some (.loc n), some (.int m), none, none] S1) (fun _ S => P .non S) P (fun _ _ => False) (fun _ _ => False) :=
    fun S1 gs1 h1 k1 => take_tail h1 hm fun d S' i' a' gs' hd hs kk => hP d S' i' a' gs' hd hs (k1.trans kk)
  unfold b_law_take
  rw [runS_cons]
  simp only [runS_nil, runS_one, ex, ev, evT, evTs, evs, evO, evI, asgG, asgGs, tAnd, tOr, evAnd, evOr, lookE, enter, glob0, bi_repr, bi_list, bi_tuple, bi_abs, bi_int, bi_intb, bi_max, bi_min, bi_lent, bi_lenf, bi_lenl, op_add, op_addt, op_sub, op_mul, op_div, op_mod, op_pow, cp_eq, cp_ne, cp_lt, cp_le, cp_gt, cp_ge, cp_in, cp_nin, eq_int, eq_str, tr_bl, ix_int, seq_tup, seq_fl, at_0, at_1, at_2, at_3, runs_ok, runs_bad, runs_bind, runs_grd, runs_opt, runs_calmly, runs_ite, runs_alloc, runS_nx, runS_rt, runS_bk, runS_ct, runS_atE, runS_bindE, runS_bindD, runS_seq, runS_turn, runS_ite, List.map_cons, List.map_nil, List.length_cons, List.length_nil, List.replicate, List.nil_append, List.cons_append, List.getElem?_cons_zero, List.getElem?_cons_succ, List.set_cons_zero, List.set_cons_succ, Option.bind_some, id_eq, Option.some.injEq, exists_eq_left', wipeE, lenGs, if_true, if_false, ↓reduceIte, Bool.false_eq_true, Bool.not_true, Bool.not_false, decide_true, decide_false]
  refine while_m (fun j env S' => env = [some (.loc n), some (.int m), none, none] ∧ ∃ gs', gs'.length = j ∧ St S' n g c i a gs' cs ∧ Kp2 n g S S') ?_ (m := gs.length) (by show gs.length < 200; have := h.gl; omega) ⟨rfl, gs, rfl, h, Kp2.refl _ _ _⟩
  rintro j env S1 ⟨rfl, gs1, rfl, h1, k1⟩
  have h2 := h1.app [.lst []]
  have k2 := k1.trans (Kp2.app n g S1 [.lst []])
  simp only [runS_nil, runS_one, ex, ev, evT, evTs, evs, evO, evI, asgG, asgGs, tAnd, tOr, evAnd, evOr, lookE, enter, glob0, bi_repr, bi_list, bi_tuple, bi_abs, bi_int, bi_intb, bi_max, bi_min, bi_lent, bi_lenf, bi_lenl, op_add, op_addt, op_sub, op_mul, op_div, op_mod, op_pow, cp_eq, cp_ne, cp_lt, cp_le, cp_gt, cp_ge, cp_in, cp_nin, eq_int, eq_str, tr_bl, ix_int, seq_tup, seq_fl, at_0, at_1, at_2, at_3, runs_ok, runs_bad, runs_bind, runs_grd, runs_opt, runs_calmly, runs_ite, runs_alloc, runS_nx, runS_rt, runS_bk, runS_ct, runS_atE, runS_bindE, runS_bindD, runS_seq, runS_turn, runS_ite, List.map_cons, List.map_nil, List.length_cons, List.length_nil, List.replicate, List.nil_append, List.cons_append, List.getElem?_cons_zero, List.getElem?_cons_succ, List.set_cons_zero, List.set_cons_succ, Option.bind_some, id_eq, Option.some.injEq, exists_eq_left', wipeE, lenGs, if_true, if_false, ↓reduceIte, Bool.false_eq_true, Bool.not_true, Bool.not_false, decide_true, decide_false, seq_loc h1.hn]
  refine ⟨by decide, _, eq_empty h2.hg (at_app _), ?_⟩
  cases gs1 with
  | nil =>
    simp only [List.isEmpty_nil, List.map_cons, List.map_nil, List.length_cons, List.length_nil, List.replicate, List.nil_append, List.cons_append, List.getElem?_cons_zero, List.getElem?_cons_succ, List.set_cons_zero, List.set_cons_succ, Option.bind_some, id_eq, Option.some.injEq, exists_eq_left', wipeE, lenGs, if_true, if_false, ↓reduceIte, Bool.false_eq_true, Bool.not_true, Bool.not_false, decide_true, decide_false]
    exact tail _ _ h2 k2
  | cons x r =>
    have eg : seqOf (S1 ++ [.lst []]) (.loc g) = some (.int x :: r.map D.int) := seq_loc h2.hg
    simp only [List.isEmpty_cons, runS_nil, runS_one, ex, ev, evT, evTs, evs, evO, evI, asgG, asgGs, tAnd, tOr, evAnd, evOr, lookE, enter, glob0, bi_repr, bi_list, bi_tuple, bi_abs, bi_int, bi_intb, bi_max, bi_min, bi_lent, bi_lenf, bi_lenl, op_add, op_addt, op_sub, op_mul, op_div, op_mod, op_pow, cp_eq, cp_ne, cp_lt, cp_le, cp_gt, cp_ge, cp_in, cp_nin, eq_int, eq_str, tr_bl, ix_int, seq_tup, seq_fl, at_0, at_1, at_2, at_3, runs_ok, runs_bad, runs_bind, runs_grd, runs_opt, runs_calmly, runs_ite, runs_alloc, runS_nx, runS_rt, runS_bk, runS_ct, runS_atE, runS_bindE, runS_bindD, runS_seq, runS_turn, runS_ite, List.map_cons, List.map_nil, List.length_cons, List.length_nil, List.replicate, List.nil_append, List.cons_append, List.getElem?_cons_zero, List.getElem?_cons_succ, List.set_cons_zero, List.set_cons_succ, Option.bind_some, id_eq, Option.some.injEq, exists_eq_left', wipeE, lenGs, if_true, if_false, ↓reduceIte, Bool.false_eq_true, Bool.not_true, Bool.not_false, decide_true, decide_false, seq_loc h2.hn, eg]
    by_cases hx : x = 0
    · subst hx
      simp only [List.map_cons, List.map_nil, List.length_cons, List.length_nil, List.replicate, List.nil_append, List.cons_append, List.getElem?_cons_zero, List.getElem?_cons_succ, List.set_cons_zero, List.set_cons_succ, Option.bind_some, id_eq, Option.some.injEq, exists_eq_left', wipeE, lenGs, if_true, if_false, ↓reduceIte, Bool.false_eq_true, Bool.not_true, Bool.not_false, decide_true, decide_false]
      refine ⟨by simp, recv_pop h2.hg, ?_⟩
      rw [pop_at (x := .int 0) (xs := r.map D.int) h2.hg]
      simp only [runs_ok, runs_bad, runs_bind, runs_grd, runs_opt, runs_calmly, runs_ite, runs_alloc, runS_nx, runS_rt, runS_bk, runS_ct, runS_atE, runS_bindE, runS_bindD, runS_seq, runS_turn, runS_ite]
      have hl := h1.gl
      simp only [List.length_cons] at hl
      exact ⟨trivial, r, by simp, h2.setg (by omega) (fun y hy => h1.gp y (List.mem_cons_of_mem _ hy)), k2.trans (Kp2.setg n g _ _)⟩
    · simp only [hx, List.map_cons, List.map_nil, List.length_cons, List.length_nil, List.replicate, List.nil_append, List.cons_append, List.getElem?_cons_zero, List.getElem?_cons_succ, List.set_cons_zero, List.set_cons_succ, Option.bind_some, id_eq, Option.some.injEq, exists_eq_left', wipeE, lenGs, if_true, if_false, ↓reduceIte, Bool.false_eq_true, Bool.not_true, Bool.not_false, decide_true, decide_false]
      exact tail _ _ h2 k2
end K02
set_option Elab.async false
set_option linter.all false
set_option maxRecDepth 100000
set_option maxHeartbeats 400000
namespace K02
open Mi PySem
def cutI (xs : List Int) (lo hi : Option Int) : List Int := (xs.drop (HT.sIx xs.length 0 lo)).take (HT.sIx xs.length xs.length hi - HT.sIx xs.length 0 lo)
theorem cut_ints (xs : List Int) (lo hi : Option Int) : cutD (xs.map D.int) lo hi = (cutI xs lo hi).map D.int := by
  unfold cutD cutI
  rw [List.length_map, List.map_take, List.map_drop]
theorem cutI_len (xs : List Int) (lo hi : Option Int) : (cutI xs lo hi).length ≤ xs.length := by
  unfold cutI
  rw [List.length_take, List.length_drop]
  omega
theorem slice_fl (xs : List D) (lo hi : Option Int) (S : Sto) : sliceD (.fl xs) lo hi S = alloc (.lst (cutD xs lo hi)) S := rfl
theorem slice_loc {S : Sto} {n : Nat} {xs : List D} (h : S[n]? = some (.lst xs)) (lo hi : Option Int) : sliceD (.loc n) lo hi S = alloc (.lst (cutD xs lo hi)) S := by
  simp only [sliceD, getLst_at h]
theorem int_of (i : Int) : intOf (.int i) = some i := rfl
theorem lc_ints {P : List D → Sto → Prop} {f : List D → D → Sto → Res (List D)} {g : Sto → Option (List D)} {is : List Int} {S : Sto} (φ : Int → Int) (hg : g S = some (is.map D.int)) (hl : is.length < 1000)
    (hs : ∀ x acc, x ∈ is → acc.length < 1000 → Runs (f acc (.int x) S) fun acc' S' => acc' = acc ++ [.int (φ x)] ∧ S' = S) (hP : P ((is.map φ).map D.int) S) : Runs (lcLive f g (is.map D.int).length 0 [] S) P := by
  refine lc_live (fun j acc S' => acc = ((is.take j).map φ).map D.int ∧ S' = S) ⟨rfl, rfl⟩ (fun j acc S' _ h => by rw [h.2]; exact hg) ?_ ?_
  · rintro j x acc S' hx ⟨rfl, rfl⟩
    have hj : j < is.length := by
      have := (List.getElem?_eq_some_iff.mp hx).1
      simpa using this
    rw [List.getElem?_map, List.getElem?_eq_getElem hj] at hx
    cases hx
    refine (hs is[j] _ (List.getElem_mem hj) (by simp; omega)).mono ?_
    rintro acc' S'' ⟨rfl, rfl⟩
    refine ⟨?_, rfl⟩
    rw [List.take_succ, List.getElem?_eq_getElem hj, List.map_append, List.map_append]
    rfl
  · rintro acc S' ⟨rfl, rfl⟩
    rw [List.length_map, List.take_length]
    exact hP
theorem lc_filt {P : List D → Sto → Prop} {f : List D → D → Sto → Res (List D)} {g : Sto → Option (List D)} {is : List Int} {S : Sto} (φ : Int → Bool) (hg : g S = some (is.map D.int)) (hl : is.length < 1000)
    (hs : ∀ x acc, x ∈ is → acc.length < 1000 → Runs (f acc (.int x) S) fun acc' S' => acc' = (if φ x = true then acc ++ [.int x] else acc) ∧ S' = S) (hP : P ((is.filter φ).map D.int) S) : Runs (lcLive f g (is.map D.int).length 0 [] S) P := by
  refine lc_live (fun j acc S' => acc = ((is.take j).filter φ).map D.int ∧ S' = S) ⟨rfl, rfl⟩ (fun j acc S' _ h => by rw [h.2]; exact hg) ?_ ?_
  · rintro j x acc S' hx ⟨rfl, rfl⟩
    have hj : j < is.length := by
      have := (List.getElem?_eq_some_iff.mp hx).1
      simpa using this
    rw [List.getElem?_map, List.getElem?_eq_getElem hj] at hx
    cases hx
    refine (hs is[j] _ (List.getElem_mem hj) ?_).mono ?_
    · rw [List.length_map]
      have := List.length_filter_le φ (is.take j)
      rw [List.length_take] at this
      omega
    rintro acc' S'' ⟨rfl, rfl⟩
    refine ⟨?_, rfl⟩
    rw [List.take_succ, List.getElem?_eq_getElem hj, Option.toList_some, List.filter_append]
    by_cases z : φ is[j] = true
    · rw [if_pos z, List.filter_cons_of_pos z]
      simp
    · rw [if_neg z, List.filter_cons_of_neg z]
      simp
  · rintro acc S' ⟨rfl, rfl⟩
    rw [List.length_map, List.take_length]
    exact hP
theorem th_lt_size : (1000 : Nat) < sizeLine := by decide
theorem r_stream {k : Nat} {i : Int} {ns : List Int} {S : Sto} {P : D → Sto → Prop} (hl : ns.length ≤ 63) (hi : 0 ≤ i ∧ i < 100)
    (hP : ∀ S' n g c a gs cs, Kp S S' → S.length ≤ n → S.length ≤ g → St S' n g c 0 a gs cs → P (.loc n) S') : Runs (callN M (k + 1) "_law_stream" [.fl (ns.map D.int), .int i] S) P := by
  have hsz := th_lt_size
  rw [c_stream]
  refine runs_body (by rfl) ?_
  unfold b_law_stream
  rw [runS_cons]
  simp only [runS_nil, runS_one, ex, ev, evT, evTs, evs, evO, evI, asgG, asgGs, tAnd, tOr, evAnd, evOr, lookE, enter, glob0, bi_repr, bi_list, bi_tuple, bi_abs, bi_int, bi_intb, bi_max, bi_min, bi_lent, bi_lenf, bi_lenl, op_add, op_addt, op_sub, op_mul, op_div, op_mod, op_pow, cp_eq, cp_ne, cp_lt, cp_le, cp_gt, cp_ge, cp_in, cp_nin, eq_int, eq_str, tr_bl, ix_int, seq_tup, seq_fl, at_0, at_1, at_2, at_3, runs_ok, runs_bad, runs_bind, runs_grd, runs_opt, runs_calmly, runs_ite, runs_alloc, runS_nx, runS_rt, runS_bk, runS_ct, runS_atE, runS_bindE, runS_bindD, runS_seq, runS_turn, runS_ite, List.map_cons, List.map_nil, List.length_cons, List.length_nil, List.replicate, List.nil_append, List.cons_append, List.getElem?_cons_zero, List.getElem?_cons_succ, List.set_cons_zero, List.set_cons_succ, Option.bind_some, id_eq, Option.some.injEq, exists_eq_left', wipeE, lenGs, if_true, if_false, ↓reduceIte, Bool.false_eq_true, Bool.not_true, Bool.not_false, decide_true, decide_false, slice_fl, int_of, cut_ints]
  have e1 : (S ++ [O.lst ((cutI ns (some i) none).map D.int)] ++ [O.lst ((cutI ns none (some i)).map D.int)])[S.length]? = some (.lst ((cutI ns (some i) none).map D.int)) := Kp.app _ _ _ _ (at_app _)
  have e2 : (S ++ [O.lst ((cutI ns (some i) none).map D.int)] ++ [O.lst ((cutI ns none (some i)).map D.int)])[(S ++ [O.lst ((cutI ns (some i) none).map D.int)]).length]? = some (.lst ((cutI ns none (some i)).map D.int)) := at_app _
  have kA : Kp S (S ++ [O.lst ((cutI ns (some i) none).map D.int)] ++ [O.lst ((cutI ns none (some i)).map D.int)]) := (Kp.app _ _).trans (Kp.app _ _)
  rw [op_addl e1 e2, ← List.map_append]
  generalize S ++ [O.lst ((cutI ns (some i) none).map D.int)] ++ [O.lst ((cutI ns none (some i)).map D.int)] = A at kA
  have hL : (cutI ns (some i) none ++ cutI ns none (some i)).length ≤ 126 := by
    rw [List.length_append]
    have := cutI_len ns (some i) none
    have := cutI_len ns none (some i)
    omega
  generalize hcs : cutI ns (some i) none ++ cutI ns none (some i) = is at hL
  have hL' : ((cutI ns (some i) none).map D.int).length + ((cutI ns none (some i)).map D.int).length ≤ sizeLine := by
    rw [List.length_map, List.length_map, ← List.length_append, hcs]; omega
  simp only [runs_ok, runs_bad, runs_bind, runs_grd, runs_opt, runs_calmly, runs_ite, runs_alloc, runS_nx, runS_rt, runS_bk, runS_ct, runS_atE, runS_bindE, runS_bindD, runS_seq, runS_turn, runS_ite, getLst_at (at_app _)]
  refine ⟨hL', ?_⟩
  have kB : Kp S (A ++ [.lst (is.map D.int)]) := kA.trans (Kp.app _ _)
  refine lc_ints (fun x => 2 * (if x < 0 then -x else x) + (if decide (x < 0) = true then 1 else 0)) (getLst_at (at_app _)) (by omega) ?_ ?_
  · intro x acc hx ha
    simp only [lcStep, runS_nil, runS_one, ex, ev, evT, evTs, evs, evO, evI, asgG, asgGs, tAnd, tOr, evAnd, evOr, lookE, enter, glob0, bi_repr, bi_list, bi_tuple, bi_abs, bi_int, bi_intb, bi_max, bi_min, bi_lent, bi_lenf, bi_lenl, op_add, op_addt, op_sub, op_mul, op_div, op_mod, op_pow, cp_eq, cp_ne, cp_lt, cp_le, cp_gt, cp_ge, cp_in, cp_nin, eq_int, eq_str, tr_bl, ix_int, seq_tup, seq_fl, at_0, at_1, at_2, at_3, runs_ok, runs_bad, runs_bind, runs_grd, runs_opt, runs_calmly, runs_ite, runs_alloc, runS_nx, runS_rt, runS_bk, runS_ct, runS_atE, runS_bindE, runS_bindD, runS_seq, runS_turn, runS_ite, List.map_cons, List.map_nil, List.length_cons, List.length_nil, List.replicate, List.nil_append, List.cons_append, List.getElem?_cons_zero, List.getElem?_cons_succ, List.set_cons_zero, List.set_cons_succ, Option.bind_some, id_eq, Option.some.injEq, exists_eq_left', wipeE, lenGs, if_true, if_false, ↓reduceIte, Bool.false_eq_true, Bool.not_true, Bool.not_false, decide_true, decide_false]
    exact ⟨by unfold mulOk; simp, by omega, trivial, trivial⟩
  generalize A ++ [.lst (is.map D.int)] = B0 at kB
  generalize hcells : is.map (fun x => 2 * (if x < 0 then -x else x) + (if decide (x < 0) = true then 1 else 0)) = cells
  have hcl : cells.length ≤ 126 := by rw [← hcells, List.length_map]; exact hL
  have hcp : ∀ x ∈ cells, 0 ≤ x := by
    intro x hx
    rw [← hcells] at hx
    obtain ⟨y, _, rfl⟩ := List.mem_map.mp hx
    split <;> split <;> omega
  have eB : (B0 ++ [O.lst (cells.map D.int)])[B0.length]? = some (.lst (cells.map D.int)) := at_app _
  have hB : S.length ≤ B0.length := kB.len
  have kB' : Kp S (B0 ++ [O.lst (cells.map D.int)]) := kB.trans (Kp.app _ _)
  rw [runS_cons]
  simp only [runS_nil, runS_one, ex, ev, evT, evTs, evs, evO, evI, asgG, asgGs, tAnd, tOr, evAnd, evOr, lookE, enter, glob0, bi_repr, bi_list, bi_tuple, bi_abs, bi_int, bi_intb, bi_max, bi_min, bi_lent, bi_lenf, bi_lenl, op_add, op_addt, op_sub, op_mul, op_div, op_mod, op_pow, cp_eq, cp_ne, cp_lt, cp_le, cp_gt, cp_ge, cp_in, cp_nin, eq_int, eq_str, tr_bl, ix_int, seq_tup, seq_fl, at_0, at_1, at_2, at_3, runs_ok, runs_bad, runs_bind, runs_grd, runs_opt, runs_calmly, runs_ite, runs_alloc, runS_nx, runS_rt, runS_bk, runS_ct, runS_atE, runS_bindE, runS_bindD, runS_seq, runS_turn, runS_ite, List.map_cons, List.map_nil, List.length_cons, List.length_nil, List.replicate, List.nil_append, List.cons_append, List.getElem?_cons_zero, List.getElem?_cons_succ, List.set_cons_zero, List.set_cons_succ, Option.bind_some, id_eq, Option.some.injEq, exists_eq_left', wipeE, lenGs, if_true, if_false, ↓reduceIte, Bool.false_eq_true, Bool.not_true, Bool.not_false, decide_true, decide_false, int_of, slice_loc eB, cut_ints, getLst_at (at_app _)]
  generalize hhi : (if decide (i < ((ns.map D.int).length : Int)) = true then (1 : Int) else 0) = hiv
  have hhv : hiv = 0 ∨ hiv = 1 := by rw [← hhi]; split <;> simp
  have hgl : (cutI cells none (some hiv)).length ≤ 1 := by
    unfold cutI
    rw [HT.sIx_none, List.length_take]
    rcases hhv with z | z
    · rw [z]; have := HT.sIx_nat cells.length cells.length 0; simp only [Int.ofNat_zero, Int.natCast_zero] at this; rw [show HT.sIx cells.length cells.length (some 0) = min 0 cells.length from this]; omega
    · rw [z]; have := HT.sIx_nat cells.length cells.length 1; rw [show HT.sIx cells.length cells.length (some 1) = min 1 cells.length from this]; omega
  have hgm : ∀ x ∈ cutI cells none (some hiv), 0 ≤ x := fun x hx => hcp x (by
    unfold cutI at hx
    exact List.mem_of_mem_drop (List.mem_of_mem_take hx))
  generalize cutI cells none (some hiv) = gr at hgl hgm
  have eC : (B0 ++ [O.lst (cells.map D.int)] ++ [O.lst (gr.map D.int)])[B0.length]? = some (.lst (cells.map D.int)) := Kp.app _ _ _ _ eB
  have kC : Kp S (B0 ++ [O.lst (cells.map D.int)] ++ [O.lst (gr.map D.int)]) := kB'.trans (Kp.app _ _)
  refine lc_filt (fun x => decide (2 * (10 : Int) ^ 18 ≤ x)) (getLst_at (at_app _)) (by omega) ?_ ?_
  · intro x acc hx ha
    simp only [lcStep, runS_nil, runS_one, ex, ev, evT, evTs, evs, evO, evI, asgG, asgGs, tAnd, tOr, evAnd, evOr, lookE, enter, glob0, bi_repr, bi_list, bi_tuple, bi_abs, bi_int, bi_intb, bi_max, bi_min, bi_lent, bi_lenf, bi_lenl, op_add, op_addt, op_sub, op_mul, op_div, op_mod, op_pow, cp_eq, cp_ne, cp_lt, cp_le, cp_gt, cp_ge, cp_in, cp_nin, eq_int, eq_str, tr_bl, ix_int, seq_tup, seq_fl, at_0, at_1, at_2, at_3, runs_ok, runs_bad, runs_bind, runs_grd, runs_opt, runs_calmly, runs_ite, runs_alloc, runS_nx, runS_rt, runS_bk, runS_ct, runS_atE, runS_bindE, runS_bindD, runS_seq, runS_turn, runS_ite, List.map_cons, List.map_nil, List.length_cons, List.length_nil, List.replicate, List.nil_append, List.cons_append, List.getElem?_cons_zero, List.getElem?_cons_succ, List.set_cons_zero, List.set_cons_succ, Option.bind_some, id_eq, Option.some.injEq, exists_eq_left', wipeE, lenGs, if_true, if_false, ↓reduceIte, Bool.false_eq_true, Bool.not_true, Bool.not_false, decide_true, decide_false]
    refine ⟨by decide, by decide, ?_⟩
    by_cases z : 2 * (10 : Int) ^ 18 ≤ x
    · have z' : 2 * (10 : Int) ^ (18 : Int).toNat ≤ x := z
      simp only [z, z', List.map_cons, List.map_nil, List.length_cons, List.length_nil, List.replicate, List.nil_append, List.cons_append, List.getElem?_cons_zero, List.getElem?_cons_succ, List.set_cons_zero, List.set_cons_succ, Option.bind_some, id_eq, Option.some.injEq, exists_eq_left', wipeE, lenGs, if_true, if_false, ↓reduceIte, Bool.false_eq_true, Bool.not_true, Bool.not_false, decide_true, decide_false, runs_ok, runs_bad, runs_bind, runs_grd, runs_opt, runs_calmly, runs_ite, runs_alloc, runS_nx, runS_rt, runS_bk, runS_ct, runS_atE, runS_bindE, runS_bindD, runS_seq, runS_turn, runS_ite]
      exact ⟨by omega, trivial, trivial⟩
    · have z' : ¬ 2 * (10 : Int) ^ (18 : Int).toNat ≤ x := z
      simp only [z, z', List.map_cons, List.map_nil, List.length_cons, List.length_nil, List.replicate, List.nil_append, List.cons_append, List.getElem?_cons_zero, List.getElem?_cons_succ, List.set_cons_zero, List.set_cons_succ, Option.bind_some, id_eq, Option.some.injEq, exists_eq_left', wipeE, lenGs, if_true, if_false, ↓reduceIte, Bool.false_eq_true, Bool.not_true, Bool.not_false, decide_true, decide_false, runs_ok, runs_bad, runs_bind, runs_grd, runs_opt, runs_calmly, runs_ite, runs_alloc, runS_nx, runS_rt, runS_bk, runS_ct, runS_atE, runS_bindE, runS_bindD, runS_seq, runS_turn, runS_ite]
      exact ⟨trivial, trivial⟩
  generalize B0 ++ [O.lst (cells.map D.int)] ++ [O.lst (gr.map D.int)] = C0 at eC kC
  have hgs : (gr.filter fun x => decide (2 * (10 : Int) ^ 18 ≤ x)).length ≤ 1 := Nat.le_trans (List.length_filter_le _ _) hgl
  have hgp : ∀ x ∈ gr.filter (fun x => decide (2 * (10 : Int) ^ 18 ≤ x)), 0 ≤ x := fun x hx => hgm x (List.mem_filter.mp hx).1
  generalize gr.filter (fun x => decide (2 * (10 : Int) ^ 18 ≤ x)) = gs at hgs hgp
  have hC : S.length ≤ C0.length := kC.len
  have eD : (C0 ++ [O.lst (gs.map D.int)])[C0.length]? = some (.lst (gs.map D.int)) := at_app _
  have eD2 : (C0 ++ [O.lst (gs.map D.int)])[B0.length]? = some (.lst (cells.map D.int)) := Kp.app _ _ _ _ eC
  have kD : Kp S (C0 ++ [O.lst (gs.map D.int)]) := kC.trans (Kp.app _ _)
  have hDl : (C0 ++ [O.lst (gs.map D.int)]).length = C0.length + 1 := by simp
  simp only [runS_nil, runS_one, ex, ev, evT, evTs, evs, evO, evI, asgG, asgGs, tAnd, tOr, evAnd, evOr, lookE, enter, glob0, bi_repr, bi_list, bi_tuple, bi_abs, bi_int, bi_intb, bi_max, bi_min, bi_lent, bi_lenf, bi_lenl, op_add, op_addt, op_sub, op_mul, op_div, op_mod, op_pow, cp_eq, cp_ne, cp_lt, cp_le, cp_gt, cp_ge, cp_in, cp_nin, eq_int, eq_str, tr_bl, ix_int, seq_tup, seq_fl, at_0, at_1, at_2, at_3, runs_ok, runs_bad, runs_bind, runs_grd, runs_opt, runs_calmly, runs_ite, runs_alloc, runS_nx, runS_rt, runS_bk, runS_ct, runS_atE, runS_bindE, runS_bindD, runS_seq, runS_turn, runS_ite, List.map_cons, List.map_nil, List.length_cons, List.length_nil, List.replicate, List.nil_append, List.cons_append, List.getElem?_cons_zero, List.getElem?_cons_succ, List.set_cons_zero, List.set_cons_succ, Option.bind_some, id_eq, Option.some.injEq, exists_eq_left', wipeE, lenGs, if_true, if_false, ↓reduceIte, Bool.false_eq_true, Bool.not_true, Bool.not_false, decide_true, decide_false, getLst_at eD2]
  refine lc_ints (fun x => x % 2305843009213693951) (getLst_at eD2) (by omega) ?_ ?_
  · intro x acc hx ha
    simp only [lcStep, runS_nil, runS_one, ex, ev, evT, evTs, evs, evO, evI, asgG, asgGs, tAnd, tOr, evAnd, evOr, lookE, enter, glob0, bi_repr, bi_list, bi_tuple, bi_abs, bi_int, bi_intb, bi_max, bi_min, bi_lent, bi_lenf, bi_lenl, op_add, op_addt, op_sub, op_mul, op_div, op_mod, op_pow, cp_eq, cp_ne, cp_lt, cp_le, cp_gt, cp_ge, cp_in, cp_nin, eq_int, eq_str, tr_bl, ix_int, seq_tup, seq_fl, at_0, at_1, at_2, at_3, runs_ok, runs_bad, runs_bind, runs_grd, runs_opt, runs_calmly, runs_ite, runs_alloc, runS_nx, runS_rt, runS_bk, runS_ct, runS_atE, runS_bindE, runS_bindD, runS_seq, runS_turn, runS_ite, List.map_cons, List.map_nil, List.length_cons, List.length_nil, List.replicate, List.nil_append, List.cons_append, List.getElem?_cons_zero, List.getElem?_cons_succ, List.set_cons_zero, List.set_cons_succ, Option.bind_some, id_eq, Option.some.injEq, exists_eq_left', wipeE, lenGs, if_true, if_false, ↓reduceIte, Bool.false_eq_true, Bool.not_true, Bool.not_false, decide_true, decide_false]
    exact ⟨by decide, by omega, trivial, trivial⟩
  generalize C0 ++ [O.lst (gs.map D.int)] = D0 at eD eD2 kD hDl
  generalize hmods : cells.map (fun x => x % 2305843009213693951) = mods
  have hml : mods.length = cells.length := by rw [← hmods, List.length_map]
  have hmp : ∀ x ∈ mods, 0 ≤ x ∧ x < 2305843009213693951 := by
    intro x hx
    rw [← hmods] at hx
    obtain ⟨y, _, rfl⟩ := List.mem_map.mp hx
    exact ⟨Int.emod_nonneg _ (by decide), Int.emod_lt_of_pos _ (by decide)⟩
  have f1 : (D0 ++ [O.lst (mods.map D.int)] ++ [O.lst [D.int i]])[D0.length]? = some (.lst (mods.map D.int)) := Kp.app _ _ _ _ (at_app _)
  have f2 : (D0 ++ [O.lst (mods.map D.int)] ++ [O.lst [D.int i]])[(D0 ++ [O.lst (mods.map D.int)]).length]? = some (.lst [D.int i]) := at_app _
  have kE : Kp D0 (D0 ++ [O.lst (mods.map D.int)] ++ [O.lst [D.int i]]) := (Kp.app _ _).trans (Kp.app _ _)
  have hE : (D0 ++ [O.lst (mods.map D.int)] ++ [O.lst [D.int i]]).length = D0.length + 2 := by simp
  rw [op_addl f1 f2, show mods.map D.int ++ [D.int i] = (mods ++ [i]).map D.int by simp]
  generalize D0 ++ [O.lst (mods.map D.int)] ++ [O.lst [D.int i]] = E0 at kE hE
  simp only [runs_ok, runs_bad, runs_bind, runs_grd, runs_opt, runs_calmly, runs_ite, runs_alloc, runS_nx, runS_rt, runS_bk, runS_ct, runS_atE, runS_bindE, runS_bindD, runS_seq, runS_turn, runS_ite]
  have eF : (E0 ++ [O.lst ((mods ++ [i]).map D.int)])[B0.length]? = some (.lst (cells.map D.int)) := Kp.app _ _ _ _ (kE _ _ eD2)
  refine ⟨by omega, ⟨by simp only [List.length_map, List.length_cons, List.length_nil]; omega, _, getLst_at eF, by unfold mulOk; simp, by omega, ?_⟩⟩
  have kF : Kp S (E0 ++ [O.lst ((mods ++ [i]).map D.int)]) := (kD.trans kE).trans (Kp.app _ _)
  have gF : (E0 ++ [O.lst ((mods ++ [i]).map D.int)])[C0.length]? = some (.lst (gs.map D.int)) := Kp.app _ _ _ _ (kE _ _ eD)
  have cF : (E0 ++ [O.lst ((mods ++ [i]).map D.int)])[E0.length]? = some (.lst ((mods ++ [i]).map D.int)) := at_app _
  have hF : (E0 ++ [O.lst ((mods ++ [i]).map D.int)]).length = E0.length + 1 := by simp
  generalize E0 ++ [O.lst ((mods ++ [i]).map D.int)] = F0 at kF gF cF hF
  refine hP _ _ C0.length E0.length (((cells.map D.int).length : Int) + 7 * i) gs (mods ++ [i]) (kF.trans (Kp.app _ _)) kF.len hC ?_
  refine ⟨at_app _, Kp.app _ _ _ _ gF, Kp.app _ _ _ _ cF, by omega, by omega, by omega, hgs, hgp, ?_, ?_, by decide, ?_⟩
  · rw [List.length_append]
    simp only [List.length_cons, List.length_nil]
    omega
  · intro x hx
    rcases List.mem_append.mp hx with z | z
    · exact hmp x z
    · rw [List.mem_singleton.mp z]; omega
  · rw [List.length_map]
    omega

theorem pop_nat {S : Sto} {L n : Nat} {p : List Nat} (h : S[L]? = some (.lst (p.map fun i => D.int (i : Nat)))) (hn : n < p.length) : mtD .pop (.loc L) [.int (n : Nat)] S = .ok (.int (p.getD n 0)) (S.set L (.lst ((p.eraseIdx n).map fun i => D.int (i : Nat)))) := by
  have e : L2.ixN (p.map fun i => D.int (i : Nat)).length (n : Int) = some n := by
    unfold L2.ixN
    simp [hn]
  have e2 : (p.map fun i => D.int (i : Nat)).eraseIdx n = (p.eraseIdx n).map fun i => D.int (i : Nat) := by
    apply List.ext_getElem?
    intro j
    simp only [List.getElem?_eraseIdx, List.getElem?_map]
    split <;> rfl
  simp only [mtD, getLst_at h, e, map_at hn, e2]
theorem erase_perm : ∀ {p : List Nat} {n : Nat}, n < p.length → (p.getD n 0 :: p.eraseIdx n).Perm p
  | [], n, h => by simp at h
  | x :: p, 0, h => by simp
  | x :: p, n + 1, h => by
    have ih := erase_perm (p := p) (n := n) (by simpa using h)
    rw [List.getD_cons_succ, List.eraseIdx_cons_succ]
    exact (List.Perm.swap _ _ _).trans (List.Perm.cons x ih)
theorem r_naming {k n g c m : Nat} {i a mi : Int} {gs cs : List Int} {S : Sto} {P : D → Sto → Prop} (h : St S n g c i a gs cs) (hm : m ≤ 12) (hmi : mi = (m : Nat))
    (hP : ∀ S' p i' a' gs', IsP m p → St S' n g c i' a' gs' cs → Kp2 n g S S' → P (tupN p) S') : Runs (callN M (k + 2) "_law_naming" [.loc n, .int mi] S) P := by
  have hm' : m < 1000 := by omega
  have hsz := th_lt_size
  rw [c_naming]
  refine runs_body (by rfl) ?_
  unfold b_law_naming
  rw [runS_cons]
  simp only [runS_nil, runS_one, ex, ev, evT, evTs, evs, evO, evI, asgG, asgGs, tAnd, tOr, evAnd, evOr, lookE, enter, glob0, bi_repr, bi_list, bi_tuple, bi_abs, bi_int, bi_intb, bi_max, bi_min, bi_lent, bi_lenf, bi_lenl, op_add, op_addt, op_sub, op_mul, op_div, op_mod, op_pow, cp_eq, cp_ne, cp_lt, cp_le, cp_gt, cp_ge, cp_in, cp_nin, eq_int, eq_str, tr_bl, ix_int, seq_tup, seq_fl, at_0, at_1, at_2, at_3, runs_ok, runs_bad, runs_bind, runs_grd, runs_opt, runs_calmly, runs_ite, runs_alloc, runS_nx, runS_rt, runS_bk, runS_ct, runS_atE, runS_bindE, runS_bindD, runS_seq, runS_turn, runS_ite, List.map_cons, List.map_nil, List.length_cons, List.length_nil, List.replicate, List.nil_append, List.cons_append, List.getElem?_cons_zero, List.getElem?_cons_succ, List.set_cons_zero, List.set_cons_succ, Option.bind_some, id_eq, Option.some.injEq, exists_eq_left', wipeE, lenGs, if_true, if_false, ↓reduceIte, Bool.false_eq_true, Bool.not_true, Bool.not_false, decide_true, decide_false]
  subst hmi
  refine And.intro (rg_ok hm') ?_
  rw [range_ints, runS_cons]
  simp only [runS_nil, runS_one, ex, ev, evT, evTs, evs, evO, evI, asgG, asgGs, tAnd, tOr, evAnd, evOr, lookE, enter, glob0, bi_repr, bi_list, bi_tuple, bi_abs, bi_int, bi_intb, bi_max, bi_min, bi_lent, bi_lenf, bi_lenl, op_add, op_addt, op_sub, op_mul, op_div, op_mod, op_pow, cp_eq, cp_ne, cp_lt, cp_le, cp_gt, cp_ge, cp_in, cp_nin, eq_int, eq_str, tr_bl, ix_int, seq_tup, seq_fl, at_0, at_1, at_2, at_3, runs_ok, runs_bad, runs_bind, runs_grd, runs_opt, runs_calmly, runs_ite, runs_alloc, runS_nx, runS_rt, runS_bk, runS_ct, runS_atE, runS_bindE, runS_bindD, runS_seq, runS_turn, runS_ite, List.map_cons, List.map_nil, List.length_cons, List.length_nil, List.replicate, List.nil_append, List.cons_append, List.getElem?_cons_zero, List.getElem?_cons_succ, List.set_cons_zero, List.set_cons_succ, Option.bind_some, id_eq, Option.some.injEq, exists_eq_left', wipeE, lenGs, if_true, if_false, ↓reduceIte, Bool.false_eq_true, Bool.not_true, Bool.not_false, decide_true, decide_false]
  refine And.intro (by decide) ?_
  have nS : n < S.length := (List.getElem?_eq_some_iff.mp h.hn).1
  have gS : g < S.length := (List.getElem?_eq_some_iff.mp h.hg).1
  have e1 : (S ++ [O.lst ((List.range m).map fun i => D.int (i : Nat))] ++ [O.lst []])[S.length]? = some (.lst ((List.range m).map fun i => D.int (i : Nat))) := Kp.app _ _ _ _ (at_app _)
  have e2 : (S ++ [O.lst ((List.range m).map fun i => D.int (i : Nat))] ++ [O.lst []])[(S ++ [O.lst ((List.range m).map fun i => D.int (i : Nat))]).length]? = some (.lst []) := at_app _
  have h1 := (h.app [O.lst ((List.range m).map fun i => D.int (i : Nat))]).app [O.lst []]
  have k1 : Kp2 n g S (S ++ [O.lst ((List.range m).map fun i => D.int (i : Nat))] ++ [O.lst []]) := (Kp2.app n g _ _).trans (Kp2.app n g _ _)
  have hF : (S ++ [O.lst ((List.range m).map fun i => D.int (i : Nat))]).length = S.length + 1 := by simp
  rw [hF] at e2 ⊢
  generalize S ++ [O.lst ((List.range m).map fun i => D.int (i : Nat))] ++ [O.lst []] = A at e1 e2 h1 k1
  rw [runS_cons]
  simp only [runS_nil, runS_one, ex, ev, evT, evTs, evs, evO, evI, asgG, asgGs, tAnd, tOr, evAnd, evOr, lookE, enter, glob0, bi_repr, bi_list, bi_tuple, bi_abs, bi_int, bi_intb, bi_max, bi_min, bi_lent, bi_lenf, bi_lenl, op_add, op_addt, op_sub, op_mul, op_div, op_mod, op_pow, cp_eq, cp_ne, cp_lt, cp_le, cp_gt, cp_ge, cp_in, cp_nin, eq_int, eq_str, tr_bl, ix_int, seq_tup, seq_fl, at_0, at_1, at_2, at_3, runs_ok, runs_bad, runs_bind, runs_grd, runs_opt, runs_calmly, runs_ite, runs_alloc, runS_nx, runS_rt, runS_bk, runS_ct, runS_atE, runS_bindE, runS_bindD, runS_seq, runS_turn, runS_ite, List.map_cons, List.map_nil, List.length_cons, List.length_nil, List.replicate, List.nil_append, List.cons_append, List.getElem?_cons_zero, List.getElem?_cons_succ, List.set_cons_zero, List.set_cons_succ, Option.bind_some, id_eq, Option.some.injEq, exists_eq_left', wipeE, lenGs, if_true, if_false, ↓reduceIte, Bool.false_eq_true, Bool.not_true, Bool.not_false, decide_true, decide_false]
  refine And.intro (rng_bd hm') ?_
  rw [range_ints]
  refine for_fix (fun j env S' => ∃ e4, env = [some (.loc n), some (.int (m : Nat)), some (.loc S.length), some (.loc (S.length + 1)), e4] ∧ ∃ (left found : List Nat) (i' a' : Int) (gs' : List Int), S'[S.length]? = some (.lst (left.map fun i => D.int (i : Nat))) ∧ S'[S.length + 1]? = some (.lst (found.map fun i => D.int (i : Nat))) ∧
    (found ++ left).Perm (List.range m) ∧ found.length = j ∧ St S' n g c i' a' gs' cs ∧ Kp2 n g S S') ?_ ?_ ?_
  · exact ⟨_, rfl, List.range m, [], i, a, gs, e1, e2, List.Perm.refl _, rfl, h1, k1⟩
  · rintro j x env S1 hx ⟨e4, rfl, left, found, i', a', gs', l1, l2, pm, fl, h2, k2⟩
    obtain ⟨hj, rfl⟩ := range_at hx
    have hlen := pm.length_eq
    rw [List.length_append, List.length_range, fl] at hlen
    have hll : (left.map fun i => D.int (i : Nat)).length = left.length := List.length_map ..
    simp only [runS_nil, runS_one, ex, ev, evT, evTs, evs, evO, evI, asgG, asgGs, tAnd, tOr, evAnd, evOr, lookE, enter, glob0, bi_repr, bi_list, bi_tuple, bi_abs, bi_int, bi_intb, bi_max, bi_min, bi_lent, bi_lenf, bi_lenl, op_add, op_addt, op_sub, op_mul, op_div, op_mod, op_pow, cp_eq, cp_ne, cp_lt, cp_le, cp_gt, cp_ge, cp_in, cp_nin, eq_int, eq_str, tr_bl, ix_int, seq_tup, seq_fl, at_0, at_1, at_2, at_3, runs_ok, runs_bad, runs_bind, runs_grd, runs_opt, runs_calmly, runs_ite, runs_alloc, runS_nx, runS_rt, runS_bk, runS_ct, runS_atE, runS_bindE, runS_bindD, runS_seq, runS_turn, runS_ite, List.map_cons, List.map_nil, List.length_cons, List.length_nil, List.replicate, List.nil_append, List.cons_append, List.getElem?_cons_zero, List.getElem?_cons_succ, List.set_cons_zero, List.set_cons_succ, Option.bind_some, id_eq, Option.some.injEq, exists_eq_left', wipeE, lenGs, if_true, if_false, ↓reduceIte, Bool.false_eq_true, Bool.not_true, Bool.not_false, decide_true, decide_false, getLst_at l1, hll]
    refine ⟨recv_app l2, recv_pop l1, ?_⟩
    refine r_take h2 (by omega) ?_
    intro d S2 i2 a2 gs2 hd h3 k3
    obtain ⟨dn, rfl⟩ := Int.eq_ofNat_of_zero_le hd.1
    have l1' := k3 _ _ l1 (by omega) (by omega)
    have l2' := k3 _ _ l2 (by omega) (by omega)
    have hdn : dn < left.length := by have := hd.2; omega
    rw [pop_nat l1' hdn]
    simp only [runS_nil, runS_one, ex, ev, evT, evTs, evs, evO, evI, asgG, asgGs, tAnd, tOr, evAnd, evOr, lookE, enter, glob0, bi_repr, bi_list, bi_tuple, bi_abs, bi_int, bi_intb, bi_max, bi_min, bi_lent, bi_lenf, bi_lenl, op_add, op_addt, op_sub, op_mul, op_div, op_mod, op_pow, cp_eq, cp_ne, cp_lt, cp_le, cp_gt, cp_ge, cp_in, cp_nin, eq_int, eq_str, tr_bl, ix_int, seq_tup, seq_fl, at_0, at_1, at_2, at_3, runs_ok, runs_bad, runs_bind, runs_grd, runs_opt, runs_calmly, runs_ite, runs_alloc, runS_nx, runS_rt, runS_bk, runS_ct, runS_atE, runS_bindE, runS_bindD, runS_seq, runS_turn, runS_ite, List.map_cons, List.map_nil, List.length_cons, List.length_nil, List.replicate, List.nil_append, List.cons_append, List.getElem?_cons_zero, List.getElem?_cons_succ, List.set_cons_zero, List.set_cons_succ, Option.bind_some, id_eq, Option.some.injEq, exists_eq_left', wipeE, lenGs, if_true, if_false, ↓reduceIte, Bool.false_eq_true, Bool.not_true, Bool.not_false, decide_true, decide_false]
    have l2'' : (S2.set S.length (.lst ((left.eraseIdx dn).map fun i => D.int (i : Nat))))[S.length + 1]? = some (.lst (found.map fun i => D.int (i : Nat))) := by
      rw [List.getElem?_set_ne (by omega)]; exact l2'
    rw [app_at l2'']
    simp only [runS_nil, runS_one, ex, ev, evT, evTs, evs, evO, evI, asgG, asgGs, tAnd, tOr, evAnd, evOr, lookE, enter, glob0, bi_repr, bi_list, bi_tuple, bi_abs, bi_int, bi_intb, bi_max, bi_min, bi_lent, bi_lenf, bi_lenl, op_add, op_addt, op_sub, op_mul, op_div, op_mod, op_pow, cp_eq, cp_ne, cp_lt, cp_le, cp_gt, cp_ge, cp_in, cp_nin, eq_int, eq_str, tr_bl, ix_int, seq_tup, seq_fl, at_0, at_1, at_2, at_3, runs_ok, runs_bad, runs_bind, runs_grd, runs_opt, runs_calmly, runs_ite, runs_alloc, runS_nx, runS_rt, runS_bk, runS_ct, runS_atE, runS_bindE, runS_bindD, runS_seq, runS_turn, runS_ite, List.map_cons, List.map_nil, List.length_cons, List.length_nil, List.replicate, List.nil_append, List.cons_append, List.getElem?_cons_zero, List.getElem?_cons_succ, List.set_cons_zero, List.set_cons_succ, Option.bind_some, id_eq, Option.some.injEq, exists_eq_left', wipeE, lenGs, if_true, if_false, ↓reduceIte, Bool.false_eq_true, Bool.not_true, Bool.not_false, decide_true, decide_false]
    refine ⟨by rw [List.length_map]; omega, _, rfl, left.eraseIdx dn, found ++ [left.getD dn 0], i2, a2, gs2, ?_, ?_, ?_, ?_, ?_, ?_⟩
    · rw [List.getElem?_set_ne (by omega), at_set l1']
    · rw [at_set l2'', List.map_append]; rfl
    · rw [List.append_assoc]
      exact (List.Perm.append_left found (erase_perm hdn)).trans pm
    · rw [List.length_append, fl]; rfl
    · exact { h3 with
        hn := by rw [List.getElem?_set_ne (by omega), List.getElem?_set_ne (by omega)]; exact h3.hn
        hg := by rw [List.getElem?_set_ne (by omega), List.getElem?_set_ne (by omega)]; exact h3.hg
        hc := by
          have cS : c < S.length := (List.getElem?_eq_some_iff.mp h.hc).1
          rw [List.getElem?_set_ne (by omega), List.getElem?_set_ne (by omega)]; exact h3.hc }
    · intro q o eq qn qg
      have qS : q < S.length := (List.getElem?_eq_some_iff.mp eq).1
      rw [List.getElem?_set_ne (by omega), List.getElem?_set_ne (by omega)]
      exact (k2.trans k3) q o eq qn qg
  · rintro env S1 ⟨e4, rfl, left, found, i', a', gs', l1, l2, pm, fl, h2, k2⟩
    rw [List.length_map, List.length_range] at fl
    have hlen := pm.length_eq
    rw [List.length_append, List.length_range] at hlen
    have : left = [] := List.eq_nil_of_length_eq_zero (by omega)
    subst this
    rw [List.append_nil] at pm
    simp only [runS_nil, runS_one, ex, ev, evT, evTs, evs, evO, evI, asgG, asgGs, tAnd, tOr, evAnd, evOr, lookE, enter, glob0, bi_repr, bi_list, bi_tuple, bi_abs, bi_int, bi_intb, bi_max, bi_min, bi_lent, bi_lenf, bi_lenl, op_add, op_addt, op_sub, op_mul, op_div, op_mod, op_pow, cp_eq, cp_ne, cp_lt, cp_le, cp_gt, cp_ge, cp_in, cp_nin, eq_int, eq_str, tr_bl, ix_int, seq_tup, seq_fl, at_0, at_1, at_2, at_3, runs_ok, runs_bad, runs_bind, runs_grd, runs_opt, runs_calmly, runs_ite, runs_alloc, runS_nx, runS_rt, runS_bk, runS_ct, runS_atE, runS_bindE, runS_bindD, runS_seq, runS_turn, runS_ite, List.map_cons, List.map_nil, List.length_cons, List.length_nil, List.replicate, List.nil_append, List.cons_append, List.getElem?_cons_zero, List.getElem?_cons_succ, List.set_cons_zero, List.set_cons_succ, Option.bind_some, id_eq, Option.some.injEq, exists_eq_left', wipeE, lenGs, if_true, if_false, ↓reduceIte, Bool.false_eq_true, Bool.not_true, Bool.not_false, decide_true, decide_false, seq_loc l2]
    exact hP _ found i' a' gs' pm h2 k2
end K02
set_option Elab.async false
set_option linter.all false
set_option maxRecDepth 100000
set_option maxHeartbeats 1000000
namespace K02
open Mi PySem
theorem rot4 {m : Nat} {p1 p2 p3 p4 : List Nat} (h1 : IsP m p1) (h2 : IsP m p2) (h3 : IsP m p3) (h4 : IsP m p4) {t : Int} (ht : 0 ≤ t ∧ t < 4) :
    ∃ a b c d, cutD [tupN p1, tupN p2, tupN p3, tupN p4] (some t) none ++ cutD [tupN p1, tupN p2, tupN p3, tupN p4] none (some t) = [tupN a, tupN b, tupN c, tupN d] ∧ IsP m a ∧ IsP m b ∧ IsP m c ∧ IsP m d := by
  have : t = 0 ∨ t = 1 ∨ t = 2 ∨ t = 3 := by omega
  rcases this with rfl | rfl | rfl | rfl
  · exact ⟨p1, p2, p3, p4, rfl, h1, h2, h3, h4⟩
  · exact ⟨p2, p3, p4, p1, rfl, h2, h3, h4, h1⟩
  · exact ⟨p3, p4, p1, p2, rfl, h3, h4, h1, h2⟩
  · exact ⟨p4, p1, p2, p3, rfl, h4, h1, h2, h3⟩
theorem cut_len4 {m : Nat} {x y z w : D} {t : Int} (ht : 0 ≤ t ∧ t < 4) : (cutD [x, y, z, w] (some t) none).length + (cutD [x, y, z, w] none (some t)).length = 4 := by
  have : t = 0 ∨ t = 1 ∨ t = 2 ∨ t = 3 := by omega
  rcases this with rfl | rfl | rfl | rfl <;> rfl
def lawBody : List MS := match b_law with
  | [.forr _ _ b, _] => b
  | _ => []
theorem law_eq : b_law = [.forr (.nm 1) (.rng (.cst (.int 0)) (.bi .max (.cons (.cst (.int 2)) (.cons (.bi .min (.cons (.cst (.int 8)) (.cons (.bi .len (.cons (.var 0) .nil)) .nil))) .nil)))) lawBody, .ret (.cst (.bl true))] := rfl
theorem law_body {k : Nat} {i : Int} {ns : List Int} {S : Sto} {e2 e3 e4 e5 e6 e7 e8 e9 e10 e11 e12 e13 e14 : Option D} {T : D → Sto → Prop} {N B C : Mi.Env → Sto → Prop} (hl : ns.length ≤ 63) (hi : 0 ≤ i ∧ i < 100)
    (hN : ∀ S' e2 e3 e4 e5 e6 e7 e8 e9 e10 e11 e12 e13 e14, N [some (.fl (ns.map D.int)), some (.int i), e2, e3, e4, e5, e6, e7, e8, e9, e10, e11, e12, e13, e14] S') :
    RunS (exs (glob0 M (callN M (k + 2))) lawBody [some (.fl (ns.map D.int)), some (.int i), e2, e3, e4, e5, e6, e7, e8, e9, e10, e11, e12, e13, e14] S) N T B C := by
  have hsz := th_lt_size
  unfold lawBody b_law
  simp only []
  rw [runS_cons]
  simp only [runS_nil, runS_one, ex, ev, evT, evTs, evs, evO, evI, asgG, asgGs, tAnd, tOr, evAnd, evOr, lookE, enter, glob0, bi_repr, bi_list, bi_tuple, bi_abs, bi_int, bi_intb, bi_max, bi_min, bi_lent, bi_lenf, bi_lenl, op_add, op_addt, op_sub, op_mul, op_div, op_mod, op_pow, cp_eq, cp_ne, cp_lt, cp_le, cp_gt, cp_ge, cp_in, cp_nin, eq_int, eq_str, tr_bl, ix_int, seq_tup, seq_fl, at_0, at_1, at_2, at_3, runs_ok, runs_bad, runs_bind, runs_grd, runs_opt, runs_calmly, runs_ite, runs_alloc, runS_nx, runS_rt, runS_bk, runS_ct, runS_atE, runS_bindE, runS_bindD, runS_seq, runS_turn, runS_ite, List.map_cons, List.map_nil, List.length_cons, List.length_nil, List.replicate, List.nil_append, List.cons_append, List.getElem?_cons_zero, List.getElem?_cons_succ, List.set_cons_zero, List.set_cons_succ, Option.bind_some, id_eq, Option.some.injEq, exists_eq_left', wipeE, lenGs, if_true, if_false, ↓reduceIte, Bool.false_eq_true, Bool.not_true, Bool.not_false, decide_true, decide_false]
  refine r_stream hl hi fun S1 n g c a gs cs k1 hnl hgl st1 => ?_
  rw [runS_cons]
  simp only [runS_nil, runS_one, ex, ev, evT, evTs, evs, evO, evI, asgG, asgGs, tAnd, tOr, evAnd, evOr, lookE, enter, glob0, bi_repr, bi_list, bi_tuple, bi_abs, bi_int, bi_intb, bi_max, bi_min, bi_lent, bi_lenf, bi_lenl, op_add, op_addt, op_sub, op_mul, op_div, op_mod, op_pow, cp_eq, cp_ne, cp_lt, cp_le, cp_gt, cp_ge, cp_in, cp_nin, eq_int, eq_str, tr_bl, ix_int, seq_tup, seq_fl, at_0, at_1, at_2, at_3, runs_ok, runs_bad, runs_bind, runs_grd, runs_opt, runs_calmly, runs_ite, runs_alloc, runS_nx, runS_rt, runS_bk, runS_ct, runS_atE, runS_bindE, runS_bindD, runS_seq, runS_turn, runS_ite, List.map_cons, List.map_nil, List.length_cons, List.length_nil, List.replicate, List.nil_append, List.cons_append, List.getElem?_cons_zero, List.getElem?_cons_succ, List.set_cons_zero, List.set_cons_succ, Option.bind_some, id_eq, Option.some.injEq, exists_eq_left', wipeE, lenGs, if_true, if_false, ↓reduceIte, Bool.false_eq_true, Bool.not_true, Bool.not_false, decide_true, decide_false]
  refine r_take st1 (by decide) fun d S2 i2 a2 gs2 hd st2 k2 => ?_
  obtain ⟨m, rfl⟩ := Int.eq_ofNat_of_zero_le hd.1
  have hm : m ≤ 12 := by have := hd.2; omega
  have hm' : m < 1000 := by omega
  rw [runS_cons]
  simp only [runS_nil, runS_one, ex, ev, evT, evTs, evs, evO, evI, asgG, asgGs, tAnd, tOr, evAnd, evOr, lookE, enter, glob0, bi_repr, bi_list, bi_tuple, bi_abs, bi_int, bi_intb, bi_max, bi_min, bi_lent, bi_lenf, bi_lenl, op_add, op_addt, op_sub, op_mul, op_div, op_mod, op_pow, cp_eq, cp_ne, cp_lt, cp_le, cp_gt, cp_ge, cp_in, cp_nin, eq_int, eq_str, tr_bl, ix_int, seq_tup, seq_fl, at_0, at_1, at_2, at_3, runs_ok, runs_bad, runs_bind, runs_grd, runs_opt, runs_calmly, runs_ite, runs_alloc, runS_nx, runS_rt, runS_bk, runS_ct, runS_atE, runS_bindE, runS_bindD, runS_seq, runS_turn, runS_ite, List.map_cons, List.map_nil, List.length_cons, List.length_nil, List.replicate, List.nil_append, List.cons_append, List.getElem?_cons_zero, List.getElem?_cons_succ, List.set_cons_zero, List.set_cons_succ, Option.bind_some, id_eq, Option.some.injEq, exists_eq_left', wipeE, lenGs, if_true, if_false, ↓reduceIte, Bool.false_eq_true, Bool.not_true, Bool.not_false, decide_true, decide_false]
  refine And.intro (rng_bd hm') ?_
  rw [range_ints]
  refine lc_fix (fun j acc S' => acc = (((List.range m).map fun c => (c + 1) % m).take j).map (fun i => D.int (i : Nat)) ∧ S' = S2) ⟨rfl, rfl⟩ ?_ ?_
  · rintro j x acc S' hx ⟨rfl, rfl⟩
    obtain ⟨hj, rfl⟩ := range_at hx
    simp only [lcStep, runS_nil, runS_one, ex, ev, evT, evTs, evs, evO, evI, asgG, asgGs, tAnd, tOr, evAnd, evOr, lookE, enter, glob0, bi_repr, bi_list, bi_tuple, bi_abs, bi_int, bi_intb, bi_max, bi_min, bi_lent, bi_lenf, bi_lenl, op_add, op_addt, op_sub, op_mul, op_div, op_mod, op_pow, cp_eq, cp_ne, cp_lt, cp_le, cp_gt, cp_ge, cp_in, cp_nin, eq_int, eq_str, tr_bl, ix_int, seq_tup, seq_fl, at_0, at_1, at_2, at_3, runs_ok, runs_bad, runs_bind, runs_grd, runs_opt, runs_calmly, runs_ite, runs_alloc, runS_nx, runS_rt, runS_bk, runS_ct, runS_atE, runS_bindE, runS_bindD, runS_seq, runS_turn, runS_ite, List.map_cons, List.map_nil, List.length_cons, List.length_nil, List.replicate, List.nil_append, List.cons_append, List.getElem?_cons_zero, List.getElem?_cons_succ, List.set_cons_zero, List.set_cons_succ, Option.bind_some, id_eq, Option.some.injEq, exists_eq_left', wipeE, lenGs, if_true, if_false, ↓reduceIte, Bool.false_eq_true, Bool.not_true, Bool.not_false, decide_true, decide_false]
    refine ⟨by omega, small_size (m := m) (by simp; omega) hm', ?_, trivial⟩
    have hr : ((List.range m).map fun c => (c + 1) % m).length = m := by simp
    rw [← take_next (by omega)]
    congr 2
    rw [List.getD_eq_getElem?_getD, List.getElem?_map, List.getElem?_range hj]
    simp
  rintro acc S3 ⟨rfl, rfl⟩
  refine ⟨_, seq_new _ _, ?_⟩
  have st3 := st2.app [O.lst (List.map (fun i => D.int (i : Nat)) (List.take (List.map (fun i => D.int (i : Nat)) (List.range m)).length (List.map (fun c => (c + 1) % m) (List.range m))))]
  have hr : IsP m ((List.range m).map fun c => (c + 1) % m) := IsP.round m
  have et : List.take (List.map (fun i => D.int (i : Nat)) (List.range m)).length (List.map (fun c => (c + 1) % m) (List.range m)) = (List.range m).map fun c => (c + 1) % m := by
    rw [List.length_map, List.length_range]
    exact List.take_of_length_le (by simp)
  rw [et] at st3 ⊢
  generalize S3 ++ [O.lst (List.map (fun i => D.int (i : Nat)) ((List.range m).map fun c => (c + 1) % m))] = S4 at st3
  generalize (List.range m).map (fun c => (c + 1) % m) = p4 at hr
  rw [show D.tup (List.map (fun i => D.int (i : Nat)) p4) = tupN p4 from rfl]
  rw [runS_cons]
  simp only [runS_nil, runS_one, ex, ev, evT, evTs, evs, evO, evI, asgG, asgGs, tAnd, tOr, evAnd, evOr, lookE, enter, glob0, bi_repr, bi_list, bi_tuple, bi_abs, bi_int, bi_intb, bi_max, bi_min, bi_lent, bi_lenf, bi_lenl, op_add, op_addt, op_sub, op_mul, op_div, op_mod, op_pow, cp_eq, cp_ne, cp_lt, cp_le, cp_gt, cp_ge, cp_in, cp_nin, eq_int, eq_str, tr_bl, ix_int, seq_tup, seq_fl, at_0, at_1, at_2, at_3, runs_ok, runs_bad, runs_bind, runs_grd, runs_opt, runs_calmly, runs_ite, runs_alloc, runS_nx, runS_rt, runS_bk, runS_ct, runS_atE, runS_bindE, runS_bindD, runS_seq, runS_turn, runS_ite, List.map_cons, List.map_nil, List.length_cons, List.length_nil, List.replicate, List.nil_append, List.cons_append, List.getElem?_cons_zero, List.getElem?_cons_succ, List.set_cons_zero, List.set_cons_succ, Option.bind_some, id_eq, Option.some.injEq, exists_eq_left', wipeE, lenGs, if_true, if_false, ↓reduceIte, Bool.false_eq_true, Bool.not_true, Bool.not_false, decide_true, decide_false]
  refine And.intro (by decide) ?_
  refine lc_fix (fun j acc S' => ∃ ps : List (List Nat), ps.length = j ∧ (∀ q ∈ ps, IsP m q) ∧ acc = ps.map tupN ∧ ∃ i' a' gs', St S' n g c i' a' gs' cs) ⟨[], rfl, by simp, rfl, _, _, _, st3⟩ ?_ ?_
  · rintro j x acc S' hx ⟨ps, hpl, hps, rfl, i', a', gs', st⟩
    have hj : j < 3 := by
      have := (List.getElem?_eq_some_iff.mp hx).1
      simpa using this
    simp only [lcStep, runS_nil, runS_one, ex, ev, evT, evTs, evs, evO, evI, asgG, asgGs, tAnd, tOr, evAnd, evOr, lookE, enter, glob0, bi_repr, bi_list, bi_tuple, bi_abs, bi_int, bi_intb, bi_max, bi_min, bi_lent, bi_lenf, bi_lenl, op_add, op_addt, op_sub, op_mul, op_div, op_mod, op_pow, cp_eq, cp_ne, cp_lt, cp_le, cp_gt, cp_ge, cp_in, cp_nin, eq_int, eq_str, tr_bl, ix_int, seq_tup, seq_fl, at_0, at_1, at_2, at_3, runs_ok, runs_bad, runs_bind, runs_grd, runs_opt, runs_calmly, runs_ite, runs_alloc, runS_nx, runS_rt, runS_bk, runS_ct, runS_atE, runS_bindE, runS_bindD, runS_seq, runS_turn, runS_ite, List.map_cons, List.map_nil, List.length_cons, List.length_nil, List.replicate, List.nil_append, List.cons_append, List.getElem?_cons_zero, List.getElem?_cons_succ, List.set_cons_zero, List.set_cons_succ, Option.bind_some, id_eq, Option.some.injEq, exists_eq_left', wipeE, lenGs, if_true, if_false, ↓reduceIte, Bool.false_eq_true, Bool.not_true, Bool.not_false, decide_true, decide_false]
    refine r_naming st hm rfl fun S5 q i5 a5 gs5 hq st5 k5 => ?_
    refine ⟨by rw [List.length_map]; omega, ps ++ [q], by simp [hpl], fun y hy => ?_, by simp, _, _, _, st5⟩
    rcases List.mem_append.mp hy with z | z
    · exact hps y z
    · rw [List.mem_singleton.mp z]; exact hq
  rintro acc S5 ⟨ps, hpl, hps, rfl, i5, a5, gs5, st5⟩
  have hpl3 : ps.length = 3 := by simpa using hpl
  match ps, hpl3, hps with
  | [p1, p2, p3], _, hps =>
  have h1 := hps p1 (by simp)
  have h2 := hps p2 (by simp)
  have h3 := hps p3 (by simp)
  have f1 : (S5 ++ [O.lst ([p1, p2, p3].map tupN)] ++ [O.lst [tupN p4]])[S5.length]? = some (.lst ([p1, p2, p3].map tupN)) := Kp.app _ _ _ _ (at_app _)
  have f2 : (S5 ++ [O.lst ([p1, p2, p3].map tupN)] ++ [O.lst [tupN p4]])[(S5 ++ [O.lst ([p1, p2, p3].map tupN)]).length]? = some (.lst [tupN p4]) := at_app _
  have st6 := (st5.app [O.lst ([p1, p2, p3].map tupN)]).app [O.lst [tupN p4]]
  refine And.intro (by decide) ?_
  rw [op_addl f1 f2]
  generalize S5 ++ [O.lst ([p1, p2, p3].map tupN)] ++ [O.lst [tupN p4]] = S6 at st6
  simp only [runs_ok, runs_bad, runs_bind, runs_grd, runs_opt, runs_calmly, runs_ite, runs_alloc, runS_nx, runS_rt, runS_bk, runS_ct, runS_atE, runS_bindE, runS_bindD, runS_seq, runS_turn, runS_ite, List.map_cons, List.map_nil, List.cons_append, List.nil_append]
  refine And.intro (by simp only [List.length_cons, List.length_nil]; omega) ?_
  have st7 := st6.app [O.lst [tupN p1, tupN p2, tupN p3, tupN p4]]
  have e7 : (S6 ++ [O.lst [tupN p1, tupN p2, tupN p3, tupN p4]])[S6.length]? = some (.lst [tupN p1, tupN p2, tupN p3, tupN p4]) := at_app _
  have l6 : n < S6.length ∧ g < S6.length := ⟨(List.getElem?_eq_some_iff.mp st6.hn).1, (List.getElem?_eq_some_iff.mp st6.hg).1⟩
  generalize S6 ++ [O.lst [tupN p1, tupN p2, tupN p3, tupN p4]] = S7 at st7 e7
  rw [runS_cons]
  simp only [runS_nil, runS_one, ex, ev, evT, evTs, evs, evO, evI, asgG, asgGs, tAnd, tOr, evAnd, evOr, lookE, enter, glob0, bi_repr, bi_list, bi_tuple, bi_abs, bi_int, bi_intb, bi_max, bi_min, bi_lent, bi_lenf, bi_lenl, op_add, op_addt, op_sub, op_mul, op_div, op_mod, op_pow, cp_eq, cp_ne, cp_lt, cp_le, cp_gt, cp_ge, cp_in, cp_nin, eq_int, eq_str, tr_bl, ix_int, seq_tup, seq_fl, at_0, at_1, at_2, at_3, runs_ok, runs_bad, runs_bind, runs_grd, runs_opt, runs_calmly, runs_ite, runs_alloc, runS_nx, runS_rt, runS_bk, runS_ct, runS_atE, runS_bindE, runS_bindD, runS_seq, runS_turn, runS_ite, List.map_cons, List.map_nil, List.length_cons, List.length_nil, List.replicate, List.nil_append, List.cons_append, List.getElem?_cons_zero, List.getElem?_cons_succ, List.set_cons_zero, List.set_cons_succ, Option.bind_some, id_eq, Option.some.injEq, exists_eq_left', wipeE, lenGs, if_true, if_false, ↓reduceIte, Bool.false_eq_true, Bool.not_true, Bool.not_false, decide_true, decide_false]
  refine r_take st7 (by decide) fun t S8 i8 a8 gs8 ht st8 k8 => ?_
  have e8 := k8 _ _ e7 (by omega) (by omega)
  rw [runS_cons]
  have e9 : (S8 ++ [O.lst (cutD [tupN p1, tupN p2, tupN p3, tupN p4] (some t) none)])[S6.length]? = some (.lst [tupN p1, tupN p2, tupN p3, tupN p4]) := Kp.app _ _ _ _ e8
  simp only [runS_nil, runS_one, ex, ev, evT, evTs, evs, evO, evI, asgG, asgGs, tAnd, tOr, evAnd, evOr, lookE, enter, glob0, bi_repr, bi_list, bi_tuple, bi_abs, bi_int, bi_intb, bi_max, bi_min, bi_lent, bi_lenf, bi_lenl, op_add, op_addt, op_sub, op_mul, op_div, op_mod, op_pow, cp_eq, cp_ne, cp_lt, cp_le, cp_gt, cp_ge, cp_in, cp_nin, eq_int, eq_str, tr_bl, ix_int, seq_tup, seq_fl, at_0, at_1, at_2, at_3, runs_ok, runs_bad, runs_bind, runs_grd, runs_opt, runs_calmly, runs_ite, runs_alloc, runS_nx, runS_rt, runS_bk, runS_ct, runS_atE, runS_bindE, runS_bindD, runS_seq, runS_turn, runS_ite, List.map_cons, List.map_nil, List.length_cons, List.length_nil, List.replicate, List.nil_append, List.cons_append, List.getElem?_cons_zero, List.getElem?_cons_succ, List.set_cons_zero, List.set_cons_succ, Option.bind_some, id_eq, Option.some.injEq, exists_eq_left', wipeE, lenGs, if_true, if_false, ↓reduceIte, Bool.false_eq_true, Bool.not_true, Bool.not_false, decide_true, decide_false, int_of, slice_loc e8, slice_loc e9]
  have g1 : (S8 ++ [O.lst (cutD [tupN p1, tupN p2, tupN p3, tupN p4] (some t) none)] ++ [O.lst (cutD [tupN p1, tupN p2, tupN p3, tupN p4] none (some t))])[S8.length]? = some (.lst (cutD [tupN p1, tupN p2, tupN p3, tupN p4] (some t) none)) := Kp.app _ _ _ _ (at_app _)
  have g2 : (S8 ++ [O.lst (cutD [tupN p1, tupN p2, tupN p3, tupN p4] (some t) none)] ++ [O.lst (cutD [tupN p1, tupN p2, tupN p3, tupN p4] none (some t))])[(S8 ++ [O.lst (cutD [tupN p1, tupN p2, tupN p3, tupN p4] (some t) none)]).length]? = some (.lst (cutD [tupN p1, tupN p2, tupN p3, tupN p4] none (some t))) := at_app _
  rw [op_addl g1 g2]
  have hcl := cut_len4 (m := m) (x := tupN p1) (y := tupN p2) (z := tupN p3) (w := tupN p4) ht
  obtain ⟨pa, pb, pc, pd, er, ha, hb, hc', hd'⟩ := rot4 h1 h2 h3 hr ht
  rw [er]
  generalize S8 ++ [O.lst (cutD [tupN p1, tupN p2, tupN p3, tupN p4] (some t) none)] ++ [O.lst (cutD [tupN p1, tupN p2, tupN p3, tupN p4] none (some t))] = S9
  simp only [runs_ok, runs_bad, runs_bind, runs_grd, runs_opt, runs_calmly, runs_ite, runs_alloc, runS_nx, runS_rt, runS_bk, runS_ct, runS_atE, runS_bindE, runS_bindD, runS_seq, runS_turn, runS_ite]
  refine And.intro (by omega) ?_
  simp only [getLst_at (at_app _), runS_nil, runS_one, ex, ev, evT, evTs, evs, evO, evI, asgG, asgGs, tAnd, tOr, evAnd, evOr, lookE, enter, glob0, bi_repr, bi_list, bi_tuple, bi_abs, bi_int, bi_intb, bi_max, bi_min, bi_lent, bi_lenf, bi_lenl, op_add, op_addt, op_sub, op_mul, op_div, op_mod, op_pow, cp_eq, cp_ne, cp_lt, cp_le, cp_gt, cp_ge, cp_in, cp_nin, eq_int, eq_str, tr_bl, ix_int, seq_tup, seq_fl, at_0, at_1, at_2, at_3, runs_ok, runs_bad, runs_bind, runs_grd, runs_opt, runs_calmly, runs_ite, runs_alloc, runS_nx, runS_rt, runS_bk, runS_ct, runS_atE, runS_bindE, runS_bindD, runS_seq, runS_turn, runS_ite, List.map_cons, List.map_nil, List.length_cons, List.length_nil, List.replicate, List.nil_append, List.cons_append, List.getElem?_cons_zero, List.getElem?_cons_succ, List.set_cons_zero, List.set_cons_succ, Option.bind_some, id_eq, Option.some.injEq, exists_eq_left', wipeE, lenGs, if_true, if_false, ↓reduceIte, Bool.false_eq_true, Bool.not_true, Bool.not_false, decide_true, decide_false]
  refine And.intro trivial ?_
  generalize S9 ++ [O.lst [tupN pa, tupN pb, tupN pc, tupN pd]] = S10
  rw [runS_cons]
  simp only [runS_nil, runS_one, ex, ev, evT, evTs, evs, evO, evI, asgG, asgGs, tAnd, tOr, evAnd, evOr, lookE, enter, glob0, bi_repr, bi_list, bi_tuple, bi_abs, bi_int, bi_intb, bi_max, bi_min, bi_lent, bi_lenf, bi_lenl, op_add, op_addt, op_sub, op_mul, op_div, op_mod, op_pow, cp_eq, cp_ne, cp_lt, cp_le, cp_gt, cp_ge, cp_in, cp_nin, eq_int, eq_str, tr_bl, ix_int, seq_tup, seq_fl, at_0, at_1, at_2, at_3, runs_ok, runs_bad, runs_bind, runs_grd, runs_opt, runs_calmly, runs_ite, runs_alloc, runS_nx, runS_rt, runS_bk, runS_ct, runS_atE, runS_bindE, runS_bindD, runS_seq, runS_turn, runS_ite, List.map_cons, List.map_nil, List.length_cons, List.length_nil, List.replicate, List.nil_append, List.cons_append, List.getElem?_cons_zero, List.getElem?_cons_succ, List.set_cons_zero, List.set_cons_succ, Option.bind_some, id_eq, Option.some.injEq, exists_eq_left', wipeE, lenGs, if_true, if_false, ↓reduceIte, Bool.false_eq_true, Bool.not_true, Bool.not_false, decide_true, decide_false, getLst_at (at_app _)]
  refine ⟨by omega, by omega, by omega, by omega, by omega, by omega, by omega, ?_⟩
  have hsub : ∀ x ∈ [D.tup [tupN pa, tupN pb], D.tup [tupN pb, tupN pc], D.tup [tupN pc, tupN pd], D.tup [tupN pb, tupN pa], D.tup [tupN pa, tupN pb], D.tup [tupN pa, tupN pa]], ∃ u v, x = .tup [tupN u, tupN v] ∧ IsP m u ∧ IsP m v := by
    intro x hx
    simp only [List.mem_cons, List.not_mem_nil, or_false] at hx
    rcases hx with rfl | rfl | rfl | rfl | rfl | rfl
    · exact ⟨_, _, rfl, ha, hb⟩
    · exact ⟨_, _, rfl, hb, hc'⟩
    · exact ⟨_, _, rfl, hc', hd'⟩
    · exact ⟨_, _, rfl, hb, ha⟩
    · exact ⟨_, _, rfl, ha, hb⟩
    · exact ⟨_, _, rfl, ha, ha⟩
  refine for_live (xs := [D.tup [tupN pa, tupN pb], D.tup [tupN pb, tupN pc], D.tup [tupN pc, tupN pd], D.tup [tupN pb, tupN pa], D.tup [tupN pa, tupN pb], D.tup [tupN pa, tupN pa]])
    (fun j env S' => S'[S10.length]? = some (.lst [D.tup [tupN pa, tupN pb], D.tup [tupN pb, tupN pc], D.tup [tupN pc, tupN pd], D.tup [tupN pb, tupN pa], D.tup [tupN pa, tupN pb], D.tup [tupN pa, tupN pa]]) ∧ ∃ e11 e12, env = [some (D.fl (ns.map D.int)), some (D.int i), some (D.loc n), some (D.int (m : Nat)), some (tupN p4), some (D.loc S6.length), some (D.int t), some (tupN pa), some (tupN pb), some (tupN pc), some (tupN pd), e11, e12, e13, e14])
    ⟨at_app _, _, _, rfl⟩ (fun j env S' _ h => getLst_at h.1) ?_ ?_
  · rintro j x env S' hx ⟨hL, e11, e12, rfl⟩
    obtain ⟨u, v, rfl, hu, hv⟩ := hsub x (List.mem_of_getElem? hx)
    simp only [runS_nil, runS_one, ex, ev, evT, evTs, evs, evO, evI, asgG, asgGs, tAnd, tOr, evAnd, evOr, lookE, enter, glob0, bi_repr, bi_list, bi_tuple, bi_abs, bi_int, bi_intb, bi_max, bi_min, bi_lent, bi_lenf, bi_lenl, op_add, op_addt, op_sub, op_mul, op_div, op_mod, op_pow, cp_eq, cp_ne, cp_lt, cp_le, cp_gt, cp_ge, cp_in, cp_nin, eq_int, eq_str, tr_bl, ix_int, seq_tup, seq_fl, at_0, at_1, at_2, at_3, runs_ok, runs_bad, runs_bind, runs_grd, runs_opt, runs_calmly, runs_ite, runs_alloc, runS_nx, runS_rt, runS_bk, runS_ct, runS_atE, runS_bindE, runS_bindD, runS_seq, runS_turn, runS_ite, List.map_cons, List.map_nil, List.length_cons, List.length_nil, List.replicate, List.nil_append, List.cons_append, List.getElem?_cons_zero, List.getElem?_cons_succ, List.set_cons_zero, List.set_cons_succ, Option.bind_some, id_eq, Option.some.injEq, exists_eq_left', wipeE, lenGs, if_true, if_false, ↓reduceIte, Bool.false_eq_true, Bool.not_true, Bool.not_false, decide_true, decide_false]
    refine ⟨trivial, r_two hm hu hv fun S11 k11 => ?_⟩
    simp only [runS_nil, runS_one, ex, ev, evT, evTs, evs, evO, evI, asgG, asgGs, tAnd, tOr, evAnd, evOr, lookE, enter, glob0, bi_repr, bi_list, bi_tuple, bi_abs, bi_int, bi_intb, bi_max, bi_min, bi_lent, bi_lenf, bi_lenl, op_add, op_addt, op_sub, op_mul, op_div, op_mod, op_pow, cp_eq, cp_ne, cp_lt, cp_le, cp_gt, cp_ge, cp_in, cp_nin, eq_int, eq_str, tr_bl, ix_int, seq_tup, seq_fl, at_0, at_1, at_2, at_3, runs_ok, runs_bad, runs_bind, runs_grd, runs_opt, runs_calmly, runs_ite, runs_alloc, runS_nx, runS_rt, runS_bk, runS_ct, runS_atE, runS_bindE, runS_bindD, runS_seq, runS_turn, runS_ite, List.map_cons, List.map_nil, List.length_cons, List.length_nil, List.replicate, List.nil_append, List.cons_append, List.getElem?_cons_zero, List.getElem?_cons_succ, List.set_cons_zero, List.set_cons_succ, Option.bind_some, id_eq, Option.some.injEq, exists_eq_left', wipeE, lenGs, if_true, if_false, ↓reduceIte, Bool.false_eq_true, Bool.not_true, Bool.not_false, decide_true, decide_false]
    exact ⟨k11 _ _ hL, _, _, rfl⟩
  rintro env S11 ⟨_, e11, e12, rfl⟩
  rw [runS_cons]
  simp only [runS_nil, runS_one, ex, ev, evT, evTs, evs, evO, evI, asgG, asgGs, tAnd, tOr, evAnd, evOr, lookE, enter, glob0, bi_repr, bi_list, bi_tuple, bi_abs, bi_int, bi_intb, bi_max, bi_min, bi_lent, bi_lenf, bi_lenl, op_add, op_addt, op_sub, op_mul, op_div, op_mod, op_pow, cp_eq, cp_ne, cp_lt, cp_le, cp_gt, cp_ge, cp_in, cp_nin, eq_int, eq_str, tr_bl, ix_int, seq_tup, seq_fl, at_0, at_1, at_2, at_3, runs_ok, runs_bad, runs_bind, runs_grd, runs_opt, runs_calmly, runs_ite, runs_alloc, runS_nx, runS_rt, runS_bk, runS_ct, runS_atE, runS_bindE, runS_bindD, runS_seq, runS_turn, runS_ite, List.map_cons, List.map_nil, List.length_cons, List.length_nil, List.replicate, List.nil_append, List.cons_append, List.getElem?_cons_zero, List.getElem?_cons_succ, List.set_cons_zero, List.set_cons_succ, Option.bind_some, id_eq, Option.some.injEq, exists_eq_left', wipeE, lenGs, if_true, if_false, ↓reduceIte, Bool.false_eq_true, Bool.not_true, Bool.not_false, decide_true, decide_false]
  refine r_then hm' ha hb fun S12 _ => ?_
  refine r_then hm' (ha.comp hb) hc' fun S13 _ => ?_
  refine r_then hm' hb hc' fun S14 _ => ?_
  refine r_then hm' ha (hb.comp hc') fun S15 _ => ?_
  rw [ha.assoc hb hc']
  simp only [eq_tup, runS_nil, runS_one, ex, ev, evT, evTs, evs, evO, evI, asgG, asgGs, tAnd, tOr, evAnd, evOr, lookE, enter, glob0, bi_repr, bi_list, bi_tuple, bi_abs, bi_int, bi_intb, bi_max, bi_min, bi_lent, bi_lenf, bi_lenl, op_add, op_addt, op_sub, op_mul, op_div, op_mod, op_pow, cp_eq, cp_ne, cp_lt, cp_le, cp_gt, cp_ge, cp_in, cp_nin, eq_int, eq_str, tr_bl, ix_int, seq_tup, seq_fl, at_0, at_1, at_2, at_3, runs_ok, runs_bad, runs_bind, runs_grd, runs_opt, runs_calmly, runs_ite, runs_alloc, runS_nx, runS_rt, runS_bk, runS_ct, runS_atE, runS_bindE, runS_bindD, runS_seq, runS_turn, runS_ite, List.map_cons, List.map_nil, List.length_cons, List.length_nil, List.replicate, List.nil_append, List.cons_append, List.getElem?_cons_zero, List.getElem?_cons_succ, List.set_cons_zero, List.set_cons_succ, Option.bind_some, id_eq, Option.some.injEq, exists_eq_left', wipeE, lenGs, if_true, if_false, ↓reduceIte, Bool.false_eq_true, Bool.not_true, Bool.not_false, decide_true, decide_false]
  rw [runS_cons]
  simp only [runS_nil, runS_one, ex, ev, evT, evTs, evs, evO, evI, asgG, asgGs, tAnd, tOr, evAnd, evOr, lookE, enter, glob0, bi_repr, bi_list, bi_tuple, bi_abs, bi_int, bi_intb, bi_max, bi_min, bi_lent, bi_lenf, bi_lenl, op_add, op_addt, op_sub, op_mul, op_div, op_mod, op_pow, cp_eq, cp_ne, cp_lt, cp_le, cp_gt, cp_ge, cp_in, cp_nin, eq_int, eq_str, tr_bl, ix_int, seq_tup, seq_fl, at_0, at_1, at_2, at_3, runs_ok, runs_bad, runs_bind, runs_grd, runs_opt, runs_calmly, runs_ite, runs_alloc, runS_nx, runS_rt, runS_bk, runS_ct, runS_atE, runS_bindE, runS_bindD, runS_seq, runS_turn, runS_ite, List.map_cons, List.map_nil, List.length_cons, List.length_nil, List.replicate, List.nil_append, List.cons_append, List.getElem?_cons_zero, List.getElem?_cons_succ, List.set_cons_zero, List.set_cons_succ, Option.bind_some, id_eq, Option.some.injEq, exists_eq_left', wipeE, lenGs, if_true, if_false, ↓reduceIte, Bool.false_eq_true, Bool.not_true, Bool.not_false, decide_true, decide_false]
  refine r_lthen hm' ha hb fun S16 _ => ?_
  refine r_lthen hm' hc' hd' fun S17 _ => ?_
  refine r_lthen hm' (ha.comp hb) (hc'.comp hd') fun S18 _ => ?_
  refine r_then hm' ha hb fun S19 _ => ?_
  refine r_then hm' hc' hd' fun S20 _ => ?_
  refine r_then hm' (ha.comp hb) (hc'.comp hd') fun S21 _ => ?_
  have rr := fun S => repr_tup (((ha.comp hb).comp (hc'.comp hd')).small hm) S
  simp only [rr, runS_nil, runS_one, ex, ev, evT, evTs, evs, evO, evI, asgG, asgGs, tAnd, tOr, evAnd, evOr, lookE, enter, glob0, bi_repr, bi_list, bi_tuple, bi_abs, bi_int, bi_intb, bi_max, bi_min, bi_lent, bi_lenf, bi_lenl, op_add, op_addt, op_sub, op_mul, op_div, op_mod, op_pow, cp_eq, cp_ne, cp_lt, cp_le, cp_gt, cp_ge, cp_in, cp_nin, eq_int, eq_str, tr_bl, ix_int, seq_tup, seq_fl, at_0, at_1, at_2, at_3, runs_ok, runs_bad, runs_bind, runs_grd, runs_opt, runs_calmly, runs_ite, runs_alloc, runS_nx, runS_rt, runS_bk, runS_ct, runS_atE, runS_bindE, runS_bindD, runS_seq, runS_turn, runS_ite, List.map_cons, List.map_nil, List.length_cons, List.length_nil, List.replicate, List.nil_append, List.cons_append, List.getElem?_cons_zero, List.getElem?_cons_succ, List.set_cons_zero, List.set_cons_succ, Option.bind_some, id_eq, Option.some.injEq, exists_eq_left', wipeE, lenGs, if_true, if_false, ↓reduceIte, Bool.false_eq_true, Bool.not_true, Bool.not_false, decide_true, decide_false]
  exact hN _ _ _ _ _ _ _ _ _ _ _ _ _ _
theorem law_true : ∀ ns : List Int, ns.length ≤ 63 → ∃ S, callN M 20 "law" [.fl (ns.map D.int)] [] = .ok (.bl true) S := by
  intro ns hl
  have main : Runs (callN M 20 "law" [.fl (ns.map D.int)] []) (fun d _ => d = .bl true) := by
    rw [c_law]
    refine runs_body (by rfl) ?_
    rw [law_eq, runS_cons]
    simp only [runS_nil, runS_one, ex, ev, evT, evTs, evs, evO, evI, asgG, asgGs, tAnd, tOr, evAnd, evOr, lookE, enter, glob0, bi_repr, bi_list, bi_tuple, bi_abs, bi_int, bi_intb, bi_max, bi_min, bi_lent, bi_lenf, bi_lenl, op_add, op_addt, op_sub, op_mul, op_div, op_mod, op_pow, cp_eq, cp_ne, cp_lt, cp_le, cp_gt, cp_ge, cp_in, cp_nin, eq_int, eq_str, tr_bl, ix_int, seq_tup, seq_fl, at_0, at_1, at_2, at_3, runs_ok, runs_bad, runs_bind, runs_grd, runs_opt, runs_calmly, runs_ite, runs_alloc, runS_nx, runS_rt, runS_bk, runS_ct, runS_atE, runS_bindE, runS_bindD, runS_seq, runS_turn, runS_ite, List.map_cons, List.map_nil, List.length_cons, List.length_nil, List.replicate, List.nil_append, List.cons_append, List.getElem?_cons_zero, List.getElem?_cons_succ, List.set_cons_zero, List.set_cons_succ, Option.bind_some, id_eq, Option.some.injEq, exists_eq_left', wipeE, lenGs, if_true, if_false, ↓reduceIte, Bool.false_eq_true, Bool.not_true, Bool.not_false, decide_true, decide_false]
    generalize hb : (if (if ((ns.map D.int).length : Int) < 8 then ((ns.map D.int).length : Int) else 8) > 2 then (if ((ns.map D.int).length : Int) < 8 then ((ns.map D.int).length : Int) else 8) else 2) = b
    have hb2 : 2 ≤ b ∧ b ≤ 8 := by
      rw [← hb]
      split <;> split at * <;> omega
    refine ⟨by omega, ?_⟩
    refine for_fix (fun j env S' => ∃ e1 e2 e3 e4 e5 e6 e7 e8 e9 e10 e11 e12 e13 e14, env = [some (.fl (ns.map D.int)), e1, e2, e3, e4, e5, e6, e7, e8, e9, e10, e11, e12, e13, e14]) ⟨_, _, _, _, _, _, _, _, _, _, _, _, _, _, rfl⟩ ?_ (fun _ _ _ => trivial)
    rintro j x env S hx ⟨e1, e2, e3, e4, e5, e6, e7, e8, e9, e10, e11, e12, e13, e14, rfl⟩
    have hj : j < (b - 0).toNat ∧ x = D.int (0 + (j : Nat)) := by
      rw [List.getElem?_map, Option.map_eq_some_iff] at hx
      obtain ⟨y, h1, rfl⟩ := hx
      have h2 := (List.getElem?_eq_some_iff.mp h1).1
      rw [List.length_range] at h2
      rw [List.getElem?_range h2] at h1
      cases h1
      exact ⟨h2, rfl⟩
    obtain ⟨hj, rfl⟩ := hj
    simp only [runS_nil, runS_one, ex, ev, evT, evTs, evs, evO, evI, asgG, asgGs, tAnd, tOr, evAnd, evOr, lookE, enter, glob0, bi_repr, bi_list, bi_tuple, bi_abs, bi_int, bi_intb, bi_max, bi_min, bi_lent, bi_lenf, bi_lenl, op_add, op_addt, op_sub, op_mul, op_div, op_mod, op_pow, cp_eq, cp_ne, cp_lt, cp_le, cp_gt, cp_ge, cp_in, cp_nin, eq_int, eq_str, tr_bl, ix_int, seq_tup, seq_fl, at_0, at_1, at_2, at_3, runs_ok, runs_bad, runs_bind, runs_grd, runs_opt, runs_calmly, runs_ite, runs_alloc, runS_nx, runS_rt, runS_bk, runS_ct, runS_atE, runS_bindE, runS_bindD, runS_seq, runS_turn, runS_ite, List.map_cons, List.map_nil, List.length_cons, List.length_nil, List.replicate, List.nil_append, List.cons_append, List.getElem?_cons_zero, List.getElem?_cons_succ, List.set_cons_zero, List.set_cons_succ, Option.bind_some, id_eq, Option.some.injEq, exists_eq_left', wipeE, lenGs, if_true, if_false, ↓reduceIte, Bool.false_eq_true, Bool.not_true, Bool.not_false, decide_true, decide_false]
    exact law_body hl (by omega) fun S' e2 e3 e4 e5 e6 e7 e8 e9 e10 e11 e12 e13 e14 => ⟨_, _, _, _, _, _, _, _, _, _, _, _, _, _, rfl⟩
  obtain ⟨d, S, e, rfl⟩ := main.get
  exact ⟨S, e⟩
end K02
namespace K02
open Mi PySem
abbrev R : PySem.W.OpenRow := PySem.W.OpenLaw.row PySem.Challenge.rw_likewebs_k02_one_behind_the_other
abbrev hk : PySem.W.Hook := He.hookD 4 (faOf ds) (fnOfD ds)
def ob (s : PySem.W.SharedT) : He.AlD := He.obsDG 4 (faOf ds) (fnOfD ds) (HandSHeadRun.getT s)
theorem ob_eq (s : PySem.W.SharedT) : ob s = hk.obs s.abs := He.obsDG_eq (HandSHeadRun.getT_eq s)
theorem run (w : World) : HandSHeadRun.RunEq R (PySem.W.view R.prog [lawAt]) hk ob 2000 loose w := by
  intro os
  kernel_rfl
end K02
open PySem PySem.W PySem.Calls PyProof.Rows
theorem PySem.Challenge.cw_likewebs_k02_one_behind_the_other_holds : PySem.Challenge.rw_likewebs_k02_one_behind_the_other.Holds := by
  w_on; o_law
  refine HandSHeadRun.head_any (r := OpenLaw.row PySem.Challenge.rw_likewebs_k02_one_behind_the_other) (q := view (OpenLaw.row PySem.Challenge.rw_likewebs_k02_one_behind_the_other).prog [11]) (H := K02.hk) (ob := K02.ob) (M := 2000) (loose := K02.loose) (d := HandSHeadRun.topDef (OpenLaw.row PySem.Challenge.rw_likewebs_k02_one_behind_the_other).prog 11) (kwd := []) K02.ob_eq
    (by kernel_rfl) (fun s => by kernel_rfl) K02.run (by kernel_rfl) (by kernel_rfl) (by kernel_rfl) (by rfl) (by first | assumption | decide +kernel) (by decide +kernel) ⟨rfl, rfl, rfl, rfl, rfl, by decide +kernel⟩ ?hw ?hc
  case hw => w_witness2
  case hc =>
    have en : (HandSHeadRun.topDef (OpenLaw.row PySem.Challenge.rw_likewebs_k02_one_behind_the_other).prog 11).name = ("law" : PySem.Str) := by kernel_rfl
    refine Mi.law_end (l := PySem.Challenge.rw_likewebs_k02_one_behind_the_other) (n := 63) (k := 20) (x := "script") (M := K02.M) rfl (by decide) (by kernel_rfl) ⟨rfl, by decide, by decide⟩ ?F ?law
    case law =>
      rw [en]
      exact K02.law_true
    case F =>
      intro w mg fa h Y G hmg0
      obtain ⟨K, KX, c⟩ := Y
      obtain ⟨h1, h2⟩ := Mi.prog_ok KX G c K02.checked
      refine ⟨K, Mi.namesOf K02.ds, KX, ?_, h1, h2, fun x d e => ?_⟩
      · rw [en]; decide +kernel
      · cases e
