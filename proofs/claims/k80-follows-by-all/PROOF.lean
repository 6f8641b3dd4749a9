import PyProof.Rows.All
import PySem.PyData
import PyProof.P3Statements
import PyProof.EqLayable
import PyProof.StrBlock2
import Wide.All
import OpenK.AllK
import Wide.FinOn
import HandS.ForMost
import HandS.SetKeys
import HandS.TupAny
import HandS.Exc
import HandS.ExcOwn
import HandS.Wide
import HandS.DictEq
import HandS.Dict
import HandS.IsInst
import HandS.TupLen
import HandS.SortInts
import HandS.Conv
import HandS.WordsDict
import HandS.More
import HandS.TryOnly
import HandS.Iter
import HandS.Comp
import HandS.Small
import HandS.ExcInit
import HandS.ExcSuper
import KE.KExcSuper
import KE.KSuper
import HandS.Base
import HandS.Call
import HandS.TryMany
import HandS.ExcField
import HandS.SetBool
import HandS.WordsExc
import HandS.HeadHook3
import HandS.HeadHook4
import HandS.Head0
import HandS.Head1
import HandS.Head2
import HandS.HeadEnd
import HandS.HeadHook1
import HandS.HeadHook2
import HandS.HeadNt
import PySem.Challenge.RW_triedagain_k80_whole_follows_by_all
set_option Elab.async false
set_option linter.all false
set_option maxRecDepth 100000
/-! TaBase: a small language (IE, IS) for the part of Python that the laws use, and its evaluator over plain data. -/
namespace TA
open PySem

abbrev D := PyData
abbrev Nm := Str

/-- a working value: frozen data, or a list, a dict, a set that its holder alone owns -/
inductive W where
  | val (d : D)
  | lst (ws : List W)
  | dic (ks : List D) (ws : List W)
  | set (ds : List D)
mutual
def W.toD : W → Option D
  | .val d => some d
  | .lst ws => (W.toDs ws).map PyData.list
  | .dic ks ws => (W.toDs ws).map fun ds => .dict (ks.zip ds)
  | .set _ => none
def W.toDs : List W → Option (List D)
  | [] => some []
  | w :: ws => (W.toD w).bind fun d => (W.toDs ws).map fun ds => d :: ds
end
abbrev Env := List (Option W)
inductive Res (α : Type) where
  | stuck
  | ok (a : α)
  | exc (c : Nat) (d : D) (e : Env)
def Res.bind {α β : Type} : Res α → (α → Res β) → Res β
  | .stuck, _ => .stuck
  | .ok a, f => f a
  | .exc c d e, _ => .exc c d e
def Res.of {α : Type} : Option α → Res α
  | none => .stuck
  | some a => .ok a
/-- what a def answers: a value and what its in-out parameters hold behind it; or an exception -/
inductive FRes where
  | stuck
  | ret (r : W) (outs : List W)
  | exc (c : Nat) (d : D)

inductive BOp where | add | sub | mul | fdiv | mod | pow
  deriving DecidableEq
inductive COp where | eq | ne | lt | le | gt | ge | isin | notin | isnone | notnone
  deriving DecidableEq
inductive Cls where | str | int | bool | list | tuple | dict | row
  deriving DecidableEq
/-- built-ins of one and two arguments -/
inductive BI where | len | int | list | tuple | dict | max1 | max2 | ord | isi (c : Cls) | sorted | set | str
/-- a place's method -/
inductive MI where | append | extend | pop0 | popi
  deriving DecidableEq

/-- what is walked: a sequence, range(a), range(a, b) -/
inductive ItK where | seq | rng1 | rng2
  deriving DecidableEq
/-- how a value is wanted: to be handed on; to be looked at, its items handed on; to be looked at; as a test -/
inductive Md where | val | flat | peek | test
  deriving DecidableEq
inductive IE where
  | loc (i : Nat)
  | io (j : Nat)
  | iot (e : IE)
  | lit (d : D)
  | gl (x : Nat) (d : D)
  | no
  | tup (es : List IE)
  | lst (es : List IE)
  | dicE (tk : Bool)
  | dicL (ks vs : List Str)
  | bin (o : BOp) (a b : IE)
  | neg (a : IE)
  | cmp (o : COp) (a b : IE)
  | chn (o o' : COp) (a b c : IE)
  | and (a b : IE)
  | or (a b : IE)
  | not (a : IE)
  | idx (a i : IE)
  | slc (a lo hi : IE)
  | call (f : Nat) (args : List IE)
  | callk (f : Nat) (perm : List Nat) (args : List IE)
  | blt (b : BI) (args : List IE)
  | mth (m : MI) (j : Nat) (args : List IE)
  | lens (j : Nat)
  | gin (neg : Bool) (g : Nat) (ks : List D) (a : IE)
  | gix (g : Nat) (ks vs : List D) (a : IE)
  | lc (st : Bool) (elt : IE) (tg : List Nat) (tup : Bool) (k : ItK) (its : List IE) (cond : IE) (own : List Nat)

/-- an item of what an except suite tells: a constant, the error's own field, whether it is of a class -/
inductive HI where | lit (d : D) | fld | isi (c : Nat)
/-- a statement of an except suite -/
inductive HS where | set1 (i : Nat) (h : HI) | setT (i : Nat) (hs : List HI) | ret (d : D) | raiseF (c i : Nat)
inductive IS where
  | asg (i : Nat) (e : IE)
  | asgT (is : List Nat) (e : IE)
  | asg2 (i j : Nat) (a b : IE)
  | sidx (j : Nat) (k e : IE)
  | aug (i : Nat) (o : BOp) (e : IE)
  | ex (e : IE)
  | ret (e : IE)
  | retN
  | ifS (c : IE) (a b : List IS)
  | forS (tg : List Nat) (tup : Bool) (k : ItK) (its : List IE) (body : List IS)
  | whileS (c : IE) (body : List IS)
  | raise (c : Nat) (args : List IE)
  | tryS (body : List IS) (hs : List (Nat × Option Nat × HS))
  | pass | brk | cont

/-! ### plain operations -/
def szOk (n : Nat) : Bool := decide (n ≤ 16777216)
def bInt (i : Int) : Bool := decide (-(2 ^ 64) < i) && decide (i < 2 ^ 64)
def intOp : BOp → Int → Int → Option Int
  | .add, i, j => some (i + j)
  | .sub, i, j => some (i - j)
  | .mul, i, j => if bInt i || bInt j then some (i * j) else none
  | .fdiv, i, j => if decide (0 < j) && decide (j < 2 ^ 64) then some (i / j) else none
  | .mod, i, j => if decide (0 < j) then some (i % j) else none
  | .pow, i, j => if decide (0 ≤ j) && decide (j ≤ 1000000) && decide (i.natAbs < 2 ^ 64) then some (i ^ j.toNat) else none
/-- a value without identity, or a new list -/
def binD : BOp → D → D → Option W
  | o, .int i, .int j => (intOp o i j).map fun k => .val (.int k)
  | .mul, .str x, .int k => if decide (0 ≤ k) && decide (k ≤ 1000) && decide (x.length ≤ 1000) then some (.val (.str (Txt.mul x k))) else none
  | .add, .str x, .str y => if szOk (x.length + y.length) then some (.val (.str (x ++ y))) else none
  | .add, .tuple xs, .tuple ys => if szOk (xs.length + ys.length) then some (.val (.tuple (xs ++ ys))) else none
  | .add, .list xs, .list ys => if szOk (xs.length + ys.length) then some (.lst ((xs ++ ys).map .val)) else none
  | _, _, _ => none
def isScal : D → Bool
  | .none | .bool _ | .int _ | .str _ => true
  | _ => false
mutual
/-- == of data; dicts are equal where both are empty -/
def eqx : D → D → Bool
  | .none, .none => true
  | .bool a, .bool b => a == b
  | .bool a, .int j => (if a then 1 else 0) == j
  | .int i, .bool b => i == (if b then 1 else 0)
  | .int i, .int j => i == j
  | .str x, .str y => x == y
  | .list xs, .list ys => eqxs xs ys
  | .tuple xs, .tuple ys => eqxs xs ys
  | .dict xs, .dict ys => xs.isEmpty && ys.isEmpty
  | _, _ => false
def eqxs : List D → List D → Bool
  | [], [] => true
  | x :: xs, y :: ys => eqx x y && eqxs xs ys
  | _, _ => false
end
mutual
/-- may be compared: nested at most n deep where both are, dicts beside empty dicts alone -/
def cmpb : Nat → D → D → Bool
  | n + 1, .list xs, .list ys => cmpbs n xs ys
  | n + 1, .tuple xs, .tuple ys => cmpbs n xs ys
  | 0, .list _, .list _ => false
  | 0, .tuple _, .tuple _ => false
  | _, .dict xs, .dict ys => xs.isEmpty && ys.isEmpty
  | _, .dict _, _ => false
  | _, _, .dict _ => false
  | _, _, _ => true
def cmpbs : Nat → List D → List D → Bool
  | n, x :: xs, y :: ys => cmpb n x y && cmpbs n xs ys
  | _, _, _ => true
end
def isDict : D → Bool
  | .dict _ => true
  | _ => false
def eqD (a b : D) : Option Bool := if cmpb 50 a b && !isDict a && !isDict b then some (eqx a b) else none
/-- a dict's key: an int, a text, a tuple of these -/
def keyOk : D → Bool
  | .int _ | .str _ => true
  | .tuple ds => decide (ds.length ≤ 3) && ds.all fun d => match d with | .int _ | .str _ => true | _ => false
  | _ => false
def eqK : D → D → Bool
  | .int i, .int j => i == j
  | .str x, .str y => x == y
  | .tuple xs, .tuple ys => eqKs xs ys
  | _, _ => false
where eqKs : List D → List D → Bool
  | [], [] => true
  | .int i :: xs, .int j :: ys => i == j && eqKs xs ys
  | .str x :: xs, .str y :: ys => x == y && eqKs xs ys
  | _, _ => false
/-- the kind of a dict's keys: flat ones, or tuples -/
def flatK : D → Bool
  | .int _ | .str _ => true
  | _ => false
def look {α : Type} : List D → List α → D → Option α
  | k :: ks, v :: vs, q => if eqK k q then some v else look ks vs q
  | _, _, _ => none
def ixN (n : Nat) (i : Int) : Option Nat := if 0 ≤ i then (if i < n then some i.toNat else none) else if -(n : Int) ≤ i then some (i + n).toNat else none
def atI {α : Type} (xs : List α) (i : Int) : Option α := (ixN xs.length i).bind fun j => xs[j]?
def signs (x : Str) : List D := x.cps.toList.map fun c => .str ⟨#[c]⟩
def inD (x c : D) : Option Bool :=
  match c with
  | .list ds => if ds.all fun z => cmpb 50 z x then some (ds.any fun z => eqx z x) else none
  | .tuple ds => if ds.all fun z => cmpb 50 z x then some (ds.any fun z => eqx z x) else none
  | .dict kvs => if keyOk x && kvs.all (fun kv => flatK kv.1 == flatK x) then some (look (kvs.map (·.1)) (kvs.map (·.2)) x).isSome else none
  | _ => none
def isNon : D → Bool
  | .none => true
  | _ => false
def cmpD : COp → D → D → Option Bool
  | .eq, a, b => eqD a b
  | .ne, a, b => (eqD a b).map (!·)
  | .lt, .int i, .int j => some (decide (i < j))
  | .le, .int i, .int j => some (decide (i ≤ j))
  | .gt, .int i, .int j => some (decide (j < i))
  | .ge, .int i, .int j => some (decide (j ≤ i))
  | .isin, a, b => inD a b
  | .notin, a, b => (inD a b).map (!·)
  | .isnone, a, .none => some (isNon a)
  | .notnone, a, .none => some (!isNon a)
  | _, _, _ => none
def elemD : D → D → Option D
  | .list ds, .int i => atI ds i
  | .tuple ds, .int i => atI ds i
  | .str x, .int i => if szOk x.length then atI (signs x) i else none
  | .dict kvs, k => if keyOk k then look (kvs.map (·.1)) (kvs.map (·.2)) k else none
  | _, _ => none
def truthD : D → Option Bool
  | .none => some false
  | .bool b => some b
  | .int i => some (i != 0)
  | .list ds => some (!ds.isEmpty)
  | .tuple ds => some (!ds.isEmpty)
  | _ => none
def sIx (n d : Nat) : Option Int → Nat
  | none => d
  | some v => if v < 0 then (v + (n : Int)).toNat else min v.toNat n
def cutL {α : Type} (xs : List α) (lo hi : Option Int) : List α := (xs.drop (sIx xs.length 0 lo)).take (sIx xs.length xs.length hi - sIx xs.length 0 lo)
def sliceD (d : D) (lo hi : Option Int) : Option W :=
  match d with
  | .list ds => some (.lst ((cutL ds lo hi).map .val))
  | .tuple ds => some (.val (.tuple (cutL ds lo hi)))
  | _ => none
def isinst : Cls → D → Bool
  | .str, .str _ => true
  | .int, .int _ => true | .int, .bool _ => true
  | .bool, .bool _ => true
  | .list, .list _ => true
  | .tuple, .tuple _ => true
  | .dict, .dict _ => true
  | .row, .list _ => true | .row, .tuple _ => true
  | _, _ => false
/-- what a for walks -/
def itemsD : D → Option (List D)
  | .list ds => some ds
  | .tuple ds => some ds
  | .str x => some (signs x)
  | .dict kvs => some (kvs.map (·.1))
  | _ => none
def maxL : List D → Option Int
  | [] => none
  | [.int i] => some i
  | .int i :: ds => (maxL ds).map fun j => max i j
  | _ => none
def lenD : D → Option Nat
  | .str x => if szOk x.length then some x.length else none
  | .list ds => some ds.length
  | .tuple ds => some ds.length
  | .dict kvs => some kvs.length
  | _ => none
/-- two ints ascending -/
def sort2 : List D → Option (List D)
  | [.int i, .int j] => some (if j < i then [.int j, .int i] else [.int i, .int j])
  | _ => none
def insK (d : D) (ds : List D) : List D := if ds.any (eqK d) then ds else ds ++ [d]
def putW : List D → List W → D → W → List D × List W
  | k :: ks, v :: vs, q, w => if eqK k q then (k :: ks, w :: vs) else let r := putW ks vs q w; (k :: r.1, v :: r.2)
  | _, _, q, w => ([q], [w])
def BI.md : BI → Md
  | .tuple => .val
  | .list | .dict | .sorted => .flat
  | _ => .peek
def bltD : BI → List D → Option W
  | .len, [d] => (lenD d).map fun n => .val (.int n)
  | .int, [.int i] => some (.val (.int i))
  | .int, [.bool b] => some (.val (.int (if b then 1 else 0)))
  | .list, [.list ds] => some (.lst (ds.map .val))
  | .list, [.tuple ds] => some (.lst (ds.map .val))
  | .list, [.dict kvs] => some (.lst ((kvs.map (·.1)).map .val))
  | .tuple, [.list ds] => some (.val (.tuple ds))
  | .tuple, [.tuple ds] => some (.val (.tuple ds))
  | .dict, [.dict kvs] => if kvs.all (fun kv => flatK kv.1) then some (.dic (kvs.map (·.1)) ((kvs.map (·.2)).map .val)) else none
  | .max1, [.list ds] => (maxL ds).map fun i => .val (.int i)
  | .max2, [.int i, .int j] => some (.val (.int (if j > i then j else i)))
  | .ord, [.str x] => if x.length = 1 then some (.val (.int (x.cps.getD 0 0 : Nat))) else none
  | .isi c, [d] => some (.val (.bool (isinst c d)))
  | .sorted, [.list ds] => (sort2 ds).map fun r => .lst (r.map .val)
  | _, _ => none
def kwArgs {α : Type} (perm : List Nat) (ws : List α) : Option (List α) := perm.mapM fun i => ws[i]?
def valsW : List W → Option (List D)
  | [] => some []
  | .val d :: ws => (valsW ws).map fun ds => d :: ds
  | _ :: _ => none
/-- its items frozen already -/
def W.flat : W → Option D
  | .val d => some d
  | .lst ws => (valsW ws).map PyData.list
  | .dic ks ws => (valsW ws).map fun ds => .dict (ks.zip ds)
  | .set _ => none

/-! ### environments -/
def Env.get (env : Env) (i : Nat) : Res W := match env[i]? with
  | some (some w) => .ok w
  | _ => .stuck
/-- a name's value, handed on: its holder owns it no longer -/
def Env.share (env : Env) (i : Nat) : Res (Env × W) := (env.get i).bind fun w => match w.toD with
  | some d => .ok (env.set i (some (.val d)), .val d)
  | none => .stuck
def Env.wipe (env : Env) : List Nat → Env
  | [] => env
  | i :: is => Env.wipe (env.set i none) is
def Env.restore (env old : Env) : List Nat → Env
  | [] => env
  | i :: is => Env.restore (env.set i ((old[i]?).getD none)) old is
def Env.putT : List Nat → List D → Env → Option Env
  | [], [], env => some env
  | i :: is, d :: ds, env => Env.putT is ds (env.set i (some (.val d)))
  | _, _, _ => none
/-- the target of a for: one name, or several -/
def Env.target (env : Env) (tg : List Nat) (tup : Bool) (d : D) : Option Env :=
  if tup then (match d with
    | .tuple ds => Env.putT tg ds env
    | .list ds => Env.putT tg ds env
    | _ => none)
  else Env.putT tg [d] env
def Env.outs (env : Env) : List (Option Nat) → List W → Option Env
  | [], [] => some env
  | some j :: js, w :: ws => Env.outs (env.set j (some w)) js ws
  | none :: js, _ :: ws => Env.outs env js ws
  | _, _ => none
def Env.drop (env : Env) : List (Option Nat) → Env
  | [] => env
  | some j :: js => Env.drop (env.set j none) js
  | none :: js => Env.drop env js
/-- the arguments of a call: values, in-out places, in-out values of nobody -/
inductive Arg where | val (d : D) | slot (j : Nat) | tmp (w : W)
def argsW (env : Env) : List Arg → Option (List W)
  | [] => some []
  | .val d :: r => (argsW env r).map fun ws => .val d :: ws
  | .slot j :: r => match env[j]? with
    | some (some w) => (argsW env r).map fun ws => w :: ws
    | _ => none
  | .tmp w :: r => (argsW env r).map fun ws => w :: ws
/-- the in-out arguments, in order: a place, or nobody -/
def argsJ : List Arg → List (Option Nat)
  | [] => []
  | .val _ :: r => argsJ r
  | .slot j :: r => some j :: argsJ r
  | .tmp _ :: r => none :: argsJ r
def nodupB : List (Option Nat) → Bool
  | [] => true
  | some i :: is => !is.contains (some i) && nodupB is
  | none :: is => nodupB is
def callRes (F : Nat → List W → FRes) (f : Nat) (as : List Arg) (env : Env) : Res (Env × W) :=
  match argsW env as with
  | none => .stuck
  | some ws => if nodupB (argsJ as) then (match F f ws with
    | .stuck => .stuck
    | .ret r outs => Res.of (((env.drop (argsJ as)).outs (argsJ as) outs).map fun e => (e, r))
    | .exc c d => .exc c d (env.drop (argsJ as))) else .stuck

/-! ### does an expression turn nothing? -/
mutual
def IE.quiet : IE → Bool
  | .loc _ | .lit _ | .gl .. | .no | .dicE _ | .dicL .. => true
  | .io _ => false
  | .iot _ => false
  | .tup es | .lst es => IE.quiets es
  | .bin _ a b | .cmp _ a b | .and a b | .or a b | .idx a b => IE.quiet a && IE.quiet b
  | .neg a | .not a => IE.quiet a
  | .chn _ _ a b c | .slc a b c => IE.quiet a && IE.quiet b && IE.quiet c
  | .call _ args | .callk _ _ args | .blt _ args => IE.quiets args
  | .mth .. => false
  | .lens _ => true
  | .gin _ _ _ a => IE.quiet a
  | .gix _ _ _ a => IE.quiet a
  | .lc _ elt _ _ _ its cond _ => IE.quiet elt && IE.quiets its && IE.quiet cond
def IE.quiets : List IE → Bool
  | [] => true
  | e :: es => IE.quiet e && IE.quiets es
end

/-! ### comprehensions and loops -/
def compL (step : D → Env → Res (Env × Option W)) : List D → Env → List W → Res (Env × List W)
  | [], env, acc => .ok (env, acc)
  | d :: ds, env, acc => (step d env).bind fun r => match r.2 with
    | none => compL step ds r.1 acc
    | some w => if szOk (acc.length + 1) then compL step ds r.1 (acc ++ [w]) else .stuck
/-- an exception does not leave a comprehension -/
def Res.calm {α : Type} : Res α → Res α
  | .exc .. => .stuck
  | r => r

inductive Out where
  | stuck
  | next (e : Env)
  | ret (w : W) (e : Env)
  | brk (e : Env)
  | cont (e : Env)
  | exc (c : Nat) (d : D) (e : Env)
def Out.of {α : Type} : Res α → (α → Out) → Out
  | .stuck, _ => .stuck
  | .ok a, f => f a
  | .exc c d e, _ => .exc c d e
def Out.then : Out → (Env → Out) → Out
  | .next e, f => f e
  | r, _ => r
def forL (body : D → Env → Out) : List D → Env → Out
  | [], env => .next env
  | d :: ds, env => match body d env with
    | .next e => forL body ds e
    | .cont e => forL body ds e
    | .brk e => .next e
    | r => r
def whileL (c : Env → Res (Env × Bool)) (body : Env → Out) : Nat → Env → Out
  | 0, _ => .stuck
  | n + 1, env => Out.of (c env) fun r => if r.2 then (match body r.1 with
    | .next e => whileL c body n e
    | .cont e => whileL c body n e
    | .brk e => .next e
    | o => o) else .next r.1

def IE.isNo : IE → Bool
  | .no => true
  | _ => false
inductive ArK where | io (j : Nat) | iot | val
def IE.ark : IE → ArK
  | .io j => .io j
  | .iot _ => .iot
  | _ => .val
def Res.map {α β : Type} (r : Res α) (f : α → Option β) : Res β := r.bind fun a => Res.of (f a)
/-- a result as it is wanted -/
def Md.fin : Md → Res (Env × W) → Res (Env × W)
  | .val, r => r
  | .flat, r => r.map fun q => q.2.flat.map fun d => (q.1, .val d)
  | .peek, r => r.map fun q => q.2.toD.map fun d => (q.1, .val d)
  | .test, r => r.map fun q => (q.2.toD.bind truthD).map fun b => (q.1, .val (.bool b))
def Res.bool {β : Type} (r : Res (Env × W)) (f : Env → Bool → Res β) : Res β := r.bind fun q => match q.2 with
  | .val (.bool b) => f q.1 b
  | _ => .stuck
/-- the first of two values that are looked at, if the second one turns something -/
def md1 (q : Bool) (m : Md) : Md := if q then m else .val
def out1 (e : Env) : Option W → Res (Env × W)
  | some w => .ok (e, w)
  | none => .stuck
def cmpW (o : COp) (x y : D) : Option W := (cmpD o x y).map fun k => .val (.bool k)
def partW : W → Option Int
  | .val (.int i) => some i
  | _ => none
def negW : W → Option W
  | .val (.int i) => some (.val (.int (-i)))
  | _ => none
def tupW (ws : List W) : Option W := (W.toDs ws).bind fun ds => if szOk ds.length then some (.val (.tuple ds)) else none
def setW (ws : List W) : Option W := (W.toDs ws).bind fun ds => if ds.all flatK && decide (ds.length ≤ 1000) then some (.set (ds.foldl (fun acc d => insK d acc) [])) else none
/-- what is walked, from the values of its parts -/
def itemsOf : ItK → List W → Option (List D)
  | .seq, [w] => w.toD.bind itemsD
  | .rng1, [.val (.int j)] => if decide (-(2 ^ 62) ≤ j) && decide (j < 2 ^ 62) then some ((List.range j.toNat).map fun (k : Nat) => .int k) else none
  | .rng2, [.val (.int i), .val (.int j)] => if decide (-(2 ^ 62) ≤ i) && decide (i < 2 ^ 62) && decide (-(2 ^ 62) ≤ j) && decide (j < 2 ^ 62) then some ((List.range (j - i).toNat).map fun (k : Nat) => .int (i + k)) else none
  | _, _ => none
def W.isLst : W → Bool
  | .lst _ => true
  | _ => false
/-- a place's method: the value, what the place holds behind it -/
def mthW : MI → W → List W → Option (W × W)
  | .append, .lst ws, [w] => if szOk (ws.length + 1) then some (.val .none, .lst (ws ++ [w])) else none
  | .extend, .lst ws, [.lst us] => if szOk (ws.length + us.length) then some (.val .none, .lst (ws ++ us)) else none
  | .pop0, .lst ws, [] => (match ws[ws.length - 1]? with
    | some (.val d) => some (.val d, .lst (ws.eraseIdx (ws.length - 1)))
    | _ => none)
  | .popi, .lst ws, [.val (.int i)] => (match (if szOk ws.length then ixN ws.length i else none) with
    | some k => (match ws[k]? with
      | some (.val d) => some (.val d, .lst (ws.eraseIdx k))
      | _ => none)
    | none => none)
  | _, _, _ => none
/-- {'..': '..', ..} -/
def dicLW (ks vs : List Str) : Option W := if decide ks.Nodup && decide (0 < ks.length) && decide (ks.length ≤ 15) && decide (ks.length = vs.length) then some (.dic (ks.map .str) ((vs.map PyData.str).map .val)) else none
def gixW (ks vs : List D) (d : D) : Option W := match d with
  | .str _ => (look ks vs d).map .val
  | _ => none
def ginW (neg : Bool) (ks : List D) (d : D) : Option W := match d with
  | .str _ => some (.val (.bool (if neg then !(look ks ks d).isSome else (look ks ks d).isSome)))
  | _ => none

section
variable (F : Nat → List W → FRes)
mutual
/-- the value of an expression -/
def evX : IE → Md → Env → Res (Env × W)
  | .loc i, .val, env => env.share i
  | .loc i, m, env => m.fin ((env.get i).bind fun w => .ok (env, w))
  | .lit d, m, env => m.fin (.ok (env, .val d))
  | .gl _ d, m, env => m.fin (.ok (env, .val d))
  | .tup es, m, env => m.fin ((evEs es .val env).bind fun r => out1 r.1 (tupW r.2))
  | .lst es, m, env => m.fin ((evEs es .val env).bind fun r => if szOk r.2.length then .ok (r.1, .lst r.2) else .stuck)
  | .dicE _, m, env => m.fin (.ok (env, .dic [] []))
  | .dicL ks vs, m, env => m.fin (out1 env (dicLW ks vs))
  | .bin o a b, m, env => m.fin ((evX a .val env).bind fun r => (Res.of r.2.toD).bind fun x => (evX b .val r.1).bind fun q => (Res.of q.2.toD).bind fun y => out1 q.1 (binD o x y))
  | .neg a, m, env => m.fin ((evX a .val env).bind fun r => out1 r.1 (negW r.2))
  | .cmp o a b, m, env => m.fin ((evX a (md1 (IE.quiet b) .peek) env).bind fun r => (Res.of r.2.toD).bind fun x => (evX b .peek r.1).bind fun q => (Res.of q.2.toD).bind fun y => out1 q.1 (cmpW o x y))
  | .chn o o' a b c, m, env => m.fin ((evX a .val env).bind fun r => (Res.of r.2.toD).bind fun x => (evX b .val r.1).bind fun q => (Res.of q.2.toD).bind fun y => (out1 q.1 (cmpW o x y)).bool fun e k =>
      if k then (evX c .val e).bind fun p => (Res.of p.2.toD).bind fun z => out1 p.1 (cmpW o' y z) else .ok (e, .val (.bool false)))
  | .and a b, .test, env => (evX a .test env).bool fun e k => if k then evX b .test e else .ok (e, .val (.bool false))
  | .and a b, _, env => (evX a .val env).bool fun e k => if k then (evX b .val e).bool fun e k => .ok (e, .val (.bool k)) else .ok (e, .val (.bool false))
  | .or a b, .test, env => (evX a .test env).bool fun e k => if k then .ok (e, .val (.bool true)) else evX b .test e
  | .or a b, _, env => (evX a .val env).bool fun e k => if k then .ok (e, .val (.bool true)) else (evX b .val e).bool fun e k => .ok (e, .val (.bool k))
  | .not a, .test, env => (evX a .test env).bool fun e k => .ok (e, .val (.bool !k))
  | .not a, _, env => (evX a .val env).bool fun e k => .ok (e, .val (.bool !k))
  | .idx a k, .val, env => (evX a (md1 (IE.quiet k) .flat) env).bind fun r => (Res.of r.2.flat).bind fun x => (evX k .val r.1).bind fun q => (Res.of q.2.toD).bind fun y => out1 q.1 ((elemD x y).map .val)
  | .idx a k, .flat, env => (evX a (md1 (IE.quiet k) .flat) env).bind fun r => (Res.of r.2.flat).bind fun x => (evX k .val r.1).bind fun q => (Res.of q.2.toD).bind fun y => out1 q.1 ((elemD x y).map .val)
  | .idx a k, m, env => m.fin ((evX a (md1 (IE.quiet k) .peek) env).bind fun r => (Res.of r.2.toD).bind fun x => (evX k .val r.1).bind fun q => (Res.of q.2.toD).bind fun y => out1 q.1 ((elemD x y).map .val))
  | .slc a lo hi, m, env => m.fin ((evX a (md1 (IE.quiet lo && IE.quiet hi) .flat) env).bind fun r => (Res.of r.2.flat).bind fun x =>
      (if lo.isNo then .ok (r.1, none) else (evX lo .val r.1).map fun p => (partW p.2).map fun i => (p.1, some i)).bind fun p =>
      (if hi.isNo then .ok (p.1, none) else (evX hi .val p.1).map fun q => (partW q.2).map fun i => (q.1, some i)).bind fun q =>
      out1 q.1 (sliceD x p.2 q.2))
  | .call f args, m, env => m.fin ((evArgs args env).bind fun r => callRes F f r.2 r.1)
  | .callk f perm args, m, env => m.fin ((evArgs args env).bind fun r => (Res.of (kwArgs perm r.2)).bind fun as => callRes F f as r.1)
  | .blt b args, m, env => m.fin ((evEs args (if args.length = 1 then b.md else .val) env).bind fun r => (Res.of (if args.length = 1 then (if b.md = .flat then r.2.mapM W.flat else W.toDs r.2) else W.toDs r.2)).bind fun ds => out1 r.1 (bltD b ds))
  | .mth f j args, m, env => m.fin ((env.get j).bind fun s0 => if s0.isLst then ((evEs args .val env).bind fun r => (r.1.get j).bind fun s => Res.of ((mthW f s r.2).map fun q => (r.1.set j (some q.2), q.1))) else .stuck)
  | .lens j, m, env => m.fin ((env.get j).bind fun w => match w with
    | .set ds => .ok (env, .val (.int ds.length))
    | _ => .stuck)
  | .gin neg _ ks a, m, env => m.fin ((evX a .val env).bind fun r => (Res.of r.2.toD).bind fun x => out1 r.1 (ginW neg ks x))
  | .gix _ ks vs a, m, env => m.fin ((evX a .val env).bind fun r => (Res.of r.2.toD).bind fun x => out1 r.1 (gixW ks vs x))
  | .lc st elt tg tup k its cond own, m, env => m.fin ((evEs its .val env).bind fun r => (Res.of (itemsOf k r.2)).bind fun ds =>
      (compL (fun d e => (Res.of (e.target tg tup d)).bind fun e1 => (evX cond .test e1).calm.bool fun e2 b =>
        if b then (evX elt .val e2).calm.bind fun p => .ok (p.1.wipe own, some p.2) else .ok (e2.wipe own, none)) ds (r.1.wipe own) []).bind fun q =>
      out1 (q.1.restore r.1 own) (if st then setW q.2 else some (.lst q.2)))
  | .io _, _, _ => .stuck
  | .iot e, _, env => evX e .val env
  | .no, _, _ => .stuck
def evEs : List IE → Md → Env → Res (Env × List W)
  | [], _, env => .ok (env, [])
  | e :: es, m, env => (evX e m env).bind fun r => (evEs es m r.1).bind fun q => .ok (q.1, r.2 :: q.2)
def evArgs : List IE → Env → Res (Env × List Arg)
  | [], env => .ok (env, [])
  | e :: es, env => match e.ark with
    | .io j => (env.get j).bind fun _ => (evArgs es env).bind fun q => .ok (q.1, .slot j :: q.2)
    | .iot => (evX e .val env).bind fun r => (evArgs es r.1).bind fun q => .ok (q.1, .tmp r.2 :: q.2)
    | .val => (evX e .val env).bind fun r => (Res.of r.2.toD).bind fun d => (evArgs es r.1).bind fun q => .ok (q.1, .val d :: q.2)
end
/-- a test's answer -/
def evT (e : IE) (env : Env) : Res (Env × Bool) := (evX F e .test env).bind fun q => match q.2 with
  | .val (.bool b) => .ok (q.1, b)
  | _ => .stuck
end
/-- a place's item is stored -/
def storeW : W → W → W → Option W
  | .lst ws, .val (.int i), w => (ixN ws.length i).map fun k => .lst (ws.set k w)
  | .dic ks ws, k, w => k.toD.bind fun kd => if keyOk kd && ks.all (fun q => flatK q == flatK kd) && szOk (ks.length + 1) then
      (let r := putW ks ws kd w
       some (.dic r.1 r.2)) else none
  | _, _, _ => none
def unpackW (w : W) : Option (List D) := w.toD.bind fun d => match d with
  | .tuple ds => some ds
  | .list ds => some ds
  | _ => none
/-- the classes of errors: is the first one below the second one? -/
abbrev Subs := Nat → Nat → Bool
def HI.val (sub : Subs) (c : Nat) (d : D) : HI → D
  | .lit x => x
  | .fld => d
  | .isi k => .bool (sub c k)
/-- what an except suite does -/
def HS.run (sub : Subs) (c : Nat) (d : D) : HS → Env → Out
  | .set1 i h, env => .next (env.set i (some (.val (h.val sub c d))))
  | .setT i hs, env => .next (env.set i (some (.val (.tuple (hs.map (HI.val sub c d))))))
  | .ret x, env => .ret (.val x) env
  | .raiseF k i, env => Out.of (env.get i) fun w => match w with
    | .val x => .exc k x env
    | _ => .stuck
def wipeO (env : Env) : Option Nat → Env
  | none => env
  | some i => env.set i none
def Out.wipe (i : Option Nat) : Out → Out
  | .next e => .next (wipeO e i)
  | .brk e => .brk (wipeO e i)
  | .cont e => .cont (wipeO e i)
  | .ret w e => .ret w (wipeO e i)
  | o => o
/-- the name of a clause is one of the def's -/
def asOk (env : Env) : Option Nat → Bool
  | none => true
  | some i => decide (i < env.length)
def catchL (sub : Subs) (c : Nat) (d : D) (env : Env) : List (Nat × Option Nat × HS) → Out
  | [] => .exc c d env
  | h :: hs => if sub c h.1 then (if asOk env h.2.1 then (h.2.2.run sub c d (wipeO env h.2.1)).wipe h.2.1 else .stuck) else catchL sub c d env hs
section
variable (F : Nat → List W → FRes) (sub : Subs) (fu : Nat) (ios : List Nat)
def retR (e : IE) (env : Env) : Res (Env × W) := match e with
  | .loc i => if ios.contains i then env.share i else (env.get i).bind fun w => .ok (env, w)
  | e => evX F e .val env
mutual
def evS : IS → Env → Out
  | .asg i e, env => Out.of (evX F e .val env) fun r => .next (r.1.set i (some r.2))
  | .asgT is e, env => Out.of (evX F e .val env) fun r => Out.of (Res.of ((unpackW r.2).bind fun ds => Env.putT is ds r.1)) fun e => .next e
  | .asg2 i j a b, env => Out.of (evX F a .val env) fun r => Out.of (evX F b .val r.1) fun q => .next ((q.1.set i (some r.2)).set j (some q.2))
  | .sidx j k e, env => Out.of (evX F e .val env) fun r => Out.of (r.1.get j) fun _ => Out.of (evX F k .val r.1) fun q => Out.of (q.1.get j) fun s => Out.of (Res.of (storeW s q.2 r.2)) fun w => .next (q.1.set j (some w))
  | .aug i o e, env => Out.of (env.get i) fun x => Out.of (evX F e .val env) fun r => Out.of (Res.of (x.toD.bind fun x => r.2.toD.bind fun y => match x, y with
      | .int i, .int j => (intOp o i j).map fun k => W.val (.int k)
      | _, _ => none)) fun w => .next (r.1.set i (some w))
  | .ex e, env => Out.of (evX F e .val env) fun r => .next r.1
  | .ret e, env => Out.of (retR F ios e env) fun r => .ret r.2 r.1
  | .retN, env => .ret (.val .none) env
  | .ifS c a b, env => Out.of (evT F c env) fun r => if r.2 then evSs a r.1 else evSs b r.1
  | .forS tg tup k its body, env => Out.of (evEs F its .val env) fun r => Out.of (Res.of (itemsOf k r.2)) fun ds =>
      forL (fun d e => Out.of (Res.of (e.target tg tup d)) fun e1 => evSs body e1) ds r.1
  | .whileS c body, env => whileL (fun e => evT F c e) (fun e => evSs body e) fu env
  | .raise c args, env => Out.of (evEs F args .val env) fun r => match r.2 with
    | [] => .exc c .none r.1
    | [w] => Out.of (Res.of w.toD) fun d => .exc c d r.1
    | _ => .stuck
  | .tryS body hs, env => match evSs body env with
    | .exc c d e => catchL sub c d e hs
    | o => o
  | .pass, env => .next env
  | .brk, env => .brk env
  | .cont, env => .cont env
def evSs : List IS → Env → Out
  | [], env => .next env
  | s :: ss, env => (evS s env).then fun e => evSs ss e
end
end
/-- a def: its parameters, its names (parameters first), the in-out parameters -/
structure FDef where
  np : Nat
  n : Nat
  ios : List Nat
  body : List IS
def outsOf (env : Env) : List Nat → Option (List W)
  | [] => some []
  | i :: is => match env[i]? with
    | some (some w) => (outsOf env is).map fun ws => w :: ws
    | _ => none
def FRes.of (w : W) : Option (List W) → FRes
  | some outs => .ret w outs
  | none => .stuck
def evF (F : Nat → List W → FRes) (sub : Subs) (fu : Nat) (d : FDef) (args : List W) : FRes :=
  if args.length = d.np then (match evSs F sub fu d.ios d.body (args.map some ++ List.replicate (d.n - d.np) none) with
    | .ret w env => FRes.of w (outsOf env d.ios)
    | .next env => FRes.of (.val .none) (outsOf env d.ios)
    | .exc c x _ => .exc c x
    | _ => .stuck) else .stuck
end TA

set_option Elab.async false
set_option linter.all false
set_option maxRecDepth 100000
namespace TA
open PySem
def S (x : String) : Str := Str.ofString x
def d_WORDS : D := .tuple [(.str (S "nothing")), (.str (S "first")), (.str (S "no")), (.str (S "if")), (.str (S "most")), (.str (S "again")), (.str (S "to")), (.str (S "items")), (.str (S "every")), (.str (S "while")), (.str (S "do")), (.str (S "call")), (.str (S "back")), (.str (S "out")), (.str (S "fall")), (.str (S "keep")), (.str (S "ask")), (.str (S "anew")), (.str (S "scan")), (.str (S "move")), (.str (S "tab")), (.str (S "find")), (.str (S "reach")), (.str (S "many")), (.str (S "match")), (.str (S "here")), (.str (S "put")), (.str (S "take")), (.str (S "size")), (.str (S "at")), (.str (S "place")), (.str (S "say")), (.str (S "is")), (.str (S "isnt")), (.str (S "list")), (.str (S "mod"))]
abbrev g_WORDS : IE := .gl 1 d_WORDS
def d_MOST_PARTS : D := .int (40)
abbrev g_MOST_PARTS : IE := .gl 11 d_MOST_PARTS
def d_MOST_DEEP : D := .int (12)
abbrev g_MOST_DEEP : IE := .gl 12 d_MOST_DEEP
def d_MOST_NAMES : D := .int (3)
abbrev g_MOST_NAMES : IE := .gl 13 d_MOST_NAMES
def d_MOST_ITEMS : D := .int (3)
abbrev g_MOST_ITEMS : IE := .gl 14 d_MOST_ITEMS
def ks_LENGTHS : List D := [.str (S "none"), .str (S "give"), .str (S "each"), .str (S "choice"), .str (S "when"), .str (S "last")]
def vs_LENGTHS : List D := [.int (1), .int (2), .int (4), .int (3), .int (3), .int (4)]
def ks_OPPOSITES : List D := [.str (S "alike"), .str (S "unlike")]
def vs_OPPOSITES : List D := [.str (S "unlike"), .str (S "alike")]
abbrev f_is_row : Nat := 0
abbrev f_is_name : Nat := 1
abbrev f_frozen : Nat := 2
abbrev f_is_whole : Nat := 3
abbrev f_is_atom : Nat := 4
abbrev f_is_item : Nat := 5
abbrev f_items_fault : Nat := 6
abbrev f_test_fault : Nat := 7
abbrev f_behind : Nat := 8
abbrev f_each_fault : Nat := 9
abbrev f_last_fault : Nat := 10
abbrev f_part_fault : Nat := 11
abbrev f_surveyed : Nat := 12
abbrev f_depth_of : Nat := 13
abbrev f_within_bounds : Nat := 14
abbrev f_open_fault : Nat := 15
abbrev f_opened : Nat := 16
abbrev f_is_path : Nat := 17
abbrev f_found_part : Nat := 18
abbrev f_open_part : Nat := 19
abbrev f_classes : Nat := 20
abbrev f_written_classes : Nat := 21
abbrev f_test_follows : Nat := 22
abbrev f_checked_test : Nat := 23
abbrev f_follows : Nat := 24
abbrev f_names_of : Nat := 25
abbrev f__law_draw : Nat := 26
abbrev f__law_some : Nat := 27
abbrev f__law_item : Nat := 28
abbrev f__law_test : Nat := 29
abbrev f__law_leaf : Nat := 30
abbrev f__law_open : Nat := 31
abbrev f__law_atom : Nat := 32
abbrev f__law_passes : Nat := 33
abbrev f__law_says : Nat := 34
abbrev f__law_parts : Nat := 35
abbrev f__law_nest : Nat := 36
abbrev f__law_asked : Nat := 37
abbrev f__law_pool : Nat := 38
abbrev f__law_always : Nat := 39
abbrev f__law_refused : Nat := 40
abbrev f__law_no_part : Nat := 41
abbrev f__law_refuses : Nat := 42
abbrev f__law_listed : Nat := 43
abbrev f_law : Nat := 44
def N_is_row : List Str := ["value"]
def ir_is_row : FDef := ⟨1, 1, [],
   [.ret (.blt (.isi .row) [.loc 0])]⟩
def N_is_name : List Str := ["value", "letter"]
def lb_is_name_0 : List IS := [.ifS (.not (.chn .le .le (.lit (.int (97))) (.blt .ord [.loc 1]) (.lit (.int (122))))) [.ret (.lit (.bool false))] []]
def ir_is_name : FDef := ⟨1, 2, [],
   [.ifS (.or (.not (.blt (.isi .str) [.loc 0])) (.not (.chn .le .le (.lit (.int (1))) (.blt .len [.loc 0]) (.lit (.int (8)))))) [.ret (.lit (.bool false))] [],
    .forS [1] false .seq [.loc 0] lb_is_name_0,
    .ret (.cmp .notin (.loc 0) (g_WORDS))]⟩
def N_frozen : List Str := ["value", "item"]
def ir_frozen : FDef := ⟨1, 2, [],
   [.ifS (.call f_is_row [.loc 0]) [.ret (.blt .tuple [.lc false (.call f_frozen [.loc 1]) [1] false .seq [.loc 0] (.lit (.bool true)) [1]])] [],
    .ret (.loc 0)]⟩
def N_is_whole : List Str := ["value"]
def ir_is_whole : FDef := ⟨1, 1, [],
   [.ret (.and (.blt (.isi .int) [.loc 0]) (.not (.blt (.isi .bool) [.loc 0])))]⟩
def N_is_atom : List Str := ["value", "sign"]
def lb_is_atom_0 : List IS := [.ifS (.or (.not (.chn .le .le (.lit (.int (32))) (.blt .ord [.loc 1]) (.lit (.int (126))))) (.cmp .eq (.blt .ord [.loc 1]) (.lit (.int (37))))) [.ret (.lit (.bool false))] []]
def ir_is_atom : FDef := ⟨1, 2, [],
   [.ifS (.call f_is_whole [.loc 0]) [.ret (.lit (.bool true))] [],
    .ifS (.or (.not (.blt (.isi .str) [.loc 0])) (.cmp .gt (.blt .len [.loc 0]) (.lit (.int (20))))) [.ret (.lit (.bool false))] [],
    .forS [1] false .seq [.loc 0] lb_is_atom_0,
    .ret (.lit (.bool true))]⟩
def N_is_item : List Str := ["value", "given"]
def ir_is_item : FDef := ⟨2, 2, [],
   [.ifS (.or (.not (.call f_is_row [.loc 0])) (.cmp .ne (.blt .len [.loc 0]) (.lit (.int (2))))) [.ret (.lit (.bool false))] [],
    .ifS (.cmp .eq (.idx (.loc 0) (.lit (.int (0)))) (.lit (.str (S "name")))) [.ret (.and (.call f_is_name [.idx (.loc 0) (.lit (.int (1)))]) (.cmp .isin (.idx (.loc 0) (.lit (.int (1)))) (.loc 1)))] [],
    .ret (.and (.cmp .eq (.idx (.loc 0) (.lit (.int (0)))) (.lit (.str (S "atom")))) (.call f_is_atom [.idx (.loc 0) (.lit (.int (1)))]))]⟩
def N_items_fault : List Str := ["items", "given", "at"]
def lb_items_fault_0 : List IS := [.ifS (.not (.call f_is_item [.idx (.loc 0) (.loc 2), .loc 1])) [.ret (.tup [.loc 2])] []]
def ir_items_fault : FDef := ⟨2, 3, [],
   [.ifS (.or (.not (.call f_is_row [.loc 0])) (.cmp .gt (.blt .len [.loc 0]) (g_MOST_ITEMS))) [.ret (.tup [])] [],
    .forS [2] false .rng1 [.blt .len [.loc 0]] lb_items_fault_0,
    .ret (.lit (.none))]⟩
def N_test_fault : List Str := ["test", "given", "at"]
def lb_test_fault_0 : List IS := [.ifS (.not (.call f_is_item [.idx (.loc 0) (.loc 2), .loc 1])) [.ret (.tup [.loc 2])] []]
def ir_test_fault : FDef := ⟨2, 3, [],
   [.ifS (.or (.not (.call f_is_row [.loc 0])) (.or (.cmp .ne (.blt .len [.loc 0]) (.lit (.int (3)))) (.or (.not (.blt (.isi .str) [.idx (.loc 0) (.lit (.int (0)))])) (.gin true 16 (ks_OPPOSITES) (.idx (.loc 0) (.lit (.int (0)))))))) [.ret (.tup [])] [],
    .forS [2] false .seq [.tup [.lit (.int (1)), .lit (.int (2))]] lb_test_fault_0,
    .ret (.lit (.none))]⟩
def N_behind : List Str := ["index", "fault"]
def ir_behind : FDef := ⟨2, 2, [],
   [.ifS (.cmp .isnone (.loc 1) (.lit .none)) [.ret (.lit (.none))] [],
    .ret (.bin .add (.tup [.loc 0]) (.loc 1))]⟩
def N_each_fault : List Str := ["part", "given"]
def ir_each_fault : FDef := ⟨2, 2, [],
   [.ifS (.or (.not (.call f_is_name [.idx (.loc 0) (.lit (.int (1)))])) (.cmp .isin (.idx (.loc 0) (.lit (.int (1)))) (.loc 1))) [.ret (.tup [.lit (.int (1))])] [],
    .ifS (.not (.call f_is_name [.idx (.loc 0) (.lit (.int (2)))])) [.ret (.tup [.lit (.int (2))])] [],
    .ret (.call f_behind [.lit (.int (3)), .call f_part_fault [.idx (.loc 0) (.lit (.int (3))), .bin .add (.loc 1) (.tup [.idx (.loc 0) (.lit (.int (1)))])]])]⟩
def N_last_fault : List Str := ["part", "given"]
def ir_last_fault : FDef := ⟨2, 2, [],
   [.ifS (.not (.call f_is_name [.idx (.loc 0) (.lit (.int (1)))])) [.ret (.tup [.lit (.int (1))])] [],
    .ifS (.not (.call f_is_item [.idx (.loc 0) (.lit (.int (2))), .loc 1])) [.ret (.tup [.lit (.int (2))])] [],
    .ret (.call f_behind [.lit (.int (3)), .call f_part_fault [.idx (.loc 0) (.lit (.int (3))), .loc 1]])]⟩
def N_part_fault : List Str := ["part", "given", "word", "fault"]
def ir_part_fault : FDef := ⟨2, 4, [],
   [.ifS (.or (.not (.call f_is_row [.loc 0])) (.or (.cmp .eq (.blt .len [.loc 0]) (.lit (.int (0)))) (.or (.not (.blt (.isi .str) [.idx (.loc 0) (.lit (.int (0)))])) (.gin true 15 (ks_LENGTHS) (.idx (.loc 0) (.lit (.int (0)))))))) [.ret (.tup [])] [],
    .asg 2 (.idx (.loc 0) (.lit (.int (0)))),
    .ifS (.cmp .ne (.blt .len [.loc 0]) (.gix 15 (ks_LENGTHS) (vs_LENGTHS) (.loc 2))) [.ret (.tup [])] [],
    .ifS (.cmp .eq (.loc 2) (.lit (.str (S "none")))) [.ret (.lit (.none))] [],
    .ifS (.cmp .eq (.loc 2) (.lit (.str (S "give")))) [.ret (.call f_behind [.lit (.int (1)), .call f_items_fault [.idx (.loc 0) (.lit (.int (1))), .loc 1]])] [],
    .ifS (.cmp .eq (.loc 2) (.lit (.str (S "each")))) [.ret (.call f_each_fault [.loc 0, .loc 1])] [],
    .ifS (.cmp .eq (.loc 2) (.lit (.str (S "last")))) [.ret (.call f_last_fault [.loc 0, .loc 1])] [],
    .ifS (.cmp .eq (.loc 2) (.lit (.str (S "when")))) [.asg 3 (.call f_behind [.lit (.int (1)), .call f_test_fault [.idx (.loc 0) (.lit (.int (1))), .loc 1]])] [.asg 3 (.call f_behind [.lit (.int (1)), .call f_part_fault [.idx (.loc 0) (.lit (.int (1))), .loc 1]])],
    .ifS (.cmp .notnone (.loc 3) (.lit .none)) [.ret (.loc 3)] [],
    .ret (.call f_behind [.lit (.int (2)), .call f_part_fault [.idx (.loc 0) (.lit (.int (2))), .loc 1]])]⟩
def N_surveyed : List Str := ["expression", "found", "waiting", "place", "part", "pairs", "tests", "word"]
def lb_surveyed_0 : List IS := [.asgT [3, 4, 5, 6] (.mth .pop0 2 []),
    .ex (.mth .append 1 [.tup [.loc 3, .loc 4, .loc 5, .loc 6]]),
    .asg 7 (.idx (.loc 4) (.lit (.int (0)))),
    .ifS (.cmp .eq (.loc 7) (.lit (.str (S "each")))) [.ex (.mth .append 2 [.tup [.bin .add (.loc 3) (.tup [.lit (.int (3))]), .idx (.loc 4) (.lit (.int (3))), .bin .add (.loc 5) (.tup [.tup [.idx (.loc 4) (.lit (.int (1))), .idx (.loc 4) (.lit (.int (2)))]]), .loc 6]])] [.ifS (.cmp .eq (.loc 7) (.lit (.str (S "last")))) [.ex (.mth .append 2 [.tup [.bin .add (.loc 3) (.tup [.lit (.int (3))]), .idx (.loc 4) (.lit (.int (3))), .loc 5, .loc 6]])] [.ifS (.cmp .eq (.loc 7) (.lit (.str (S "when")))) [.ex (.mth .append 2 [.tup [.bin .add (.loc 3) (.tup [.lit (.int (2))]), .idx (.loc 4) (.lit (.int (2))), .loc 5, .bin .add (.loc 6) (.tup [.idx (.loc 4) (.lit (.int (1)))])]])] [.ifS (.cmp .eq (.loc 7) (.lit (.str (S "choice")))) [.ex (.mth .append 2 [.tup [.bin .add (.loc 3) (.tup [.lit (.int (2))]), .idx (.loc 4) (.lit (.int (2))), .loc 5, .loc 6]]),
    .ex (.mth .append 2 [.tup [.bin .add (.loc 3) (.tup [.lit (.int (1))]), .idx (.loc 4) (.lit (.int (1))), .loc 5, .loc 6]])] []]]]]
def ir_surveyed : FDef := ⟨1, 8, [],
   [.asg 1 (.lst []),
    .asg 2 (.lst [.tup [.tup [], .loc 0, .tup [], .tup []]]),
    .whileS (.loc 2) lb_surveyed_0,
    .ret (.loc 1)]⟩
def N_depth_of : List Str := ["expression", "word"]
def ir_depth_of : FDef := ⟨1, 2, [],
   [.asg 1 (.idx (.loc 0) (.lit (.int (0)))),
    .ifS (.or (.cmp .eq (.loc 1) (.lit (.str (S "none")))) (.cmp .eq (.loc 1) (.lit (.str (S "give"))))) [.ret (.lit (.int (1)))] [],
    .ifS (.cmp .eq (.loc 1) (.lit (.str (S "choice")))) [.ret (.bin .add (.lit (.int (1))) (.blt .max2 [.call f_depth_of [.idx (.loc 0) (.lit (.int (1)))], .call f_depth_of [.idx (.loc 0) (.lit (.int (2)))]]))] [],
    .ret (.bin .add (.lit (.int (1))) (.call f_depth_of [.idx (.loc 0) (.bin .sub (.blt .len [.loc 0]) (.lit (.int (1))))]))]⟩
def N_within_bounds : List Str := ["expression", "found", "place", "part", "pairs", "tests", "rows", "kept"]
def ir_within_bounds : FDef := ⟨1, 8, [],
   [.ifS (.cmp .gt (.call f_depth_of [.loc 0]) (g_MOST_DEEP)) [.ret (.lit (.bool false))] [],
    .asg 1 (.call f_surveyed [.loc 0]),
    .ifS (.cmp .gt (.blt .len [.loc 1]) (g_MOST_PARTS)) [.ret (.lit (.bool false))] [],
    .ifS (.cmp .gt (.blt .max1 [.lc false (.blt .len [.loc 4]) [2, 3, 4, 5] true .seq [.loc 1] (.lit (.bool true)) [2, 3, 4, 5]]) (g_MOST_NAMES)) [.ret (.lit (.bool false))] [],
    .asg 6 (.lc true (.idx (.loc 3) (.lit (.int (2)))) [2, 3, 4, 5] true .seq [.loc 1] (.cmp .eq (.idx (.loc 3) (.lit (.int (0)))) (.lit (.str (S "each")))) [2, 3, 4, 5]),
    .asg 7 (.lc true (.idx (.loc 3) (.lit (.int (1)))) [2, 3, 4, 5] true .seq [.loc 1] (.cmp .eq (.idx (.loc 3) (.lit (.int (0)))) (.lit (.str (S "last")))) [2, 3, 4, 5]),
    .ret (.and (.cmp .le (.lens 6) (g_MOST_NAMES)) (.cmp .le (.lens 7) (g_MOST_NAMES)))]⟩
def N_open_fault : List Str := ["thing", "fault"]
def ir_open_fault : FDef := ⟨1, 2, [],
   [.asg 1 (.call f_part_fault [.loc 0, .tup []]),
    .ifS (.cmp .notnone (.loc 1) (.lit .none)) [.ret (.loc 1)] [],
    .ifS (.not (.call f_within_bounds [.loc 0])) [.ret (.tup [])] [],
    .ret (.lit (.none))]⟩
def N_opened : List Str := ["expression", "fault"]
def ir_opened : FDef := ⟨1, 2, [],
   [.asg 1 (.call f_open_fault [.loc 0]),
    .ifS (.cmp .notnone (.loc 1) (.lit .none)) [.raise 2 [.loc 1]] [],
    .ret (.call f_frozen [.loc 0])]⟩
def N_is_path : List Str := ["value", "index"]
def lb_is_path_0 : List IS := [.ifS (.not (.call f_is_whole [.loc 1])) [.ret (.lit (.bool false))] []]
def ir_is_path : FDef := ⟨1, 2, [],
   [.ifS (.not (.call f_is_row [.loc 0])) [.ret (.lit (.bool false))] [],
    .forS [1] false .seq [.loc 0] lb_is_path_0,
    .ret (.lit (.bool true))]⟩
def N_found_part : List Str := ["expression", "place", "spot"]
def lb_found_part_0 : List IS := [.ifS (.cmp .eq (.idx (.loc 2) (.lit (.int (0)))) (.blt .tuple [.loc 1])) [.ret (.loc 2)] []]
def ir_found_part : FDef := ⟨2, 3, [],
   [.ifS (.call f_is_path [.loc 1]) [.forS [2] false .seq [.call f_surveyed [.loc 0]] lb_found_part_0] [],
    .raise 1 [.loc 1]]⟩
def N_open_part : List Str := ["expression", "place"]
def ir_open_part : FDef := ⟨2, 2, [],
   [.ret (.idx (.call f_found_part [.call f_opened [.loc 0], .loc 1]) (.lit (.int (1))))]⟩
def N_classes : List Str := ["tests", "numbers", "test", "item", "old", "new"]
def lb_classes_0 : List IS := [.ifS (.cmp .notin (.loc 3) (.loc 1)) [.sidx 1 (.loc 3) (.blt .len [.loc 1])] []]
def lb_classes_1 : List IS := [.forS [3] false .seq [.slc (.loc 2) (.lit (.int (1))) (.no)] lb_classes_0]
def lb_classes_2 : List IS := [.ifS (.cmp .eq (.idx (.loc 1) (.loc 3)) (.loc 4)) [.sidx 1 (.loc 3) (.loc 5)] []]
def lb_classes_3 : List IS := [.ifS (.cmp .eq (.idx (.loc 2) (.lit (.int (0)))) (.lit (.str (S "alike")))) [.asg 4 (.idx (.loc 1) (.idx (.loc 2) (.lit (.int (1))))),
    .asg 5 (.idx (.loc 1) (.idx (.loc 2) (.lit (.int (2))))),
    .forS [3] false .seq [.blt .list [.loc 1]] lb_classes_2] []]
def ir_classes : FDef := ⟨1, 6, [],
   [.asg 1 (.dicE true),
    .forS [2] false .seq [.loc 0] lb_classes_1,
    .forS [2] false .seq [.loc 0] lb_classes_3,
    .ret (.loc 1)]⟩
def N_written_classes : List Str := ["numbers", "found", "item"]
def lb_written_classes_0 : List IS := [.ifS (.cmp .eq (.idx (.loc 2) (.lit (.int (0)))) (.lit (.str (S "atom")))) [.ifS (.cmp .isin (.idx (.loc 0) (.loc 2)) (.loc 1)) [.ret (.lit (.none))] [],
    .sidx 1 (.idx (.loc 0) (.loc 2)) (.idx (.loc 2) (.lit (.int (1))))] []]
def ir_written_classes : FDef := ⟨1, 3, [],
   [.asg 1 (.dicE false),
    .forS [2] false .seq [.loc 0] lb_written_classes_0,
    .ret (.loc 1)]⟩
def N_test_follows : List Str := ["tests", "test", "numbers", "known", "apart", "around", "pair", "one", "other"]
def lb_test_follows_0 : List IS := [.ifS (.cmp .eq (.idx (.loc 5) (.lit (.int (0)))) (.lit (.str (S "unlike")))) [.asg 6 (.blt .sorted [.lst [.idx (.loc 2) (.idx (.loc 5) (.lit (.int (1)))), .idx (.loc 2) (.idx (.loc 5) (.lit (.int (2))))]]),
    .ifS (.cmp .eq (.idx (.loc 6) (.lit (.int (0)))) (.idx (.loc 6) (.lit (.int (1))))) [.ret (.lit (.bool true))] [],
    .ex (.mth .append 4 [.loc 6])] []]
def ir_test_follows : FDef := ⟨2, 9, [],
   [.asg 2 (.call f_classes [.bin .add (.loc 0) (.tup [.tup [.lit (.str (S "unlike")), .idx (.loc 1) (.lit (.int (1))), .idx (.loc 1) (.lit (.int (2)))]])]),
    .asg 3 (.call f_written_classes [.loc 2]),
    .ifS (.cmp .isnone (.loc 3) (.lit .none)) [.ret (.lit (.bool true))] [],
    .asg 4 (.lst []),
    .forS [5] false .seq [.loc 0] lb_test_follows_0,
    .asg 7 (.idx (.loc 2) (.idx (.loc 1) (.lit (.int (1))))),
    .asg 8 (.idx (.loc 2) (.idx (.loc 1) (.lit (.int (2))))),
    .ifS (.cmp .eq (.idx (.loc 1) (.lit (.int (0)))) (.lit (.str (S "alike")))) [.ret (.cmp .eq (.loc 7) (.loc 8))] [],
    .ifS (.cmp .eq (.loc 7) (.loc 8)) [.ret (.lit (.bool false))] [],
    .ret (.or (.and (.cmp .isin (.loc 7) (.loc 3)) (.cmp .isin (.loc 8) (.loc 3))) (.cmp .isin (.blt .sorted [.lst [.loc 7, .loc 8]]) (.loc 4)))]⟩
def N_checked_test : List Str := ["test", "names"]
def ir_checked_test : FDef := ⟨2, 2, [],
   [.ifS (.cmp .notnone (.call f_test_fault [.loc 0, .loc 1]) (.lit .none)) [.raise 3 [.loc 0]] [],
    .ret (.call f_frozen [.loc 0])]⟩
def N_follows : List Str := ["expression", "place", "test", "spot"]
def ir_follows : FDef := ⟨3, 4, [],
   [.asg 3 (.call f_found_part [.call f_opened [.loc 0], .loc 1]),
    .ret (.call f_test_follows [.idx (.loc 3) (.lit (.int (3))), .call f_checked_test [.loc 2, .call f_names_of [.loc 3]]])]⟩
def N_names_of : List Str := ["spot", "pair"]
def ir_names_of : FDef := ⟨1, 2, [],
   [.ret (.blt .tuple [.lc false (.idx (.loc 1) (.lit (.int (0)))) [1] false .seq [.idx (.loc 0) (.lit (.int (2)))] (.lit (.bool true)) [1]])]⟩
def N__law_draw : List Str := ["script", "state", "many", "cell", "digit", "seed"]
def ir__law_draw : FDef := ⟨3, 6, [1],
   [.sidx 1 (.lit (.int (2))) (.bin .add (.idx (.loc 1) (.lit (.int (2)))) (.lit (.int (1)))),
    .ifS (.and (.cmp .eq (.idx (.loc 1) (.lit (.int (1)))) (.lit (.int (0)))) (.cmp .lt (.idx (.loc 1) (.lit (.int (0)))) (.blt .len [.loc 0]))) [.asg 3 (.idx (.loc 0) (.idx (.loc 1) (.lit (.int (0))))),
    .sidx 1 (.lit (.int (0))) (.bin .add (.idx (.loc 1) (.lit (.int (0)))) (.lit (.int (1)))),
    .ifS (.cmp .lt (.loc 3) (.lit (.int (0)))) [.asg 3 (.bin .sub (.bin .sub (.lit (.int (0))) (.lit (.int (1)))) (.bin .mul (.lit (.int (2))) (.loc 3)))] [],
    .ifS (.cmp .ge (.loc 3) (.bin .pow (.lit (.int (10))) (.lit (.int (18))))) [.sidx 1 (.lit (.int (1))) (.loc 3)] [.sidx 1 (.lit (.int (3))) (.bin .mod (.blt .int [.bin .add (.bin .add (.bin .mul (.idx (.loc 1) (.lit (.int (3)))) (.lit (.int (37)))) (.loc 3)) (.lit (.int (11)))]) (.lit (.int (1000000007))))]] [],
    .ifS (.cmp .gt (.idx (.loc 1) (.lit (.int (1)))) (.lit (.int (0)))) [.asg 4 (.bin .mod (.blt .int [.idx (.loc 1) (.lit (.int (1)))]) (.loc 2)),
    .sidx 1 (.lit (.int (1))) (.bin .fdiv (.blt .int [.idx (.loc 1) (.lit (.int (1)))]) (.loc 2)),
    .ret (.loc 4)] [],
    .asg 5 (.bin .mod (.blt .int [.bin .mul (.bin .add (.bin .add (.idx (.loc 1) (.lit (.int (3)))) (.bin .mul (.lit (.int (6151))) (.idx (.loc 1) (.lit (.int (2)))))) (.lit (.int (1)))) (.lit (.int (48271)))]) (.lit (.int (2147483647)))),
    .asg 5 (.bin .mod (.blt .int [.bin .mul (.loc 5) (.bin .add (.bin .fdiv (.loc 5) (.lit (.int (1009)))) (.lit (.int (69621))))]) (.lit (.int (2147483629)))),
    .asg 5 (.bin .mod (.blt .int [.bin .mul (.loc 5) (.bin .add (.bin .fdiv (.loc 5) (.lit (.int (2003)))) (.lit (.int (40692))))]) (.lit (.int (2147483399)))),
    .ret (.bin .mod (.blt .int [.bin .fdiv (.loc 5) (.lit (.int (16)))]) (.loc 2))]⟩
def N__law_some : List Str := ["script", "state", "things"]
def ir__law_some : FDef := ⟨3, 3, [1],
   [.ret (.idx (.loc 2) (.call f__law_draw [.loc 0, .io 1, .blt .len [.loc 2]]))]⟩
def N__law_item : List Str := ["script", "state", "given", "atoms"]
def ir__law_item : FDef := ⟨4, 4, [1],
   [.ifS (.and (.cmp .gt (.blt .len [.loc 2]) (.lit (.int (0)))) (.or (.cmp .eq (.blt .len [.loc 3]) (.lit (.int (0)))) (.cmp .gt (.call f__law_draw [.loc 0, .io 1, .lit (.int (4))]) (.lit (.int (0)))))) [.ret (.tup [.lit (.str (S "name")), .call f__law_some [.loc 0, .io 1, .loc 2]])] [],
    .ret (.tup [.lit (.str (S "atom")), .call f__law_some [.loc 0, .io 1, .loc 3]])]⟩
def N__law_test : List Str := ["script", "state", "given", "atoms", "word"]
def ir__law_test : FDef := ⟨4, 5, [1],
   [.asg 4 (.call f__law_some [.loc 0, .io 1, .lst [.lit (.str (S "alike")), .lit (.str (S "unlike"))]]),
    .ret (.tup [.loc 4, .call f__law_item [.loc 0, .io 1, .loc 2, .loc 3], .call f__law_item [.loc 0, .io 1, .loc 2, .loc 3]])]⟩
def N__law_leaf : List Str := ["script", "state", "given", "atoms", "many", "k"]
def ir__law_leaf : FDef := ⟨4, 6, [1],
   [.ifS (.cmp .eq (.call f__law_draw [.loc 0, .io 1, .lit (.int (8))]) (.lit (.int (0)))) [.ret (.tup [.lit (.str (S "none"))])] [],
    .asg 4 (.lit (.int (0))),
    .ifS (.cmp .gt (.bin .add (.blt .len [.loc 2]) (.blt .len [.loc 3])) (.lit (.int (0)))) [.asg 4 (.call f__law_draw [.loc 0, .io 1, .lit (.int (3))])] [],
    .ret (.tup [.lit (.str (S "give")), .blt .tuple [.lc false (.call f__law_item [.loc 0, .io 1, .loc 2, .loc 3]) [5] false .rng1 [.loc 4] (.lit (.bool true)) [5]]])]⟩
def N__law_open : List Str := ["script", "state", "given", "room", "cast", "kind", "left", "name", "can", "row", "part", "one", "item", "kept", "test"]
def ir__law_open : FDef := ⟨5, 15, [1],
   [.asg 5 (.call f__law_draw [.loc 0, .io 1, .lit (.int (10))]),
    .asg 6 (.lc false (.loc 7) [7] false .seq [.idx (.loc 4) (.lit (.int (0)))] (.cmp .notin (.loc 7) (.loc 2)) [7]),
    .asg 8 (.cmp .gt (.bin .add (.blt .len [.loc 2]) (.blt .len [.idx (.loc 4) (.lit (.int (2)))])) (.lit (.int (0)))),
    .ifS (.and (.cmp .gt (.loc 3) (.lit (.int (1)))) (.and (.cmp .gt (.blt .len [.loc 6]) (.lit (.int (0)))) (.and (.cmp .lt (.blt .len [.loc 2]) (.idx (.loc 4) (.lit (.int (3))))) (.or (.cmp .lt (.loc 5) (.lit (.int (4)))) (.and (.cmp .eq (.blt .len [.loc 2]) (.lit (.int (0)))) (.cmp .gt (.loc 5) (.lit (.int (5))))))))) [.asg 7 (.call f__law_some [.loc 0, .io 1, .loc 6]),
    .asg 9 (.call f__law_some [.loc 0, .io 1, .idx (.loc 4) (.lit (.int (1)))]),
    .ret (.tup [.lit (.str (S "each")), .loc 7, .loc 9, .call f__law_open [.loc 0, .io 1, .bin .add (.loc 2) (.lst [.loc 7]), .bin .sub (.loc 3) (.lit (.int (1))), .loc 4]])] [],
    .ifS (.and (.cmp .gt (.loc 3) (.lit (.int (2)))) (.or (.cmp .lt (.loc 5) (.lit (.int (2)))) (.or (.cmp .eq (.loc 5) (.lit (.int (4)))) (.cmp .eq (.loc 5) (.lit (.int (5))))))) [.asg 10 (.bin .add (.lit (.int (1))) (.call f__law_draw [.loc 0, .io 1, .bin .sub (.loc 3) (.lit (.int (2)))])),
    .asg 11 (.call f__law_open [.loc 0, .io 1, .loc 2, .loc 10, .loc 4]),
    .ret (.tup [.lit (.str (S "choice")), .loc 11, .call f__law_open [.loc 0, .io 1, .loc 2, .bin .sub (.bin .sub (.loc 3) (.lit (.int (1)))) (.loc 10), .loc 4]])] [],
    .ifS (.or (.cmp .lt (.loc 3) (.lit (.int (2)))) (.or (.cmp .eq (.loc 5) (.lit (.int (8)))) (.not (.loc 8)))) [.ret (.call f__law_leaf [.loc 0, .io 1, .loc 2, .idx (.loc 4) (.lit (.int (2)))])] [],
    .ifS (.and (.cmp .eq (.loc 5) (.lit (.int (9)))) (.cmp .gt (.blt .len [.idx (.loc 4) (.lit (.int (4)))]) (.lit (.int (0))))) [.asg 12 (.call f__law_item [.loc 0, .io 1, .loc 2, .idx (.loc 4) (.lit (.int (2)))]),
    .asg 13 (.call f__law_some [.loc 0, .io 1, .idx (.loc 4) (.lit (.int (4)))]),
    .ret (.tup [.lit (.str (S "last")), .loc 13, .loc 12, .call f__law_open [.loc 0, .io 1, .loc 2, .bin .sub (.loc 3) (.lit (.int (1))), .loc 4]])] [],
    .asg 14 (.call f__law_test [.loc 0, .io 1, .loc 2, .idx (.loc 4) (.lit (.int (2)))]),
    .ret (.tup [.lit (.str (S "when")), .loc 14, .call f__law_open [.loc 0, .io 1, .loc 2, .bin .sub (.loc 3) (.lit (.int (1))), .loc 4]])]⟩
def N__law_atom : List Str := ["item", "names"]
def ir__law_atom : FDef := ⟨2, 2, [],
   [.ifS (.cmp .eq (.idx (.loc 0) (.lit (.int (0)))) (.lit (.str (S "name")))) [.ret (.idx (.loc 1) (.idx (.loc 0) (.lit (.int (1)))))] [],
    .ret (.idx (.loc 0) (.lit (.int (1))))]⟩
def N__law_passes : List Str := ["test", "names"]
def ir__law_passes : FDef := ⟨2, 2, [],
   [.ret (.cmp .eq (.cmp .eq (.call f__law_atom [.idx (.loc 0) (.lit (.int (1))), .loc 1]) (.call f__law_atom [.idx (.loc 0) (.lit (.int (2))), .loc 1])) (.cmp .eq (.idx (.loc 0) (.lit (.int (0)))) (.lit (.str (S "alike")))))]⟩
def N__law_says : List Str := ["value", "due"]
def ir__law_says : FDef := ⟨2, 2, [],
   [.ret (.and (.blt (.isi .bool) [.loc 0]) (.cmp .eq (.loc 0) (.loc 1)))]⟩
def N__law_parts : List Str := ["part", "place", "given", "tests", "found"]
def ir__law_parts : FDef := ⟨4, 5, [],
   [.asg 4 (.lst [.tup [.loc 1, .loc 0, .loc 2, .loc 3]]),
    .ifS (.cmp .eq (.idx (.loc 0) (.lit (.int (0)))) (.lit (.str (S "each")))) [.ret (.bin .add (.loc 4) (.call f__law_parts [.idx (.loc 0) (.lit (.int (3))), .bin .add (.loc 1) (.tup [.lit (.int (3))]), .bin .add (.loc 2) (.lst [.tup [.idx (.loc 0) (.lit (.int (1))), .idx (.loc 0) (.lit (.int (2)))]]), .loc 3]))] [],
    .ifS (.cmp .eq (.idx (.loc 0) (.lit (.int (0)))) (.lit (.str (S "last")))) [.ret (.bin .add (.loc 4) (.call f__law_parts [.idx (.loc 0) (.lit (.int (3))), .bin .add (.loc 1) (.tup [.lit (.int (3))]), .loc 2, .loc 3]))] [],
    .ifS (.cmp .eq (.idx (.loc 0) (.lit (.int (0)))) (.lit (.str (S "when")))) [.ret (.bin .add (.loc 4) (.call f__law_parts [.idx (.loc 0) (.lit (.int (2))), .bin .add (.loc 1) (.tup [.lit (.int (2))]), .loc 2, .bin .add (.loc 3) (.lst [.idx (.loc 0) (.lit (.int (1)))])]))] [],
    .ifS (.cmp .eq (.idx (.loc 0) (.lit (.int (0)))) (.lit (.str (S "choice")))) [.ex (.mth .extend 4 [.call f__law_parts [.idx (.loc 0) (.lit (.int (1))), .bin .add (.loc 1) (.tup [.lit (.int (1))]), .loc 2, .loc 3]]),
    .ex (.mth .extend 4 [.call f__law_parts [.idx (.loc 0) (.lit (.int (2))), .bin .add (.loc 1) (.tup [.lit (.int (2))]), .loc 2, .loc 3]])] [],
    .ret (.loc 4)]⟩
def N__law_nest : List Str := ["script", "state", "cast", "many", "part", "k", "test"]
def lb__law_nest_0 : List IS := [.asg 6 (.call f__law_test [.loc 0, .io 1, .slc (.idx (.loc 2) (.lit (.int (0)))) (.no) (.loc 3), .idx (.loc 2) (.lit (.int (2)))]),
    .ifS (.cmp .eq (.loc 5) (.lit (.int (3)))) [.asg 4 (.tup [.lit (.str (S "choice")), .tup [.lit (.str (S "none"))], .loc 4])] [],
    .asg 4 (.tup [.lit (.str (S "when")), .loc 6, .loc 4])]
def lb__law_nest_1 : List IS := [.asg 4 (.tup [.lit (.str (S "each")), .idx (.idx (.loc 2) (.lit (.int (0)))) (.bin .sub (.bin .sub (.loc 3) (.lit (.int (1)))) (.loc 5)), .call f__law_some [.loc 0, .io 1, .idx (.loc 2) (.lit (.int (1)))], .loc 4])]
def ir__law_nest : FDef := ⟨3, 7, [1],
   [.asg 3 (.bin .add (.lit (.int (1))) (.call f__law_draw [.loc 0, .io 1, .lit (.int (3))])),
    .asg 4 (.call f__law_leaf [.loc 0, .io 1, .slc (.idx (.loc 2) (.lit (.int (0)))) (.no) (.loc 3), .idx (.loc 2) (.lit (.int (2)))]),
    .forS [5] false .rng1 [.call f__law_draw [.loc 0, .io 1, .lit (.int (7))]] lb__law_nest_0,
    .forS [5] false .rng1 [.loc 3] lb__law_nest_1,
    .ret (.loc 4)]⟩
def N__law_asked : List Str := ["script", "state", "spot", "atoms", "given", "pair", "turn", "word", "one", "other", "name"]
def ir__law_asked : FDef := ⟨4, 11, [1],
   [.asg 4 (.lc false (.idx (.loc 5) (.lit (.int (0)))) [5] false .seq [.idx (.loc 2) (.lit (.int (2)))] (.lit (.bool true)) [5]),
    .asg 6 (.call f__law_draw [.loc 0, .io 1, .lit (.int (6))]),
    .ifS (.and (.cmp .lt (.loc 6) (.lit (.int (2)))) (.cmp .ne (.idx (.loc 2) (.lit (.int (3)))) (.lst []))) [.asgT [7, 8, 9] (.call f__law_some [.loc 0, .io 1, .idx (.loc 2) (.lit (.int (3)))]),
    .ifS (.cmp .eq (.loc 6) (.lit (.int (0)))) [.ret (.tup [.loc 7, .loc 9, .loc 8])] [],
    .ret (.lst [.idx (.dicL [(S "alike"), (S "unlike")] [(S "unlike"), (S "alike")]) (.loc 7), .blt .list [.loc 9], .loc 8])] [],
    .ifS (.and (.cmp .eq (.loc 6) (.lit (.int (2)))) (.cmp .ne (.loc 4) (.lst []))) [.asg 10 (.tup [.lit (.str (S "name")), .call f__law_some [.loc 0, .io 1, .loc 4]]),
    .ret (.tup [.lit (.str (S "alike")), .loc 10, .loc 10])] [],
    .ret (.call f__law_test [.loc 0, .io 1, .loc 4, .loc 3])]⟩
def N__law_pool : List Str := ["tests", "many", "found", "word", "one", "other", "item", "others", "number"]
def lb__law_pool_0 : List IS := [.ifS (.and (.cmp .eq (.idx (.loc 6) (.lit (.int (0)))) (.lit (.str (S "atom")))) (.cmp .notin (.idx (.loc 6) (.lit (.int (1)))) (.loc 2))) [.ex (.mth .append 2 [.idx (.loc 6) (.lit (.int (1)))])] []]
def lb__law_pool_1 : List IS := [.forS [6] false .seq [.lst [.loc 4, .loc 5]] lb__law_pool_0]
def ir__law_pool : FDef := ⟨2, 9, [],
   [.asg 2 (.lst []),
    .forS [3, 4, 5] true .seq [.loc 0] lb__law_pool_1,
    .asg 7 (.lc false (.loc 8) [8] false .rng2 [.lit (.int (900)), .lit (.int (920))] (.cmp .notin (.loc 8) (.loc 2)) [8]),
    .ret (.bin .add (.loc 2) (.slc (.loc 7) (.no) (.loc 1)))]⟩
def N__law_always : List Str := ["given", "tests", "test", "pool", "found", "name", "longer", "names", "atom", "more", "one"]
def lb__law_always_0 : List IS := [.asg 9 (.blt .dict [.loc 7]),
    .sidx 9 (.loc 5) (.loc 8),
    .ex (.mth .append 6 [.loc 9])]
def lb__law_always_1 : List IS := [.forS [8] false .seq [.loc 3] lb__law_always_0]
def lb__law_always_2 : List IS := [.asg 6 (.lst []),
    .forS [7] false .seq [.loc 4] lb__law_always_1,
    .asg 4 (.loc 6)]
def lb__law_always_3 : List IS := [.ifS (.and (.not (.call f__law_passes [.loc 2, .loc 7])) (.cmp .eq (.lc false (.loc 10) [10] false .seq [.loc 1] (.not (.call f__law_passes [.loc 10, .loc 7])) [10]) (.lst []))) [.ret (.lit (.bool false))] []]
def ir__law_always : FDef := ⟨3, 11, [],
   [.asg 3 (.call f__law_pool [.bin .add (.loc 1) (.lst [.loc 2]), .blt .len [.loc 0]]),
    .asg 4 (.lst [.dicE false]),
    .forS [5] false .seq [.loc 0] lb__law_always_2,
    .forS [7] false .seq [.loc 4] lb__law_always_3,
    .ret (.lit (.bool true))]⟩
def N__law_refused : List Str := ["expression", "place", "test", "told", "e"]
def ir__law_refused : FDef := ⟨3, 5, [],
   [.asg 3 (.tup [.lit (.str (S "told"))]),
    .tryS [.ex (.call f_follows [.loc 0, .loc 1, .loc 2])] [(2, some 4, .setT 3 [.lit (.str (S "open")), .fld]), (1, some 4, .setT 3 [.lit (.str (S "place")), .fld]), (3, some 4, .setT 3 [.lit (.str (S "test")), .fld])],
    .ret (.loc 3)]⟩
def N__law_no_part : List Str := ["expression", "place", "told", "e"]
def ir__law_no_part : FDef := ⟨2, 4, [],
   [.asg 2 (.tup [.lit (.str (S "told"))]),
    .tryS [.ex (.call f_open_part [.loc 0, .loc 1])] [(1, some 3, .setT 2 [.lit (.str (S "place")), .fld])],
    .ret (.loc 2)]⟩
def N__law_refuses : List Str := ["script", "state", "expression", "spot", "outside", "name", "pair", "strange", "five", "some", "bad", "many", "place", "due", "wrong"]
def ir__law_refuses : FDef := ⟨4, 15, [1],
   [.asg 4 (.lc false (.loc 5) [5] false .seq [.lst [.lit (.str (S "x")), .lit (.str (S "y")), .lit (.str (S "z")), .lit (.str (S "q"))]] (.cmp .notin (.loc 5) (.lc false (.idx (.loc 6) (.lit (.int (0)))) [6] false .seq [.idx (.loc 3) (.lit (.int (2)))] (.lit (.bool true)) [6])) [5]),
    .asg 7 (.tup [.lit (.str (S "name")), .call f__law_some [.loc 0, .io 1, .loc 4]]),
    .asg 8 (.tup [.lit (.str (S "atom")), .lit (.int (5))]),
    .asg 9 (.lst [.tup [.lit (.str (S "alike")), .loc 8, .loc 7], .tup [.lit (.str (S "unlike")), .loc 7, .loc 8], .tup [.lit (.str (S "alike")), .loc 8], .tup [.lit (.str (S "same")), .loc 8, .loc 8], .lit (.none), .lit (.str (S "alike")), .dicE false]),
    .asg 9 (.bin .add (.loc 9) (.lst [.tup [.lit (.str (S "alike")), .loc 8, .tup [.lit (.str (S "atom")), .lit (.bool true)]], .tup [.lit (.str (S "alike")), .loc 8, .loc 8, .loc 8], .lst [.lit (.str (S "unlike")), .tup [.lit (.str (S "atom")), .bin .mul (.lit (.str (S "a"))) (.lit (.int (21)))], .loc 8], .tup []])),
    .asg 10 (.call f__law_some [.loc 0, .io 1, .loc 9]),
    .ifS (.cmp .ne (.call f__law_refused [.loc 2, .idx (.loc 3) (.lit (.int (0))), .loc 10]) (.tup [.lit (.str (S "test")), .loc 10])) [.ret (.lit (.bool false))] [],
    .asg 11 (.blt .len [.idx (.loc 3) (.lit (.int (1)))]),
    .asg 12 (.call f__law_some [.loc 0, .io 1, .lst [.bin .add (.idx (.loc 3) (.lit (.int (0)))) (.tup [.lit (.int (0))]), .bin .add (.idx (.loc 3) (.lit (.int (0)))) (.tup [.loc 11]), .bin .add (.idx (.loc 3) (.lit (.int (0)))) (.tup [.neg (.lit (.int (1)))]), .lit (.none), .lit (.str (S "x")), .lit (.int (0)), .tup [.lit (.none)], .tup [.lit (.bool true)], .dicE false]]),
    .asg 13 (.tup [.lit (.str (S "place")), .loc 12]),
    .ifS (.or (.cmp .ne (.call f__law_no_part [.loc 2, .loc 12]) (.loc 13)) (.cmp .ne (.call f__law_refused [.loc 2, .loc 12, .loc 10]) (.loc 13))) [.ret (.lit (.bool false))] [],
    .asg 14 (.tup [.lit (.str (S "choice")), .loc 2, .tup [.lit (.str (S "give")), .tup [.loc 7]]]),
    .ifS (.cmp .ne (.call f__law_refused [.loc 14, .loc 12, .loc 10]) (.tup [.lit (.str (S "open")), .tup [.lit (.int (2)), .lit (.int (1)), .lit (.int (0))]])) [.ret (.lit (.bool false))] [],
    .ret (.cmp .eq (.call f__law_refused [.loc 2, .idx (.loc 3) (.lit (.int (0))), .tup [.lit (.str (S "alike")), .loc 8, .loc 8]]) (.tup [.lit (.str (S "told"))]))]⟩
def N__law_listed : List Str := ["script", "state", "thing", "row", "one"]
def ir__law_listed : FDef := ⟨3, 5, [1],
   [.ifS (.not (.blt (.isi .tuple) [.loc 2])) [.ret (.loc 2)] [],
    .asg 3 (.lc false (.call f__law_listed [.loc 0, .io 1, .loc 4]) [4] false .seq [.loc 2] (.lit (.bool true)) [4]),
    .ifS (.cmp .eq (.call f__law_draw [.loc 0, .io 1, .lit (.int (2))]) (.lit (.int (0)))) [.ret (.loc 3)] [],
    .ret (.blt .tuple [.loc 3])]⟩
def N_law : List Str := ["script", "state", "number", "atoms", "cast", "expression", "spots", "turn", "spot", "test", "due", "pair", "place", "listed"]
def lb_law_0 : List IS := [.asg 8 (.call f__law_some [.loc 0, .io 1, .bin .add (.slc (.loc 6) (.neg (.lit (.int (3)))) (.no)) (.loc 6)]),
    .asg 9 (.call f__law_asked [.loc 0, .io 1, .loc 8, .bin .add (.loc 3) (.lst [.lit (.int (77)), .lit (.str (S "77"))])]),
    .asg 10 (.call f__law_always [.lc false (.idx (.loc 11) (.lit (.int (0)))) [11] false .seq [.idx (.loc 8) (.lit (.int (2)))] (.lit (.bool true)) [11], .idx (.loc 8) (.lit (.int (3))), .loc 9]),
    .asg 12 (.idx (.loc 8) (.lit (.int (0)))),
    .ifS (.cmp .eq (.loc 7) (.lit (.int (3)))) [.asg 12 (.blt .list [.loc 12])] [],
    .asg 13 (.call f__law_listed [.loc 0, .io 1, .loc 5]),
    .ifS (.not (.call f__law_says [.callk f_follows [2, 1, 0] [.loc 9, .loc 12, .loc 13], .loc 10])) [.ret (.lit (.bool false))] []]
def ir_law : FDef := ⟨1, 14, [],
   [.asg 1 (.lst [.lit (.int (0)), .lit (.int (0)), .lit (.int (0)), .lit (.int (0))]),
    .asg 2 (.bin .add (.call f__law_draw [.loc 0, .io 1, .bin .pow (.lit (.int (10))) (.lit (.int (15)))]) (.lit (.int (2000)))),
    .asg 3 (.call f__law_some [.loc 0, .io 1, .lst [.lst [.loc 2], .lst [.lit (.str (S "1")), .lit (.int (1))], .lst [.loc 2, .lit (.str (S "b")), .lit (.str (S ""))], .lst [.lit (.int (0)), .neg (.loc 2)]]]),
    .asg 4 (.lst [.lst [.lit (.str (S "x")), .lit (.str (S "y")), .lit (.str (S "z"))], .lst [.lit (.str (S "r")), .lit (.str (S "s")), .lit (.str (S "t"))], .loc 3, .lit (.int (3)), .lst [.lit (.str (S "v"))]]),
    .asg 5 (.call f__law_open [.loc 0, .io 1, .lst [], .bin .add (.lit (.int (1))) (.call f__law_draw [.loc 0, .io 1, .lit (.int (11))]), .loc 4]),
    .ifS (.cmp .gt (.call f__law_draw [.loc 0, .io 1, .lit (.int (3))]) (.lit (.int (0)))) [.asg 5 (.call f__law_nest [.loc 0, .io 1, .loc 4])] [],
    .asg 6 (.call f__law_parts [.loc 5, .tup [], .lst [], .lst []]),
    .forS [7] false .rng1 [.lit (.int (4))] lb_law_0,
    .ret (.call f__law_refuses [.loc 0, .io 1, .loc 5, .call f__law_some [.loc 0, .io 1, .loc 6]])]⟩
end TA

set_option Elab.async false
set_option linter.all false
set_option maxRecDepth 100000
/-! TaRep: how working values lie in the abstract heap; what a piece of a run may turn. -/
namespace TA
open PySem PySem.Spec PyProof.Rows L2

/-- it stands so; a tuple just so -/
def Ex (u : HO) : Prop := (∃ vs, u = .tup vs) ∨ ∃ o v, u = .frz o v
def Rt (H : Hp) (a : Addr) (u : HO) : Prop := Rd H a u ∧ (Ex u → H a = some u)
/-- frozen, or a tuple -/
abbrev Fx (Fz : Addr → Prop) (a : Addr) (u : HO) : Prop := Fz a ∨ ∃ vs, u = .tup vs
theorem Rt.of {H : Hp} {a : Addr} {u : HO} (h : H a = some u) : Rt H a u := ⟨.of h, fun _ => h⟩
def kD : Key → D
  | .inl i => .int i
  | .inr x => .str x
def kDs (ks : List Key) : D := .tuple (ks.map kD)
/-- a list, a tuple that may be handed on: tracked and frozen, or of the written part -/
def FqL (K : PySem.W.Frag) (H : Hp) (Fz : Addr → Prop) (a : Addr) (vs : List V) : Prop :=
  (Rt H a (.lst vs) ∧ Fz a) ∨ ∃ (o : Obj) (its : Array Value) (n : Nat), K.lookup a = some o ∧ o.cls = .type "list" ∧ o.dict = none ∧ o.data = .seq its n ∧ its.size ≤ sizeLine ∧ Vals vs its.toList
def FqT (K : PySem.W.Frag) (H : Hp) (Fz : Addr → Prop) (a : Addr) (vs : List V) : Prop :=
  Rt H a (.tup vs) ∨ ∃ (o : Obj) (its : Array Value) (n : Nat), K.lookup a = some o ∧ o.cls = .type "tuple" ∧ o.data = .seq its n ∧ its.size ≤ sizeLine ∧ Vals vs its.toList ∧ 4 ≤ vs.length
mutual
inductive RepD (K : PySem.W.Frag) (H : Hp) (Fz : Addr → Prop) : V → D → Prop
  | non : RepD K H Fz .non .none
  | bl (b : Bool) : RepD K H Fz (.bl b) (.bool b)
  | int (i : Int) : RepD K H Fz (.int i) (.int i)
  | str (x : Str) : RepD K H Fz (.str x) (.str x)
  | lst {a : Addr} {vs : List V} {ds : List D} : FqL K H Fz a vs → RepDs K H Fz vs ds → RepD K H Fz (.ref a) (.list ds)
  | tup {a : Addr} {vs : List V} {ds : List D} : FqT K H Fz a vs → RepDs K H Fz vs ds → RepD K H Fz (.ref a) (.tuple ds)
  | dK {a : Addr} {ks : List Key} {vs : List V} {ds : List D} : Rt H a (.dK (ks.zip vs)) → Fz a → ks.length = vs.length → RepDs K H Fz vs ds → RepD K H Fz (.ref a) (.dict ((ks.map kD).zip ds))
  | dT {a : Addr} {ks : List (List Key)} {vs : List V} {ds : List D} : Rt H a (.dT (ks.zip vs)) → Fz a → ks.length = vs.length → RepDs K H Fz vs ds → RepD K H Fz (.ref a) (.dict ((ks.map kDs).zip ds))
inductive RepDs (K : PySem.W.Frag) (H : Hp) (Fz : Addr → Prop) : List V → List D → Prop
  | nil : RepDs K H Fz [] []
  | cons {v : V} {vs : List V} {d : D} {ds : List D} : RepD K H Fz v d → RepDs K H Fz vs ds → RepDs K H Fz (v :: vs) (d :: ds)
end
mutual
inductive RepW (K : PySem.W.Frag) (H : Hp) (Fz : Addr → Prop) : V → W → List Addr → Prop
  | val {v : V} {d : D} : RepD K H Fz v d → RepW K H Fz v (.val d) []
  | lst {a : Addr} {vs : List V} {ws : List W} {T : List Addr} : H a = some (.lst vs) → RepWs K H Fz vs ws T → RepW K H Fz (.ref a) (.lst ws) (a :: T)
  | dK {a : Addr} {ks : List Key} {vs : List V} {ws : List W} {T : List Addr} : H a = some (.dK (ks.zip vs)) → ks.length = vs.length → RepWs K H Fz vs ws T → RepW K H Fz (.ref a) (.dic (ks.map kD) ws) (a :: T)
  | dT {a : Addr} {ks : List (List Key)} {vs : List V} {ws : List W} {T : List Addr} : H a = some (.dT (ks.zip vs)) → ks.length = vs.length → RepWs K H Fz vs ws T → RepW K H Fz (.ref a) (.dic (ks.map kDs) ws) (a :: T)
  | set {a : Addr} {P : Program} {w : World} {S : Key → Bool} {ds : List D} : H a = some (SetK P w a S ds.length) → RepW K H Fz (.ref a) (.set ds) [a]
inductive RepWs (K : PySem.W.Frag) (H : Hp) (Fz : Addr → Prop) : List V → List W → List Addr → Prop
  | nil : RepWs K H Fz [] [] []
  | cons {v : V} {vs : List V} {w : W} {ws : List W} {T U : List Addr} : RepW K H Fz v w T → RepWs K H Fz vs ws U → RepWs K H Fz (v :: vs) (w :: ws) (T ++ U)
end
/-- .. each with its own addresses -/
inductive RepWl (K : PySem.W.Frag) (H : Hp) (Fz : Addr → Prop) : List V → List W → List (List Addr) → Prop
  | nil : RepWl K H Fz [] [] []
  | cons {v : V} {vs : List V} {w : W} {ws : List W} {T : List Addr} {Ts : List (List Addr)} : RepW K H Fz v w T → RepWl K H Fz vs ws Ts → RepWl K H Fz (v :: vs) (w :: ws) (T :: Ts)
/-! ### plain facts -/
section
variable {K : PySem.W.Frag} {H H' : Hp} {Fz Fz' : Addr → Prop}
theorem FqL.sq {a : Addr} {vs : List V} (h : FqL K H Fz a vs) : SqL K H a vs := h.imp (fun x => x.1.1) id
theorem FqT.sq {a : Addr} {vs : List V} (h : FqT K H Fz a vs) : SqT K H a vs := h.imp (fun x => x.1) fun ⟨o, its, n, a, b, c, d, e, _⟩ => ⟨o, its, n, a, b, c, d, e⟩
theorem RepDs.len : ∀ {vs : List V} {ds : List D}, RepDs K H Fz vs ds → vs.length = ds.length
  | _, _, .nil => rfl
  | _, _, .cons _ r => congrArg (· + 1) r.len
theorem RepDs.get : ∀ {vs : List V} {ds : List D}, RepDs K H Fz vs ds → ∀ {i : Nat} {d : D}, ds[i]? = some d → ∃ v, vs[i]? = some v ∧ RepD K H Fz v d
  | _, _, .nil, _, _, h => by simp at h
  | _, _, .cons r _, 0, _, h => by simp at h; subst h; exact ⟨_, rfl, r⟩
  | _, _, .cons _ r, i + 1, _, h => by
    obtain ⟨v, e, q⟩ := r.get (i := i) (by simpa using h)
    exact ⟨v, by simpa using e, q⟩
theorem RepDs.getV : ∀ {vs : List V} {ds : List D}, RepDs K H Fz vs ds → ∀ {i : Nat} {v : V}, vs[i]? = some v → ∃ d, ds[i]? = some d ∧ RepD K H Fz v d
  | _, _, .nil, _, _, h => by simp at h
  | _, _, .cons r _, 0, _, h => by simp at h; subst h; exact ⟨_, rfl, r⟩
  | _, _, .cons _ r, i + 1, _, h => by
    obtain ⟨v, e, q⟩ := r.getV (i := i) (by simpa using h)
    exact ⟨v, by simpa using e, q⟩
theorem RepDs.app : ∀ {vs us : List V} {ds es : List D}, RepDs K H Fz vs ds → RepDs K H Fz us es → RepDs K H Fz (vs ++ us) (ds ++ es)
  | _, _, _, _, .nil, s => s
  | _, _, _, _, .cons r t, s => .cons r (t.app s)
theorem RepDs.take : ∀ {vs : List V} {ds : List D} (n : Nat), RepDs K H Fz vs ds → RepDs K H Fz (vs.take n) (ds.take n)
  | _, _, 0, _ => .nil
  | _, _, _ + 1, .nil => .nil
  | _, _, n + 1, .cons r t => .cons r (t.take n)
theorem RepDs.drop : ∀ {vs : List V} {ds : List D} (n : Nat), RepDs K H Fz vs ds → RepDs K H Fz (vs.drop n) (ds.drop n)
  | _, _, 0, r => r
  | _, _, _ + 1, .nil => .nil
  | _, _, n + 1, .cons _ t => t.drop n
theorem RepWs.len : ∀ {vs : List V} {ws : List W} {T : List Addr}, RepWs K H Fz vs ws T → vs.length = ws.length
  | _, _, _, .nil => rfl
  | _, _, _, .cons _ r => congrArg (· + 1) r.len
theorem RepWs.app : ∀ {vs us : List V} {ws xs : List W} {T U : List Addr}, RepWs K H Fz vs ws T → RepWs K H Fz us xs U → RepWs K H Fz (vs ++ us) (ws ++ xs) (T ++ U)
  | _, _, _, _, _, _, .nil, s => s
  | _, _, _, _, _, _, .cons r t, s => by
    rw [List.append_assoc]
    exact .cons r (t.app s)
theorem RepWs.one {v : V} {w : W} {T : List Addr} (h : RepW K H Fz v w T) : RepWs K H Fz [v] [w] T := by
  have := RepWs.cons h RepWs.nil
  rwa [List.append_nil] at this
/-- frozen items, as working values -/
theorem RepDs.ws : ∀ {vs : List V} {ds : List D}, RepDs K H Fz vs ds → RepWs K H Fz vs (ds.map W.val) []
  | _, _, .nil => .nil
  | _, _, .cons r t => .cons (T := []) (.val r) t.ws
theorem toDs_val : ∀ ds : List D, W.toDs (ds.map W.val) = some ds
  | [] => rfl
  | d :: ds => by
    rw [List.map_cons, W.toDs, toDs_val ds]
    rfl
/-! ### what a piece of a run may turn -/
/-- S i: what the i-th place owns -/
abbrev Own := Nat → List Addr
structure Grow (H : Hp) (Fz : Addr → Prop) (S : Own) (H' : Hp) (Fz' : Addr → Prop) (S' : Own) : Prop where
  keep : ∀ a o, H a = some o → (∀ i, a ∉ S i) → ¬ Fz a → H' a = some o
  rd : ∀ a u, Fx Fz a u → Rt H a u → Rt H' a u
  fz : ∀ a, Fz a → Fz' a
  new : ∀ a, Fz' a → Fz a ∨ H a = none ∨ ∃ i, a ∈ S i
  own : ∀ i a, a ∈ S' i → a ∈ S i ∨ H a = none
  there : ∀ a, H a ≠ none → H' a ≠ none
/-- .. and turns nothing that stood -/
def Calm (H : Hp) (H' : Hp) : Prop := ∀ a u, Rt H a u → Rt H' a u
structure Well (H : Hp) (Fz : Addr → Prop) (S : Own) : Prop where
  fz : ∀ a, Fz a → H a ≠ none
  own : ∀ i a, a ∈ S i → H a ≠ none ∧ ¬ Fz a
  dis : ∀ i j a, a ∈ S i → a ∈ S j → i = j
  nod : ∀ i, (S i).Nodup
structure Rel (K : PySem.W.Frag) (H : Hp) (Fz : Addr → Prop) (S : Own) (σ : L2.St) (env : Env) : Prop where
  well : Well H Fz S
  len : env.length = σ.length
  rep : ∀ i w, env[i]? = some (some w) → ∃ v, σ[i]? = some (some v) ∧ RepW K H Fz v w (S i)
theorem Grow.refl (H : Hp) (Fz : Addr → Prop) (S : Own) : Grow H Fz S H Fz S :=
  ⟨fun _ _ e _ _ => e, fun _ _ _ e => e, fun _ e => e, fun _ e => .inl e, fun _ _ e => .inl e, fun _ e => e⟩
theorem Grow.trans {H1 H2 : Hp} {F1 F2 : Addr → Prop} {S S1 S2 : Own} (g : Grow H Fz S H1 F1 S1) (h : Grow H1 F1 S1 H2 F2 S2) : Grow H Fz S H2 F2 S2 where
  keep := fun a o e n f => by
    have e1 := g.keep a o e n f
    refine h.keep a o e1 (fun i q => ?_) (fun q => ?_)
    · rcases g.own i a q with q | q
      · exact n i q
      · rw [q] at e; cases e
    · rcases g.new a q with q | q | ⟨i, q⟩
      · exact f q
      · rw [q] at e; cases e
      · exact n i q
  rd := fun a u f e => h.rd a u (f.imp (g.fz a) id) (g.rd a u f e)
  fz := fun a f => h.fz a (g.fz a f)
  new := fun a f => by
    rcases h.new a f with f | f | ⟨i, f⟩
    · exact g.new a f
    · refine .inr (.inl ?_)
      cases e : H a with
      | none => rfl
      | some o => exact absurd f (g.there a (by rw [e]; simp))
    · rcases g.own i a f with q | q
      · exact .inr (.inr ⟨i, q⟩)
      · exact .inr (.inl q)
  own := fun i a q => by
    rcases h.own i a q with q | q
    · exact g.own i a q
    · refine .inr ?_
      cases e : H a with
      | none => rfl
      | some o => exact absurd q (g.there a (by rw [e]; simp))
  there := fun a e => h.there a (g.there a e)
theorem FqL.mono {a : Addr} {vs : List V} (h : FqL K H Fz a vs) (f : ∀ a, Fz a → Fz' a) (r : ∀ a u, Fx Fz a u → Rt H a u → Rt H' a u) : FqL K H' Fz' a vs :=
  h.imp (fun x => ⟨r _ _ (.inl x.2) x.1, f _ x.2⟩) id
theorem FqT.mono {a : Addr} {vs : List V} (h : FqT K H Fz a vs) (f : ∀ a, Fz a → Fz' a) (r : ∀ a u, Fx Fz a u → Rt H a u → Rt H' a u) : FqT K H' Fz' a vs :=
  h.imp (fun x => r _ _ (.inr ⟨_, rfl⟩) x) id
mutual
theorem RepD.mono (f : ∀ a, Fz a → Fz' a) (r : ∀ a u, Fx Fz a u → Rt H a u → Rt H' a u) : ∀ {v : V} {d : D}, RepD K H Fz v d → RepD K H' Fz' v d
  | _, _, .non => .non
  | _, _, .bl b => .bl b
  | _, _, .int i => .int i
  | _, _, .str x => .str x
  | _, _, .lst q s => .lst (q.mono f r) (RepDs.mono f r s)
  | _, _, .tup q s => .tup (q.mono f r) (RepDs.mono f r s)
  | _, _, .dK q z l s => .dK (r _ _ (.inl z) q) (f _ z) l (RepDs.mono f r s)
  | _, _, .dT q z l s => .dT (r _ _ (.inl z) q) (f _ z) l (RepDs.mono f r s)
theorem RepDs.mono (f : ∀ a, Fz a → Fz' a) (r : ∀ a u, Fx Fz a u → Rt H a u → Rt H' a u) : ∀ {vs : List V} {ds : List D}, RepDs K H Fz vs ds → RepDs K H' Fz' vs ds
  | _, _, .nil => .nil
  | _, _, .cons q s => .cons (RepD.mono f r q) (RepDs.mono f r s)
end
mutual
/-- a working value stands as long as its own objects do -/
theorem RepW.mono (f : ∀ a, Fz a → Fz' a) (r : ∀ a u, Fx Fz a u → Rt H a u → Rt H' a u) : ∀ {v : V} {w : W} {T : List Addr}, RepW K H Fz v w T → (∀ a ∈ T, ∀ o, H a = some o → H' a = some o) → RepW K H' Fz' v w T
  | _, _, _, .val q, _ => .val (q.mono f r)
  | _, _, _, .lst q s, k => .lst (k _ (List.mem_cons_self ..) _ q) (RepWs.mono f r s fun a h => k a (List.mem_cons_of_mem _ h))
  | _, _, _, .dK q l s, k => .dK (k _ (List.mem_cons_self ..) _ q) l (RepWs.mono f r s fun a h => k a (List.mem_cons_of_mem _ h))
  | _, _, _, .dT q l s, k => .dT (k _ (List.mem_cons_self ..) _ q) l (RepWs.mono f r s fun a h => k a (List.mem_cons_of_mem _ h))
  | _, _, _, .set q, k => .set (k _ (List.mem_cons_self ..) _ q)
theorem RepWs.mono (f : ∀ a, Fz a → Fz' a) (r : ∀ a u, Fx Fz a u → Rt H a u → Rt H' a u) : ∀ {vs : List V} {ws : List W} {T : List Addr}, RepWs K H Fz vs ws T → (∀ a ∈ T, ∀ o, H a = some o → H' a = some o) → RepWs K H' Fz' vs ws T
  | _, _, _, .nil, _ => .nil
  | _, _, _, .cons q s, k => .cons (RepW.mono f r q fun a h => k a (List.mem_append_left _ h)) (RepWs.mono f r s fun a h => k a (List.mem_append_right _ h))
end
/-! its own objects stand -/
mutual
theorem RepW.there : ∀ {v : V} {w : W} {T : List Addr}, RepW K H Fz v w T → ∀ a ∈ T, H a ≠ none
  | _, _, _, .val _, _, h => nomatch h
  | _, _, _, .lst q s, a, h => by
    rcases List.mem_cons.mp h with rfl | h
    · rw [q]; simp
    · exact RepWs.there s a h
  | _, _, _, .dK q _ s, a, h => by
    rcases List.mem_cons.mp h with rfl | h
    · rw [q]; simp
    · exact RepWs.there s a h
  | _, _, _, .dT q _ s, a, h => by
    rcases List.mem_cons.mp h with rfl | h
    · rw [q]; simp
    · exact RepWs.there s a h
  | _, _, _, .set q, a, h => by
    obtain rfl := List.mem_singleton.mp h
    rw [q]; simp
theorem RepWs.there : ∀ {vs : List V} {ws : List W} {T : List Addr}, RepWs K H Fz vs ws T → ∀ a ∈ T, H a ≠ none
  | _, _, _, .nil, _, h => nomatch h
  | _, _, _, .cons q s, a, h => by
    rcases List.mem_append.mp h with h | h
    · exact RepW.there q a h
    · exact RepWs.there s a h
end
mutual
/-- frozen: what a value holds may be handed on where its own objects count as frozen -/
theorem RepW.freeze (f : ∀ a, Fz a → Fz' a) : ∀ {v : V} {w : W} {T : List Addr} {d : D}, RepW K H Fz v w T → w.toD = some d → (∀ a ∈ T, Fz' a) → RepD K H Fz' v d
  | _, _, _, d, .val q, e, _ => by
    rw [W.toD] at e
    cases e
    exact q.mono f fun _ _ _ r => r
  | _, _, _, d, .lst (ws := ws) q s, e, k => by
    rw [W.toD] at e
    cases e1 : W.toDs ws with
    | none => rw [e1] at e; cases e
    | some ds =>
      rw [e1] at e
      cases e
      exact .lst (.inl ⟨.of q, k _ (List.mem_cons_self ..)⟩) (RepWs.freeze f s e1 fun a h => k a (List.mem_cons_of_mem _ h))
  | _, _, _, d, .dK (ws := ws) q l s, e, k => by
    rw [W.toD] at e
    cases e1 : W.toDs ws with
    | none => rw [e1] at e; cases e
    | some ds =>
      rw [e1] at e
      cases e
      exact .dK (.of q) (k _ (List.mem_cons_self ..)) l (RepWs.freeze f s e1 fun a h => k a (List.mem_cons_of_mem _ h))
  | _, _, _, d, .dT (ws := ws) q l s, e, k => by
    rw [W.toD] at e
    cases e1 : W.toDs ws with
    | none => rw [e1] at e; cases e
    | some ds =>
      rw [e1] at e
      cases e
      exact .dT (.of q) (k _ (List.mem_cons_self ..)) l (RepWs.freeze f s e1 fun a h => k a (List.mem_cons_of_mem _ h))
  | _, _, _, d, .set q, e, _ => by
    rw [W.toD] at e
    cases e
theorem RepWs.freeze (f : ∀ a, Fz a → Fz' a) : ∀ {vs : List V} {ws : List W} {T : List Addr} {ds : List D}, RepWs K H Fz vs ws T → W.toDs ws = some ds → (∀ a ∈ T, Fz' a) → RepDs K H Fz' vs ds
  | _, _, _, ds, .nil, e, _ => by
    rw [W.toDs] at e
    cases e
    exact .nil
  | _, _, _, ds, .cons (w := w) (ws := ws) q s, e, k => by
    rw [W.toDs] at e
    cases e1 : W.toD w with
    | none => rw [e1] at e; cases e
    | some d =>
      rw [e1] at e
      cases e2 : W.toDs ws with
      | none => rw [e2] at e; cases e
      | some ds =>
        rw [e2] at e
        cases e
        exact .cons (RepW.freeze f q e1 fun a h => k a (List.mem_append_left _ h)) (RepWs.freeze f s e2 fun a h => k a (List.mem_append_right _ h))
end
end
end TA

set_option Elab.async false
set_option linter.all false
set_option maxRecDepth 100000
/-! TaSnd1: what it means that an expression's run follows the evaluator; values, names, displays, operators. -/
namespace TA
open PySem PySem.Spec PyProof.Rows L2

/-- the classes of errors: where they stand, their one field -/
structure Tb where
  CA : Nat → Addr
  AT : Nat → Str
def ExcAt (B : Tb) (K : PySem.W.Frag) (H : Hp) (Fz : Addr → Prop) (c : Nat) (d : D) (cls : Value) (od : Option Addr) : Prop :=
  cls = .ref (B.CA c) ∧ ∃ (dx : Addr) (v : V), od = some dx ∧ H dx = some (.xd [(B.AT c, v)]) ∧ RepD K H Fz v d
def Fresh (H0 H : Hp) (Fz : Addr → Prop) (S : Own) (T : List Addr) : Prop := T.Nodup ∧ ∀ a ∈ T, H0 a = none ∧ ¬ Fz a ∧ ∀ i, a ∉ S i
/-- its items may be handed on -/
inductive RepF (K : PySem.W.Frag) (H : Hp) (Fz : Addr → Prop) : V → D → Prop
  | sc {v : V} {d : D} : RepD K H Fz v d → RepF K H Fz v d
  | lst {a : Addr} {vs : List V} {ds : List D} : Rt H a (.lst vs) → RepDs K H Fz vs ds → RepF K H Fz (.ref a) (.list ds)
  | dK {a : Addr} {ks : List Key} {vs : List V} {ds : List D} : Rt H a (.dK (ks.zip vs)) → ks.length = vs.length → RepDs K H Fz vs ds → RepF K H Fz (.ref a) (.dict ((ks.map kD).zip ds))
  | dT {a : Addr} {ks : List (List Key)} {vs : List V} {ds : List D} : Rt H a (.dT (ks.zip vs)) → ks.length = vs.length → RepDs K H Fz vs ds → RepF K H Fz (.ref a) (.dict ((ks.map kDs).zip ds))
/-- looked at: some objects of it count as frozen for the while -/
def RepP (K : PySem.W.Frag) (H : Hp) (Fz : Addr → Prop) (v : V) (d : D) : Prop := ∃ U : Addr → Prop, RepD K H (fun a => Fz a ∨ U a) v d
def RepM (K : PySem.W.Frag) (H0 H : Hp) (Fz : Addr → Prop) (S : Own) : Md → V → W → Prop
  | .flat, v, w => ∃ d, w = .val d ∧ RepF K H Fz v d
  | .peek, v, w => ∃ d, w = .val d ∧ RepP K H Fz v d
  | _, v, w => ∃ T, RepW K H Fz v w T ∧ Fresh H0 H Fz S T
/-- what is wanted behind an expression, by the evaluator's answer; H, Fz, S: ahead of it -/
def PX (B : Tb) (K : PySem.W.Frag) (H : Hp) (Fz : Addr → Prop) (S : Own) (σ : L2.St) (m : Md) (q : Bool) (Q : VK) (Wx : WX) : Res (Env × W) → Prop
  | .stuck => False
  | .ok r => ∀ v H' Fz' S', Rel K H' Fz' S' σ r.1 → Grow H Fz S H' Fz' S' → (q = true → Calm H H') → RepM K H H' Fz' S' m v r.2 → Q v H'
  | .exc c d e => ∀ H' Fz' S' cls od, Rel K H' Fz' S' σ e → Grow H Fz S H' Fz' S' → ExcAt B K H' Fz' c d cls od → Wx cls od σ H'
def tX (B : Tb) (K : PySem.W.Frag) (F : Nat → List W → FRes) (Wx : WX) (ir : IE) (m : Md) : TE := fun σ H Q =>
  ∃ Fz S env, Rel K H Fz S σ env ∧ PX B K H Fz S σ m (IE.quiet ir) Q Wx (evX F ir m env)
/-- the expression's run follows the evaluator, in each mode -/
def SE (X : Cx) (B : Tb) (F : Nat → List W → FRes) (Wx : WX) (e : Expr) (ir : IE) : Prop := ∀ m, m ≠ .test → PE X e (tX B X.K F Wx ir m)

section
variable {X : Cx} {B : Tb} {K : PySem.W.Frag} {F : Nat → List W → FRes} {Wx : WX} {H H' H0 : Hp} {Fz Fz' : Addr → Prop} {S S' : Own} {σ : L2.St} {m : Md} {q q' : Bool} {Q Q' : VK} {env : Env}
theorem Calm.refl (H : Hp) : Calm H H := fun _ _ r => r
theorem Calm.trans {H1 H2 : Hp} (a : Calm H H1) (b : Calm H1 H2) : Calm H H2 := fun x u r => b x u (a x u r)
theorem PE.imp {e : Expr} {t t' : TE} (h : PE X e t) (i : ∀ σ H Q, t' σ H Q → t σ H Q) : PE X e t' := ⟨fun pins s σ H Q I x => h.run pins s σ H Q I (i σ H Q x)⟩
theorem FqL.imp {a : Addr} {vs : List V} (h : FqL K H Fz a vs) (f : ∀ a, Fz a → Fz' a) : FqL K H Fz' a vs := h.mono f fun _ _ _ r => r
theorem RepD.up (h : ∀ a, Fz a → Fz' a) {v : V} {d : D} (r : RepD K H Fz v d) : RepD K H Fz' v d := r.mono h fun _ _ _ r => r
theorem RepDs.up (h : ∀ a, Fz a → Fz' a) {vs : List V} {ds : List D} (r : RepDs K H Fz vs ds) : RepDs K H Fz' vs ds := r.mono h fun _ _ _ r => r
theorem RepD.p {v : V} {d : D} (r : RepD K H Fz v d) : RepP K H Fz v d := ⟨fun _ => False, r.up fun _ f => .inl f⟩
theorem RepF.p {v : V} {d : D} : RepF K H Fz v d → RepP K H Fz v d
  | .sc r => r.p
  | .lst (a := a) q r => ⟨fun b => b = a, .lst (.inl ⟨q, .inr rfl⟩) (r.up fun _ f => .inl f)⟩
  | .dK (a := a) q l r => ⟨fun b => b = a, .dK q (.inr rfl) l (r.up fun _ f => .inl f)⟩
  | .dT (a := a) q l r => ⟨fun b => b = a, .dT q (.inr rfl) l (r.up fun _ f => .inl f)⟩
/-- what is looked at stays so while nothing turns -/
theorem RepP.calm {v : V} {d : D} (r : RepP K H Fz v d) (f : ∀ a, Fz a → Fz' a) (c : Calm H H') : RepP K H' Fz' v d := by
  obtain ⟨U, r⟩ := r
  exact ⟨U, r.mono (fun a h => h.imp (f a) id) fun a u _ => c a u⟩
theorem RepF.calm {v : V} {d : D} (r : RepF K H Fz v d) (f : ∀ a, Fz a → Fz' a) (c : Calm H H') : RepF K H' Fz' v d := by
  cases r with
  | sc r => exact .sc (r.mono f fun a u _ => c a u)
  | lst q r => exact .lst (c _ _ q) (r.mono f fun a u _ => c a u)
  | dK q l r => exact .dK (c _ _ q) l (r.mono f fun a u _ => c a u)
  | dT q l r => exact .dT (c _ _ q) l (r.mono f fun a u _ => c a u)
/-- a frozen value stays -/
theorem RepD.grow {v : V} {d : D} (r : RepD K H Fz v d) (g : Grow H Fz S H' Fz' S') : RepD K H' Fz' v d := r.mono g.fz fun a u f => g.rd a u f
theorem RepDs.grow {vs : List V} {ds : List D} (r : RepDs K H Fz vs ds) (g : Grow H Fz S H' Fz' S') : RepDs K H' Fz' vs ds := r.mono g.fz fun a u f => g.rd a u f
/-- what nobody owned and was new stays, and stays new -/
theorem RepW.grow {v : V} {w : W} {T : List Addr} (r : RepW K H Fz v w T) (g : Grow H Fz S H' Fz' S') (fr : Fresh H0 H Fz S T) : RepW K H' Fz' v w T :=
  r.mono g.fz (fun a u f => g.rd a u f) fun a h o e => g.keep a o e (fr.2 a h).2.2 (fr.2 a h).2.1
theorem Fresh.grow {T : List Addr} (fr : Fresh H0 H Fz S T) (th : ∀ a ∈ T, H a ≠ none) (g : Grow H Fz S H' Fz' S') : Fresh H0 H' Fz' S' T := by
  refine ⟨fr.1, fun a h => ⟨(fr.2 a h).1, fun f => ?_, fun i q => ?_⟩⟩
  · rcases g.new a f with f | f | ⟨i, f⟩
    · exact (fr.2 a h).2.1 f
    · exact th a h f
    · exact (fr.2 a h).2.2 i f
  · rcases g.own i a q with q | q
    · exact (fr.2 a h).2.2 i q
    · exact th a h q
theorem Fresh.nil : Fresh H0 H Fz S [] := ⟨List.nodup_nil, fun _ h => nomatch h⟩
theorem Fresh.back {H1 : Hp} {T : List Addr} (fr : Fresh H1 H Fz S T) (th : ∀ a, H0 a ≠ none → H1 a ≠ none) : Fresh H0 H Fz S T := by
  refine ⟨fr.1, fun a h => ⟨?_, (fr.2 a h).2⟩⟩
  cases e : H0 a with
  | none => rfl
  | some o => exact absurd (fr.2 a h).1 (th a (by rw [e]; simp))
/-! ### the relation -/
def setO (S : Own) (i : Nat) (T : List Addr) : Own := fun j => if j = i then T else S j
theorem setO_same {i : Nat} {T : List Addr} : setO S i T i = T := if_pos rfl
theorem setO_ne {i j : Nat} {T : List Addr} (h : j ≠ i) : setO S i T j = S j := if_neg h
theorem Rel.set (R : Rel K H Fz S σ env) {i : Nat} {v : V} {w : W} {T : List Addr} (hi : σ[i]? = some (some v)) (r : RepW K H Fz v w T) (nd : T.Nodup) (nf : ∀ a ∈ T, ¬ Fz a) (dj : ∀ a ∈ T, ∀ j, j ≠ i → a ∉ S j) :
    Rel K H Fz (setO S i T) σ (env.set i (some w)) where
  well := by
    refine ⟨R.well.fz, fun j a h => ?_, fun j k a h1 h2 => ?_, fun j => ?_⟩
    · by_cases e : j = i
      · subst e
        rw [setO_same] at h
        exact ⟨r.there a h, nf a h⟩
      · rw [setO_ne e] at h
        exact R.well.own j a h
    · by_cases e1 : j = i <;> by_cases e2 : k = i
      · omega
      · subst e1
        rw [setO_same] at h1
        rw [setO_ne e2] at h2
        exact absurd h2 (dj a h1 k e2)
      · subst e2
        rw [setO_same] at h2
        rw [setO_ne e1] at h1
        exact absurd h1 (dj a h2 j e1)
      · rw [setO_ne e1] at h1
        rw [setO_ne e2] at h2
        exact R.well.dis j k a h1 h2
    · by_cases e : j = i
      · subst e
        rw [setO_same]
        exact nd
      · rw [setO_ne e]
        exact R.well.nod j
  len := by rw [List.length_set]; exact R.len
  rep := fun j w' h => by
    by_cases e : j = i
    · subst e
      rw [setO_same]
      have lt : j < env.length := by rw [R.len]; exact (List.getElem?_eq_some_iff.mp hi).1
      rw [List.getElem?_set_self lt] at h
      cases h
      exact ⟨v, hi, r⟩
    · rw [setO_ne e]
      rw [List.getElem?_set_ne (Ne.symm e)] at h
      exact R.rep j w' h
/-- a place is forgotten -/
theorem Rel.unset (R : Rel K H Fz S σ env) (i : Nat) : Rel K H Fz S σ (env.set i none) where
  well := R.well
  len := by rw [List.length_set]; exact R.len
  rep := fun j w' h => by
    by_cases e : j = i
    · subst e
      rw [List.getElem?_set] at h
      split at h
      · split at h <;> cases h
      · exact absurd rfl ‹_›
    · rw [List.getElem?_set_ne (Ne.symm e)] at h
      exact R.rep j w' h
/-- more is tracked, more is frozen; what the places own stands -/
theorem Rel.more (R : Rel K H Fz S σ env) (g : Grow H Fz S H' Fz' S) (w : Well H' Fz' S) (k : ∀ i a, a ∈ S i → ∀ o, H a = some o → H' a = some o) : Rel K H' Fz' S σ env where
  well := w
  len := R.len
  rep := fun j w' h => by
    obtain ⟨v, e, r⟩ := R.rep j w' h
    exact ⟨v, e, r.mono g.fz (fun a u f => g.rd a u f) fun a h o => k j a h o⟩
theorem upd_ne' {a p : Addr} {o u : HO} (h : H p = none) (e : H a = some o) : upd H p u a = some o := by rw [upd_ne (ne_of_none e h)]; exact e
/-- a new object, which nobody owns as yet -/
theorem Rel.new (R : Rel K H Fz S σ env) {p : Addr} (o : HO) (h : H p = none) : Rel K (upd H p o) Fz S σ env ∧ Grow H Fz S (upd H p o) Fz S ∧ Calm H (upd H p o) := by
  have k : ∀ a u, H a = some u → upd H p o a = some u := fun a u e => upd_ne' h e
  have th : ∀ a, H a ≠ none → upd H p o a ≠ none := fun a e => by
    cases e' : H a with
    | none => exact absurd e' e
    | some u => rw [k a u e']; simp
  have cl : Calm H (upd H p o) := fun a u r => ⟨r.1.imp (k a u) fun ⟨ob, e⟩ => ⟨ob, k a _ e⟩, fun e => k a _ (r.2 e)⟩
  have g : Grow H Fz S (upd H p o) Fz S := ⟨fun a u e _ _ => k a u e, fun a u _ r => cl a u r, fun _ f => f, fun _ f => .inl f, fun _ _ q => .inl q, th⟩
  exact ⟨R.more g ⟨fun a f => th a (R.well.fz a f), fun i a q => ⟨th a (R.well.own i a q).1, (R.well.own i a q).2⟩, R.well.dis, R.well.nod⟩ fun i a _ u => k a u, g, cl⟩
/-- some new objects become frozen -/
theorem Rel.frozen (R : Rel K H Fz S σ env) (T : Addr → Prop) (hT : ∀ a, T a → H a ≠ none ∧ ∀ i, a ∉ S i) : Rel K H (fun a => Fz a ∨ T a) S σ env where
  well := ⟨fun a f => f.elim (R.well.fz a) fun t => (hT a t).1, fun i a q => ⟨(R.well.own i a q).1, fun f => f.elim (R.well.own i a q).2 fun t => (hT a t).2 i q⟩, R.well.dis, R.well.nod⟩
  len := R.len
  rep := fun j w' h => by
    obtain ⟨v, e, r⟩ := R.rep j w' h
    exact ⟨v, e, r.mono (fun _ f => .inl f) (fun _ _ _ r => r) fun _ _ _ e => e⟩
/-- behind a piece of a run, new objects of it are frozen -/
theorem Grow.frozen (g : Grow H Fz S H' Fz' S') (T : Addr → Prop) (hT : ∀ a, T a → H a = none ∨ ∃ i, a ∈ S i) : Grow H Fz S H' (fun a => Fz' a ∨ T a) S' :=
  ⟨g.keep, g.rd, fun a f => .inl (g.fz a f), fun a f => f.elim (g.new a) fun t => .inr (hT a t), g.own, g.there⟩
/-! ### answers -/
theorem PX.mono {r : Res (Env × W)} (h : PX B K H Fz S σ m q Q Wx r) (i : ∀ v H', Q v H' → Q' v H') : PX B K H Fz S σ m q Q' Wx r := by
  cases r with
  | stuck => exact h
  | ok r => exact fun v H' Fz' S' a b c d => i v H' (h v H' Fz' S' a b c d)
  | exc c d e => exact h
end
end TA

set_option Elab.async false
set_option linter.all false
set_option maxRecDepth 100000
/-! TaSnd2: values, names, displays, operators. -/
namespace TA
open PySem PySem.Spec PyProof.Rows L2

/-- no star -/
def NoStar (e : Expr) : Prop := ∀ (es : List Expr) (env : PySem.Env), starEach (e :: es) env = (false, eval e env) :: starEach es env
structure SEx (X : Cx) (B : Tb) (F : Nat → List W → FRes) (Wx : WX) (e : Expr) (ir : IE) : Prop where
  se : SE X B F Wx e ir
  ns : NoStar e
/-- by the answer in the mode 'val' -/
def tCo (B : Tb) (K : PySem.W.Frag) (Wx : WX) (q : Bool) (core : Env → Res (Env × W)) : TE := fun σ H Q =>
  ∃ Fz S env, Rel K H Fz S σ env ∧ PX B K H Fz S σ .val q Q Wx (core env)
def RepVs (K : PySem.W.Frag) (H0 H : Hp) (Fz : Addr → Prop) (S : Own) (vs : List V) (ws : List W) : Prop := ∃ T, RepWs K H Fz vs ws T ∧ Fresh H0 H Fz S T
def PVs (B : Tb) (K : PySem.W.Frag) (H : Hp) (Fz : Addr → Prop) (S : Own) (σ : L2.St) (q : Bool) (Q : List V → Hp → Prop) (Wx : WX) : Res (Env × List W) → Prop
  | .stuck => False
  | .ok r => ∀ vs H' Fz' S', Rel K H' Fz' S' σ r.1 → Grow H Fz S H' Fz' S' → (q = true → Calm H H') → RepVs K H H' Fz' S' vs r.2 → Q vs H'
  | .exc c d e => ∀ H' Fz' S' cls od, Rel K H' Fz' S' σ e → Grow H Fz S H' Fz' S' → ExcAt B K H' Fz' c d cls od → Wx cls od σ H'
def tVs (B : Tb) (K : PySem.W.Frag) (F : Nat → List W → FRes) (Wx : WX) (irs : List IE) : TA := fun σ H Q =>
  ∃ Fz S env, Rel K H Fz S σ env ∧ PVs B K H Fz S σ (IE.quiets irs) Q Wx (evEs F irs .val env)

section
variable {X : Cx} {B : Tb} {K : PySem.W.Frag} {F : Nat → List W → FRes} {Wx : WX} {H H' H0 H1 : Hp} {Fz Fz' Fz1 Fz0 : Addr → Prop} {S S' S1 S0 : Own} {σ : L2.St} {m : Md} {q q' : Bool} {Q Q' : VK} {env : Env}
theorem valsW_val : ∀ {ws : List W} {ds : List D}, valsW ws = some ds → ws = ds.map W.val
  | [], ds, h => by rw [valsW] at h; cases h; rfl
  | .val d :: ws, ds, h => by
    rw [valsW] at h
    cases e : valsW ws with
    | none => rw [e] at h; cases h
    | some es =>
      rw [e] at h
      cases h
      rw [valsW_val e]
      rfl
  | .lst _ :: _, _, h => by rw [valsW] at h <;> first | cases h | (intros; contradiction)
  | .dic _ _ :: _, _, h => by rw [valsW] at h <;> first | cases h | (intros; contradiction)
  | .set _ :: _, _, h => by rw [valsW] at h <;> first | cases h | (intros; contradiction)
theorem RepWs.vals : ∀ {vs : List V} {ds : List D} {T : List Addr}, RepWs K H Fz vs (ds.map W.val) T → RepDs K H Fz vs ds ∧ T = []
  | _, [], _, h => by cases h; exact ⟨.nil, rfl⟩
  | _, d :: ds, _, h => by
    cases h with
    | cons a b =>
      cases a with
      | val a =>
        obtain ⟨r, e⟩ := b.vals
        exact ⟨.cons a r, by rw [e]; rfl⟩
theorem RepW.flat {v : V} {w : W} {T : List Addr} {d : D} (r : RepW K H Fz v w T) (e : w.flat = some d) : RepF K H Fz v d := by
  cases r with
  | val r => cases e; exact .sc r
  | lst h r =>
    rename_i ws _
    rw [W.flat] at e
    cases e1 : valsW ws with
    | none => rw [e1] at e; cases e
    | some ds =>
      rw [e1] at e
      cases e
      rw [valsW_val e1] at r
      exact .lst (.of h) r.vals.1
  | dK h l r =>
    rename_i ws _
    rw [W.flat] at e
    cases e1 : valsW ws with
    | none => rw [e1] at e; cases e
    | some ds =>
      rw [e1] at e
      cases e
      rw [valsW_val e1] at r
      exact .dK (.of h) l r.vals.1
  | dT h l r =>
    rename_i ws _
    rw [W.flat] at e
    cases e1 : valsW ws with
    | none => rw [e1] at e; cases e
    | some ds =>
      rw [e1] at e
      cases e
      rw [valsW_val e1] at r
      exact .dT (.of h) l r.vals.1
  | set h =>
    rw [W.flat] at e
    cases e
theorem RepW.peek {v : V} {w : W} {T : List Addr} {d : D} (r : RepW K H Fz v w T) (e : w.toD = some d) : RepP K H Fz v d := ⟨fun a => a ∈ T, r.freeze (fun _ f => .inl f) e fun _ h => .inr h⟩
/-- an answer as it is wanted -/
theorem PX.fin {r : Res (Env × W)} (hm : m ≠ .test) (h : PX B K H Fz S σ m q Q Wx (m.fin r)) : PX B K H Fz S σ .val q Q Wx r := by
  cases m with
  | val => exact h
  | test => exact absurd rfl hm
  | flat =>
    cases r with
    | stuck => exact h
    | exc c d e => exact h
    | ok r =>
      obtain ⟨e, w⟩ := r
      cases z : w.flat with
      | none =>
        simp only [Md.fin, Res.map, Res.bind, z, Option.map_none, Res.of] at h
        exact False.elim h
      | some d =>
        simp only [Md.fin, Res.map, Res.bind, z, Option.map_some, Res.of] at h
        intro v H' Fz' S' a b c ⟨T, rw, fr⟩
        exact h v H' Fz' S' a b c ⟨d, rfl, rw.flat z⟩
  | peek =>
    cases r with
    | stuck => exact h
    | exc c d e => exact h
    | ok r =>
      obtain ⟨e, w⟩ := r
      cases z : w.toD with
      | none =>
        simp only [Md.fin, Res.map, Res.bind, z, Option.map_none, Res.of] at h
        exact False.elim h
      | some d =>
        simp only [Md.fin, Res.map, Res.bind, z, Option.map_some, Res.of] at h
        intro v H' Fz' S' a b c ⟨T, rw, fr⟩
        exact h v H' Fz' S' a b c ⟨d, rfl, rw.peek z⟩
theorem SE.core {e : Expr} {ir : IE} {core : Env → Res (Env × W)} (h : PE X e (tCo B X.K Wx (IE.quiet ir) core)) (hev : ∀ m env, m ≠ .test → evX F ir m env = m.fin (core env)) : SE X B F Wx e ir := by
  intro m hm
  refine PE.imp h fun σ H Q ⟨Fz, S, env, R, p⟩ => ⟨Fz, S, env, R, ?_⟩
  rw [hev m env hm] at p
  exact p.fin hm
/-! ### one after the other -/
/-- a part of it, that begins at H: what is wanted of the part -/
theorem PX.bind {r : Res (Env × W)} {f : Env × W → Res (Env × W)} {m1 : Md} {q1 : Bool} (h : PX B K H0 Fz0 S0 σ m q Q Wx (r.bind f)) (g0 : Grow H0 Fz0 S0 H Fz S) (c0 : q = true → Calm H0 H) (hq : q = true → q1 = true)
    (k : ∀ e w, r = .ok (e, w) → PX B K H0 Fz0 S0 σ m q Q Wx (f (e, w)) → ∀ v H' Fz' S', Rel K H' Fz' S' σ e → Grow H Fz S H' Fz' S' → Grow H0 Fz0 S0 H' Fz' S' → (q1 = true → Calm H H') → (q = true → Calm H0 H') → RepM K H H' Fz' S' m1 v w → Q' v H') :
    PX B K H Fz S σ m1 q1 Q' Wx r := by
  cases r with
  | stuck => exact False.elim h
  | exc c d e => exact fun H' Fz' S' cls od R g x => h H' Fz' S' cls od R (g0.trans g) x
  | ok r =>
    obtain ⟨e, w⟩ := r
    intro v H' Fz' S' R g c rm
    exact k e w rfl h v H' Fz' S' R g (g0.trans g) c (fun z => (c0 z).trans (c (hq z))) rm
theorem PX.of {α : Type} {o : Option α} {f : α → Res (Env × W)} (h : PX B K H Fz S σ m q Q Wx ((Res.of o).bind f)) : ∃ a, o = some a ∧ PX B K H Fz S σ m q Q Wx (f a) := by
  cases o with
  | none => exact False.elim h
  | some a => exact ⟨a, rfl, h⟩
theorem PX.out1 {o : Option W} (h : PX B K H Fz S σ m q Q Wx (out1 env o)) : ∃ w, o = some w ∧ PX B K H Fz S σ m q Q Wx (.ok (env, w)) := by
  cases o with
  | none => exact False.elim h
  | some w => exact ⟨w, rfl, h⟩
/-- the end: a frozen value is told -/
theorem PX.endD {v : V} {d : D} (h : PX B K H0 Fz0 S0 σ .val q Q Wx (.ok (env, .val d))) (R : Rel K H Fz S σ env) (g : Grow H0 Fz0 S0 H Fz S) (c : q = true → Calm H0 H) (r : RepD K H Fz v d) : Q v H :=
  h v H Fz S R g c ⟨[], .val r, Fresh.nil⟩
/-- a tuple is new -/
theorem PX.endTup {vs : List V} {ds : List D} (h : PX B K H0 Fz0 S0 σ .val q Q Wx (.ok (env, .val (.tuple ds)))) (R : Rel K H Fz S σ env) (g : Grow H0 Fz0 S0 H Fz S) (c : q = true → Calm H0 H) (r : RepDs K H Fz vs ds) :
    ∀ p, H p = none → Q (.ref p) (upd H p (.tup vs)) := by
  intro p hp
  obtain ⟨R1, g1, c1⟩ := R.new (.tup vs) hp
  have R2 := R1.frozen (fun a => a = p) fun a e => by
    subst e
    exact ⟨by rw [upd_same]; simp, fun i z => (R.well.own i a z).1 hp⟩
  have h0 : H0 p = none := by
    cases e : H0 p with
    | none => rfl
    | some o => exact absurd hp (g.there p (by rw [e]; simp))
  refine h (.ref p) _ _ S R2 ((g.trans g1).frozen _ fun a e => .inl (by rw [e]; exact h0)) (fun z => (c z).trans c1) ⟨[], .val (.tup (.inl (.of upd_same)) ?_), Fresh.nil⟩
  exact (r.mono (fun _ f => f) fun a u _ => c1 a u).up fun _ f => .inl f
/-- a list is new, and nobody's -/
theorem PX.endLst {vs : List V} {ws : List W} {T : List Addr} (h : PX B K H0 Fz0 S0 σ .val q Q Wx (.ok (env, .lst ws))) (R : Rel K H Fz S σ env) (g : Grow H0 Fz0 S0 H Fz S) (c : q = true → Calm H0 H) (r : RepWs K H Fz vs ws T) (fr : Fresh H0 H Fz S T) :
    ∀ p, H p = none → Q (.ref p) (upd H p (.lst vs)) := by
  intro p hp
  obtain ⟨R1, g1, c1⟩ := R.new (.lst vs) hp
  refine h (.ref p) _ _ S R1 (g.trans g1) (fun z => (c z).trans c1) ⟨p :: T, .lst upd_same (r.mono (fun _ f => f) (fun a u _ => c1 a u) fun a z o e => upd_ne' hp e), ?_⟩
  refine ⟨List.nodup_cons.mpr ⟨fun z => r.there p z hp, fr.1⟩, fun a z => ?_⟩
  rcases List.mem_cons.mp z with rfl | z
  · refine ⟨?_, fun f => R.well.fz a f hp, fun i z => (R.well.own i a z).1 hp⟩
    cases e : H0 a with
    | none => rfl
    | some o => exact absurd hp (g.there a (by rw [e]; simp))
  · exact fr.2 a z
/-- what was new is frozen -/
theorem Rel.sink {T : List Addr} (R : Rel K H Fz S σ env) (g : Grow H0 Fz0 S0 H Fz S) (fr : Fresh H0 H Fz S T) (th : ∀ a ∈ T, H a ≠ none) :
    Rel K H (fun a => Fz a ∨ a ∈ T) S σ env ∧ Grow H0 Fz0 S0 H (fun a => Fz a ∨ a ∈ T) S :=
  ⟨R.frozen (fun a => a ∈ T) fun a z => ⟨th a z, (fr.2 a z).2.2⟩, g.frozen _ fun a z => .inl (fr.2 a z).1⟩
/-! ### names -/
theorem Rel.share (R : Rel K H Fz S σ env) {i : Nat} {w : W} {d : D} (h : env[i]? = some (some w)) (e : w.toD = some d) :
    ∃ v, σ[i]? = some (some v) ∧ RepD K H (fun a => Fz a ∨ a ∈ S i) v d ∧ Rel K H (fun a => Fz a ∨ a ∈ S i) (setO S i []) σ (env.set i (some (.val d))) ∧ Grow H Fz S H (fun a => Fz a ∨ a ∈ S i) (setO S i []) := by
  obtain ⟨v, hv, r⟩ := R.rep i w h
  have rd : RepD K H (fun a => Fz a ∨ a ∈ S i) v d := r.freeze (fun _ f => .inl f) e fun _ z => .inr z
  refine ⟨v, hv, rd, ⟨⟨fun a f => ?_, fun j a z => ?_, fun j k a h1 h2 => ?_, fun j => ?_⟩, by rw [List.length_set]; exact R.len, fun j w' hj => ?_⟩, ⟨fun _ _ e _ _ => e, fun _ _ _ r => r, fun _ f => .inl f, fun a f => ?_, fun j a z => ?_, fun _ e => e⟩⟩
  · rcases f with f | f
    · exact R.well.fz a f
    · exact (R.well.own i a f).1
  · by_cases ej : j = i
    · subst ej; rw [setO_same] at z; exact nomatch z
    · rw [setO_ne ej] at z
      refine ⟨(R.well.own j a z).1, fun f => ?_⟩
      rcases f with f | f
      · exact (R.well.own j a z).2 f
      · exact ej (R.well.dis j i a z f)
  · by_cases ej : j = i
    · subst ej; rw [setO_same] at h1; exact nomatch h1
    · by_cases ek : k = i
      · subst ek; rw [setO_same] at h2; exact nomatch h2
      · rw [setO_ne ej] at h1; rw [setO_ne ek] at h2; exact R.well.dis j k a h1 h2
  · by_cases ej : j = i
    · subst ej; rw [setO_same]; exact List.nodup_nil
    · rw [setO_ne ej]; exact R.well.nod j
  · by_cases ej : j = i
    · subst ej
      rw [setO_same]
      have lt : j < env.length := by rw [R.len]; exact (List.getElem?_eq_some_iff.mp hv).1
      rw [List.getElem?_set_self lt] at hj
      cases hj
      exact ⟨v, hv, .val rd⟩
    · rw [setO_ne ej]
      rw [List.getElem?_set_ne (Ne.symm ej)] at hj
      obtain ⟨v', e', r'⟩ := R.rep j w' hj
      exact ⟨v', e', r'.mono (fun _ f => .inl f) (fun _ _ _ r => r) fun _ _ _ e => e⟩
  · rcases f with f | f
    · exact .inl f
    · exact .inr (.inr ⟨i, f⟩)
  · by_cases ej : j = i
    · subst ej; rw [setO_same] at z; exact nomatch z
    · rw [setO_ne ej] at z; exact .inl z
theorem get_ok {i : Nat} {w : W} (h : Env.get env i = .ok w) : env[i]? = some (some w) := by
  unfold Env.get at h
  split at h
  · cases h; assumption
  · cases h
theorem get_cases (env : Env) (i : Nat) : (∃ w, Env.get env i = .ok w ∧ env[i]? = some (some w)) ∨ Env.get env i = .stuck := by
  unfold Env.get
  split
  · exact .inl ⟨_, rfl, by assumption⟩
  · exact .inr rfl
theorem se_loc {i : Nat} {x : Str} {pos : Pos} (hN : X.N[i]? = some x) (hv : Vis X.env.scope x) (hd : (x == ("__debug__" : Str)) = false) (hcd : (x == ("__classdict__" : Str)) = false) : SEx X B F Wx (.Name x pos) (.loc i) := by
  refine ⟨fun m hm => PE.imp (pe_var hN hv hd hcd) fun σ H Q ⟨Fz, S, env, R, p⟩ => ?_, fun _ _ => rfl⟩
  rcases get_cases env i with ⟨w, eg, ei⟩ | eg
  · obtain ⟨v, hv', r⟩ := R.rep i w ei
    cases m with
    | val =>
      simp only [evX, Env.share, eg, Res.bind] at p
      cases z : w.toD with
      | none => rw [z] at p; exact False.elim p
      | some d =>
        rw [z] at p
        obtain ⟨v2, e2, rd, R2, g2⟩ := R.share ei z
        refine ⟨v2, e2, p v2 H _ _ R2 g2 (fun _ => Calm.refl H) ⟨[], .val rd, Fresh.nil⟩⟩
    | test => exact absurd rfl hm
    | flat =>
      have ev : evX F (.loc i) .flat env = Res.of (w.flat.map fun d => (env, .val d)) := by
        simp only [evX, eg, Res.bind, Md.fin, Res.map]
      rw [ev] at p
      cases z : w.flat with
      | none => rw [z] at p; exact False.elim p
      | some d =>
        rw [z] at p
        exact ⟨v, hv', p v H Fz S R (Grow.refl _ _ _) (fun _ => Calm.refl H) ⟨d, rfl, r.flat z⟩⟩
    | peek =>
      have ev : evX F (.loc i) .peek env = Res.of (w.toD.map fun d => (env, .val d)) := by
        simp only [evX, eg, Res.bind, Md.fin, Res.map]
      rw [ev] at p
      cases z : w.toD with
      | none => rw [z] at p; exact False.elim p
      | some d =>
        rw [z] at p
        exact ⟨v, hv', p v H Fz S R (Grow.refl _ _ _) (fun _ => Calm.refl H) ⟨d, rfl, r.peek z⟩⟩
  · cases m <;> simp only [evX, Env.share, eg, Res.bind, Md.fin, Res.map] at p <;> exact False.elim p
/-! ### constants -/
theorem se_const {e : Expr} {v : V} {d : D} (h : PE X e (L2.tC v)) (ns : NoStar e) (r : ∀ K H Fz, RepD K H Fz v d) : SEx X B F Wx e (.lit d) := by
  refine ⟨SE.core (core := fun env => .ok (env, .val d)) (PE.imp h fun σ H Q ⟨Fz, S, env, R, p⟩ => p.endD R (Grow.refl _ _ _) (fun _ => Calm.refl _) (r _ _ _)) fun m env hm => ?_, ns⟩
  cases m <;> simp only [evX]
theorem se_gl {x : Str} {v : V} {u : Value} {d : D} {g : Nat} {pos : Pos} (hg : Gl X x) (hm : X.mg x = some u) (rv : RelV v u) (r : ∀ H Fz, RepD X.K H Fz v d) (hd : (x == ("__debug__" : Str)) = false) : SEx X B F Wx (.Name x pos) (.gl g d) := by
  refine ⟨SE.core (core := fun env => .ok (env, .val d)) (PE.imp (pe_glob hg hm rv hd) fun σ H Q ⟨Fz, S, env, R, p⟩ => p.endD R (Grow.refl _ _ _) (fun _ => Calm.refl _) (r _ _)) fun m env hm => ?_, fun _ _ => rfl⟩
  cases m <;> simp only [evX]
end
end TA

set_option Elab.async false
set_option linter.all false
set_option maxRecDepth 100000
/-! TaSnd3: lists of expressions, displays, two-place operators. -/
namespace TA
open PySem PySem.Spec PyProof.Rows L2
section
variable {X : Cx} {B : Tb} {K : PySem.W.Frag} {F : Nat → List W → FRes} {Wx : WX} {H H' H0 H1 : Hp} {Fz Fz' Fz1 Fz0 : Addr → Prop} {S S' S1 S0 : Own} {σ : L2.St} {m : Md} {q q' : Bool} {Q Q' : VK} {env : Env}
theorem RepW.sunk {v : V} {w : W} {T : List Addr} {d : D} (r : RepW K H Fz v w T) (e : w.toD = some d) : RepD K H (fun a => Fz a ∨ a ∈ T) v d := r.freeze (fun _ f => Or.inl f) e fun _ z => Or.inr z
theorem RepWs.sunk {vs : List V} {ws : List W} {T : List Addr} {ds : List D} (r : RepWs K H Fz vs ws T) (e : W.toDs ws = some ds) : RepDs K H (fun a => Fz a ∨ a ∈ T) vs ds := r.freeze (fun _ f => Or.inl f) e fun _ z => Or.inr z
/-! ### lists of expressions -/
theorem pvs_nil : PA X [] (tVs B X.K F Wx []) := ⟨fun pos pins s σ H Q I ⟨Fz, S, env, R, p⟩ => pa_nil.run pos pins s σ H Q I (p [] H Fz S R (Grow.refl _ _ _) (fun _ => Calm.refl _) ⟨[], .nil, Fresh.nil⟩)⟩
theorem PA.imp {es : List Expr} {t t' : TA} (h : PA X es t) (i : ∀ σ H Q, t' σ H Q → t σ H Q) : PA X es t' := ⟨fun pos pins s σ H Q I x => h.run pos pins s σ H Q I (i σ H Q x)⟩
/-- new ones stay new, together -/
theorem Fresh.app {T U : List Addr} (a : Fresh H0 H Fz S T) (b : Fresh H1 H Fz S U) (t : ∀ a ∈ T, H1 a ≠ none) (k : ∀ a, H0 a ≠ none → H1 a ≠ none) : Fresh H0 H Fz S (T ++ U) := by
  have b' := b.back k
  refine ⟨List.nodup_append.mpr ⟨a.1, b.1, fun x hx y hy e => ?_⟩, fun x hx => (List.mem_append.mp hx).elim (a.2 x) (b'.2 x)⟩
  subst e
  exact t x hx (b.2 x hy).1
theorem pvs_cons {e : Expr} {es : List Expr} {ir : IE} {irs : List IE} (h : SEx X B F Wx e ir) (hs : PA X es (tVs B X.K F Wx irs)) : PA X (e :: es) (tVs B X.K F Wx (ir :: irs)) := by
  refine PA.imp (pa_cons (h.se .val (by decide)) hs (h.ns es X.env)) fun σ H Q ⟨Fz, S, env, R, p⟩ => ?_
  refine ⟨Fz, S, env, R, ?_⟩
  rw [evEs] at p
  cases e1 : evX F ir .val env with
  | stuck => rw [e1] at p; exact False.elim p
  | exc c d e => rw [e1] at p; exact p
  | ok r =>
    obtain ⟨env1, w⟩ := r
    rw [e1] at p
    intro v H1 Fz1 S1 R1 g1 c1 ⟨T, rw1, fr1⟩
    refine ⟨Fz1, S1, env1, R1, ?_⟩
    have p : PVs B X.K H Fz S σ (IE.quiets (ir :: irs)) Q Wx ((evEs F irs .val env1).bind fun q => .ok (q.1, w :: q.2)) := p
    have hq : IE.quiets (ir :: irs) = (IE.quiet ir && IE.quiets irs) := by rw [IE.quiets]
    cases e2 : evEs F irs .val env1 with
    | stuck => rw [e2] at p; exact False.elim p
    | exc c d e => rw [e2] at p; exact fun H2 F2 S2 cls od R2 g2 x => p H2 F2 S2 cls od R2 (g1.trans g2) x
    | ok r2 =>
      obtain ⟨env2, ws⟩ := r2
      rw [e2] at p
      intro vs H2 Fz2 S2 R2 g2 c2 ⟨U, rw2, fr2⟩
      have rw1' := rw1.grow g2 fr1
      have fr1' := fr1.grow rw1.there g2
      refine p (v :: vs) H2 Fz2 S2 R2 (g1.trans g2) (fun z => ?_) ⟨T ++ U, .cons rw1' rw2, fr1'.app fr2 rw1.there fun a e => g1.there a e⟩
      rw [hq, Bool.and_eq_true] at z
      exact (c1 z.1).trans (c2 z.2)
/-- a part that is a list of expressions -/
theorem PX.binds {r : Res (Env × List W)} {f : Env × List W → Res (Env × W)} {q1 : Bool} {Q' : List V → Hp → Prop} (h : PX B K H0 Fz0 S0 σ m q Q Wx (r.bind f)) (g0 : Grow H0 Fz0 S0 H Fz S) (c0 : q = true → Calm H0 H) (hq : q = true → q1 = true)
    (k : ∀ e ws, r = .ok (e, ws) → PX B K H0 Fz0 S0 σ m q Q Wx (f (e, ws)) → ∀ vs H' Fz' S', Rel K H' Fz' S' σ e → Grow H Fz S H' Fz' S' → Grow H0 Fz0 S0 H' Fz' S' → (q1 = true → Calm H H') → (q = true → Calm H0 H') → RepVs K H H' Fz' S' vs ws → Q' vs H') :
    PVs B K H Fz S σ q1 Q' Wx r := by
  cases r with
  | stuck => exact False.elim h
  | exc c d e => exact fun H' Fz' S' cls od R g x => h H' Fz' S' cls od R (g0.trans g) x
  | ok r =>
    obtain ⟨e, w⟩ := r
    intro v H' Fz' S' R g c rm
    exact k e w rfl h v H' Fz' S' R g (g0.trans g) c (fun z => (c0 z).trans (c (hq z))) rm
theorem szOk_le {n : Nat} (h : szOk n = true) : n ≤ sizeLine := by rw [sizeLine_eq]; exact of_decide_eq_true h
theorem ite_ok {c : Bool} {α : Type} {a : α} {r : Res α} (h : (if c = true then Res.ok a else .stuck) = r) : (c = true ∧ r = .ok a) ∨ r = .stuck := by
  cases c with
  | false => exact .inr h.symm
  | true => exact .inl ⟨rfl, h.symm⟩
theorem se_tup {es : List Expr} {irs : List IE} {k : Nat} {pos : Pos} (h : PA X es (tVs B X.K F Wx irs)) : SEx X B F Wx (.Tuple es k pos) (.tup irs) := by
  refine ⟨SE.core (core := fun env => (evEs F irs .val env).bind fun r => out1 r.1 (tupW r.2)) (PE.imp (pe_tup h) fun σ H Q ⟨Fz, S, env, R, p⟩ => ?_) fun m env hm => by cases m <;> simp only [evX], fun _ _ => rfl⟩
  have eq : IE.quiet (.tup irs) = IE.quiets irs := by rw [IE.quiet]
  refine ⟨Fz, S, env, R, PX.binds p (Grow.refl _ _ _) (fun _ => Calm.refl _) (fun z => eq ▸ z) fun e ws ev p1 vs H1 Fz1 S1 R1 g1 g1' c1 c1' ⟨T, rw1, fr1⟩ => ?_⟩
  obtain ⟨w, ew, p2⟩ := p1.out1
  unfold tupW at ew
  cases e1 : W.toDs ws with
  | none => simp [e1] at ew
  | some ds =>
    simp only [e1, Option.bind_some] at ew
    split at ew
    · rename_i hz
      cases ew
      obtain ⟨R2, g2⟩ := R1.sink g1 fr1 rw1.there
      have rd := rw1.sunk e1
      exact ⟨by rw [rd.len]; exact szOk_le hz, p2.endTup R2 g2 c1' rd⟩
    · cases ew
theorem se_lst {es : List Expr} {irs : List IE} {pos : Pos} (h : PA X es (tVs B X.K F Wx irs)) : SEx X B F Wx (.List es pos) (.lst irs) := by
  refine ⟨SE.core (core := fun env => (evEs F irs .val env).bind fun r => if szOk r.2.length then .ok (r.1, .lst r.2) else .stuck) (PE.imp (pe_lst h) fun σ H Q ⟨Fz, S, env, R, p⟩ => ?_) fun m env hm => by cases m <;> simp only [evX], fun _ _ => rfl⟩
  have eq : IE.quiet (.lst irs) = IE.quiets irs := by rw [IE.quiet]
  refine ⟨Fz, S, env, R, PX.binds p (Grow.refl _ _ _) (fun _ => Calm.refl _) (fun z => eq ▸ z) fun e ws ev p1 vs H1 Fz1 S1 R1 g1 g1' c1 c1' ⟨T, rw1, fr1⟩ => ?_⟩
  dsimp only at p1
  split at p1
  · rename_i hz
    exact ⟨by rw [rw1.len]; exact szOk_le hz, p1.endLst R1 g1 c1' rw1 fr1⟩
  · exact False.elim p1
/-! ### two values -/
/-- both operands are values; r answers for the data -/
theorem se_bin2 {e : Expr} {ia ib ir : IE} {r : R2} {op : D → D → Option W} (hr : PE X e (tOp r (tX B X.K F Wx ia .val) (tX B X.K F Wx ib .val))) (ns : NoStar e)
    (hev : ∀ m env, m ≠ .test → evX F ir m env = m.fin ((evX F ia .val env).bind fun r => (Res.of r.2.toD).bind fun x => (evX F ib .val r.1).bind fun q => (Res.of q.2.toD).bind fun y => out1 q.1 (op x y)))
    (hq : IE.quiet ir = true → IE.quiet ia = true ∧ IE.quiet ib = true)
    (ans : ∀ (x y : V) (dx dy : D) (w : W) (H : Hp) (Fz : Addr → Prop) (S : Own) (σ : L2.St) (env : Env) (Q : VK) (H0 : Hp) (Fz0 : Addr → Prop) (S0 : Own) (q : Bool), RepD X.K H Fz x dx → RepD X.K H Fz y dy → op dx dy = some w → Rel X.K H Fz S σ env → Grow H0 Fz0 S0 H Fz S → (q = true → Calm H0 H) →
      PX B X.K H0 Fz0 S0 σ .val q Q Wx (.ok (env, w)) → r x y H Q) : SEx X B F Wx e ir := by
  refine ⟨SE.core (core := fun env => (evX F ia .val env).bind fun r => (Res.of r.2.toD).bind fun x => (evX F ib .val r.1).bind fun q => (Res.of q.2.toD).bind fun y => out1 q.1 (op x y)) (PE.imp hr fun σ H Q ⟨Fz, S, env, R, p⟩ => ?_) hev, ns⟩
  refine ⟨Fz, S, env, R, PX.bind p (Grow.refl _ _ _) (fun _ => Calm.refl _) (fun z => (hq z).1) fun e1 w1 ev1 p1 v1 H1 Fz1 S1 R1 g1 g1' c1 c1' ⟨T, rw1, fr1⟩ => ?_⟩
  obtain ⟨dx, ex, p1⟩ := p1.of
  obtain ⟨R2, g2⟩ := R1.sink g1 fr1 rw1.there
  have rx := rw1.sunk ex
  refine ⟨_, S1, e1, R2, PX.bind p1 g2 c1' (fun z => (hq z).2) fun e2 w2 ev2 p2 v2 H2 Fz2 S2 R3 g3 g3' c3 c3' ⟨U, rw2, fr2⟩ => ?_⟩
  obtain ⟨dy, ey, p2⟩ := p2.of
  obtain ⟨w, ew, p2⟩ := p2.out1
  obtain ⟨R4, g4⟩ := R3.sink g3' (fr2.back g1.there) rw2.there
  have ry := rw2.sunk ey
  exact ans v1 v2 dx dy w H2 _ S2 σ e2 Q H Fz S _ ((rx.grow g3).up fun _ f => .inl f) ry ew R4 g4 c3' p2
/-- list + list, wherever they stand -/
def rCatL (K : PySem.W.Frag) : R2 := fun x y H Q => ∃ l b xs zs, x = .ref l ∧ y = .ref b ∧ SqL K H l xs ∧ SqL K H b zs ∧ xs.length + zs.length ≤ sizeLine ∧ ∀ p, H p = none → Q (.ref p) (upd H p (.lst (xs ++ zs)))
theorem op_catL : OpR X (binaryOp .Add) (rCatL X.K) := by
  intro pins s σ H x y v u Q I rx ry h
  obtain ⟨l, b, xs, zs, rfl, rfl, hH, hB, hz, q⟩ := h
  cases rx
  cases ry
  obtain ⟨its, r, hl, z1⟩ := I.list hH
  obtain ⟨its2, r2, hl2, z2⟩ := I.list hB
  have e1 : its.length = xs.length := r.length.symm
  have e2 : its2.length = zs.length := r2.length.symm
  obtain ⟨⟨cls, dd, data, sl⟩, n, ho, hc, _, hd⟩ := hl
  obtain ⟨⟨cls2, dd2, data2, sl2⟩, n2, ho2, hc2, _, hd2⟩ := hl2
  simp only at hc hd hc2 hd2
  subst hc hd hc2 hd2
  have e : its.toArray ++ its2.toArray = (its ++ its2).toArray := by simp
  refine concat_meets ⟨_, ho, rfl⟩ ⟨_, ho2, rfl⟩ noFill_list_add seq_list_add PySem.F.slot_list_add PySem.F.entry_list_add (PySem.F.args_list_add_2 _ _) (list_addW l b its.toArray its2.toArray n n2 dd dd2 sl sl2 (by simp only [List.size_toArray]; omega)) ⟨ho, ho2, ?_⟩
  rw [e]
  exact ⟨.ref _, _, I.lnew (t' := s.toks) (r.append r2) (by rw [List.length_append]; omega), rfl, q _ I.fresh⟩
/-- text * int -/
theorem mulOk_small {x : Str} {k : Int} (h0 : 0 ≤ k) (h1 : k ≤ 1000) (h2 : x.length ≤ 1000) : MulOk x k := by
  refine ⟨by rw [decide_eq_false (by omega), decide_eq_false (by omega)]; rfl, fun _ _ h => ?_, fun _ _ => ?_⟩
  · have h3 : k * 1000 ≤ 1000 * 1000 := by omega
    have h4 : (1000 : Int) ≤ (2 ^ 63 - 1) / k := by
      by_cases hk : k < 1
      · omega
      · rw [Int.le_ediv_iff_mul_le (by omega)]
        omega
    omega
  · show Builtin.Str.tooLong (x.length * k.toNat) = false
    unfold Builtin.Str.tooLong
    have : x.length * k.toNat ≤ 1000 * 1000 := Nat.mul_le_mul h2 (by omega)
    have z : sizeLine = 16777216 := sizeLine_eq
    simp only [decide_eq_false_iff_not]
    omega
end
end TA

set_option Elab.async false
set_option linter.all false
set_option maxRecDepth 100000
/-! TaSnd4: the operators. -/
namespace TA
open PySem PySem.Spec PyProof.Rows L2
section
variable {X : Cx} {B : Tb} {K : PySem.W.Frag} {F : Nat → List W → FRes} {Wx : WX} {H H' H0 H1 : Hp} {Fz Fz' Fz1 Fz0 : Addr → Prop} {S S' S1 S0 : Own} {σ : L2.St} {m : Md} {q q' : Bool} {Q Q' : VK} {env : Env}
theorem RepD.int_inv {v : V} {i : Int} (h : RepD K H Fz v (.int i)) : v = .int i := by cases h; rfl
theorem RepD.str_inv {v : V} {x : Str} (h : RepD K H Fz v (.str x)) : v = .str x := by cases h; rfl
theorem RepD.bl_inv {v : V} {b : Bool} (h : RepD K H Fz v (.bool b)) : v = .bl b := by cases h; rfl
theorem RepD.non_inv {v : V} (h : RepD K H Fz v .none) : v = .non := by cases h; rfl
theorem RepD.lst_inv {v : V} {ds : List D} (h : RepD K H Fz v (.list ds)) : ∃ a vs, v = .ref a ∧ FqL K H Fz a vs ∧ RepDs K H Fz vs ds := by cases h; exact ⟨_, _, rfl, ‹_›, ‹_›⟩
theorem RepD.tup_inv {v : V} {ds : List D} (h : RepD K H Fz v (.tuple ds)) : ∃ a vs, v = .ref a ∧ FqT K H Fz a vs ∧ RepDs K H Fz vs ds := by cases h; exact ⟨_, _, rfl, ‹_›, ‹_›⟩
theorem RepDs.nil_inv {vs : List V} (h : RepDs K H Fz vs []) : vs = [] := by cases h; rfl
theorem RepDs.nil_iff {vs : List V} {ds : List D} (h : RepDs K H Fz vs ds) : vs = [] ↔ ds = [] := by cases h <;> simp
/-- what is wanted of an operator's rule -/
abbrev Ans (X : Cx) (B : Tb) (Wx : WX) (r : R2) (op : D → D → Option W) : Prop := ∀ (x y : V) (dx dy : D) (w : W) (H : Hp) (Fz : Addr → Prop) (S : Own) (σ : L2.St) (env : Env) (Q : VK) (H0 : Hp) (Fz0 : Addr → Prop) (S0 : Own) (q : Bool), RepD X.K H Fz x dx → RepD X.K H Fz y dy → op dx dy = some w → Rel X.K H Fz S σ env → Grow H0 Fz0 S0 H Fz S → (q = true → Calm H0 H) →
      PX B X.K H0 Fz0 S0 σ .val q Q Wx (.ok (env, w)) → r x y H Q
theorem se_bin {o : BOp} {op : Operator} {r : R2} {a b : Expr} {ia ib : IE} {pos : Pos} (ho : OpR X (binaryOp op) r) (ha : SEx X B F Wx a ia) (hb : SEx X B F Wx b ib) (ans : Ans X B Wx r (binD o)) : SEx X B F Wx (.BinOp a op b pos) (.bin o ia ib) :=
  se_bin2 (op := binD o) (pe_op ho (ha.se .val (by decide)) (hb.se .val (by decide))) (fun _ _ => rfl) (fun m env hm => by cases m <;> simp only [evX])
    (fun z => by rw [IE.quiet, Bool.and_eq_true] at z; exact z) ans
abbrev rAddA (K : PySem.W.Frag) : R2 := fun x y H Q => rI0 (fun i j => .int (i + j)) x y H Q ∨ (∃ i j, x = .str i ∧ y = .str j ∧ i.length + j.length ≤ sizeLine ∧ Q (.str (i ++ j)) H) ∨ rCatA K x y H Q ∨ rCatL K x y H Q
theorem op_addA : OpR X (binaryOp .Add) (rAddA X.K) := op_add.or (op_add_str.or (op_catA.or op_catL))
theorem ans_add : Ans X B Wx (rAddA X.K) (binD .add) := by
  intro x y dx dy w H Fz S σ env Q H0 Fz0 S0 q rx ry e R g c p
  cases dx <;> cases dy <;> simp only [binD, intOp, Option.map_some, reduceCtorEq] at e
  · rw [rx.int_inv, ry.int_inv]
    cases e
    exact .inl ⟨_, _, rfl, rfl, p.endD R g c (.int _)⟩
  · split at e
    · rename_i hz
      cases e
      rw [rx.str_inv, ry.str_inv]
      exact .inr (.inl ⟨_, _, rfl, rfl, szOk_le hz, p.endD R g c (.str _)⟩)
    · cases e
  · split at e
    · rename_i hz
      cases e
      obtain ⟨a, vs, rfl, fa, ra⟩ := rx.lst_inv
      obtain ⟨b, us, rfl, fb, rb⟩ := ry.lst_inv
      exact .inr (.inr (.inr ⟨a, b, vs, us, rfl, rfl, fa.sq, fb.sq, by rw [ra.len, rb.len]; exact szOk_le hz, p.endLst R g c (ra.app rb).ws Fresh.nil⟩))
    · cases e
  · split at e
    · rename_i hz
      cases e
      obtain ⟨a, vs, rfl, fa, ra⟩ := rx.tup_inv
      obtain ⟨b, us, rfl, fb, rb⟩ := ry.tup_inv
      refine .inr (.inr (.inl ⟨a, b, vs, us, rfl, rfl, fa.sq, fb.sq, by rw [ra.len, rb.len]; exact szOk_le hz, fun z => ?_, fun _ z => ?_, fun _ _ => p.endTup R g c (ra.app rb)⟩))
      · have z' := ra.nil_iff.mp z
        subst z'
        exact p.endD R g c ry
      · have z' := rb.nil_iff.mp z
        subst z'
        rw [List.append_nil] at p
        exact p.endD R g c rx
    · cases e
theorem bInt_ok {i : Int} (h : bInt i = true) : -(2 ^ 64) < i ∧ i < 2 ^ 64 := by
  unfold bInt at h
  rw [Bool.and_eq_true] at h
  exact ⟨of_decide_eq_true h.1, of_decide_eq_true h.2⟩
theorem ans_int {o : BOp} {C : Int → Int → Prop} {g : Int → Int → Int} (hb : ∀ i j k, intOp o i j = some k → C i j ∧ k = g i j) (hs : ∀ dx dy w, binD o dx dy = some w → ∃ i j k, dx = .int i ∧ dy = .int j ∧ intOp o i j = some k ∧ w = .val (.int k)) :
    Ans X B Wx (rI C fun i j => .int (g i j)) (binD o) := by
  intro x y dx dy w H Fz S σ env Q H0 Fz0 S0 q rx ry e R gr c p
  obtain ⟨i, j, k, rfl, rfl, ek, rfl⟩ := hs dx dy w e
  rw [rx.int_inv, ry.int_inv]
  obtain ⟨h1, rfl⟩ := hb i j k ek
  exact ⟨_, _, rfl, rfl, h1, p.endD R gr c (.int _)⟩
theorem binD_int {o : BOp} (h1 : o ≠ .add) (h2 : o ≠ .mul) {dx dy : D} {w : W} (e : binD o dx dy = some w) : ∃ i j k, dx = .int i ∧ dy = .int j ∧ intOp o i j = some k ∧ w = .val (.int k) := by
  cases o <;> first | exact absurd rfl h1 | exact absurd rfl h2 | skip
  all_goals
    cases dx <;> cases dy <;> simp only [binD, reduceCtorEq] at e
    rename_i i j
    obtain ⟨k, ek, rfl⟩ := Option.map_eq_some_iff.mp e
    exact ⟨i, j, k, rfl, rfl, ek, rfl⟩
theorem ans_sub : Ans X B Wx (rI (fun _ _ => True) fun i j => .int (i - j)) (binD .sub) := ans_int (fun i j k e => by cases e; exact ⟨trivial, rfl⟩) fun _ _ _ => binD_int (o := .sub) (by decide) (by decide)
theorem op_subA : OpR X (binaryOp .Sub) (rI (fun _ _ => True) fun i j => .int (i - j)) := fun pins s σ H x y v u Q I rx ry ⟨i, j, a, b, _, d⟩ => op_sub pins s σ H x y v u Q I rx ry ⟨i, j, a, b, d⟩
theorem ans_fdiv : Ans X B Wx (rI CDivW fun i j => .int (i / j)) (binD .fdiv) := ans_int (fun i j k e => by
  simp only [intOp] at e
  split at e
  · rename_i h
    cases e
    rw [Bool.and_eq_true] at h
    have h1 := of_decide_eq_true h.1
    have h2 := of_decide_eq_true h.2
    exact ⟨wide_div (b := 64) h1 (by omega) (by omega) (by omega), rfl⟩
  · cases e) fun _ _ _ => binD_int (o := .fdiv) (by decide) (by decide)
theorem ans_mod : Ans X B Wx (rI (fun _ j => 0 < j) fun i j => .int (i % j)) (binD .mod) := ans_int (fun i j k e => by
  simp only [intOp] at e
  split at e
  · rename_i h
    cases e
    exact ⟨of_decide_eq_true h, rfl⟩
  · cases e) fun _ _ _ => binD_int (o := .mod) (by decide) (by decide)
theorem ans_pow : Ans X B Wx (rI CPow fun i j => .int (i ^ j.toNat)) (binD .pow) := ans_int (fun i j k e => by
  simp only [intOp] at e
  split at e
  · rename_i h
    cases e
    rw [Bool.and_eq_true, Bool.and_eq_true] at h
    exact ⟨⟨of_decide_eq_true h.1.1, of_decide_eq_true h.1.2, of_decide_eq_true h.2⟩, rfl⟩
  · cases e) fun _ _ _ => binD_int (o := .pow) (by decide) (by decide)
abbrev rMulA : R2 := fun x y H Q => rI CMul (fun i j => .int (i * j)) x y H Q ∨ ∃ z k, x = .str z ∧ y = .int k ∧ MulOk z k ∧ Q (.str (Txt.mul z k)) H
theorem op_mulA : OpR X (binaryOp .Mult) rMulA := op_mul.or fun pins s σ H x y v u Q I rx ry ⟨z, k, e1, e2, h, qq⟩ => by
  subst e1 e2
  obtain ⟨t, rfl⟩ := rx
  obtain ⟨t', rfl⟩ := ry
  exact SB.mul h fun t' k' => ⟨.str _, H, I.tok _, ⟨_, rfl⟩, qq⟩
theorem ans_mul : Ans X B Wx rMulA (binD .mul) := by
  intro x y dx dy w H Fz S σ env Q H0 Fz0 S0 q rx ry e R g c p
  cases dx <;> cases dy <;> simp only [binD, intOp, reduceCtorEq] at e
  · rename_i i j
    rw [rx.int_inv, ry.int_inv]
    split at e
    · rename_i h
      cases e
      refine .inl ⟨_, _, rfl, rfl, ?_, p.endD R g c (.int _)⟩
      rcases Bool.or_eq_true_iff.mp h with h | h
      · exact .inl (bInt_ok h)
      · exact .inr (bInt_ok h)
    · cases e
  · split at e
    · rename_i z k h
      cases e
      rw [rx.str_inv, ry.int_inv]
      rw [Bool.and_eq_true, Bool.and_eq_true] at h
      exact .inr ⟨_, _, rfl, rfl, mulOk_small (of_decide_eq_true h.1.1) (of_decide_eq_true h.1.2) (of_decide_eq_true h.2), p.endD R g c (.str _)⟩
    · cases e
end
end TA

set_option Elab.async false
set_option linter.all false
set_option maxRecDepth 100000
/-! TaEq: == of data, in, comparisons. -/
namespace TA
open PySem PySem.Spec PyProof.Rows L2
section
variable {X : Cx} {B : Tb} {K : PySem.W.Frag} {F : Nat → List W → FRes} {Wx : WX} {H H' H0 H1 : Hp} {Fz Fz' Fz1 Fz0 : Addr → Prop} {S S' S1 S0 : Own} {σ : L2.St} {m : Md} {q q' : Bool} {Q Q' : VK} {env : Env} {pins : List (Addr × Obj)} {s : Shared}
/-! ### what stands at an address tells the data -/
theorem FqL.obj (I : Inv X pins σ H s) {a : Addr} {vs : List V} (h : FqL X.K H Fz a vs) : ∃ its : List Value, Vals vs its ∧ s.heap.IsList a its.toArray := by
  obtain ⟨its, r, p, _⟩ := I.list h.sq
  exact ⟨its, r, p.isList⟩
theorem FqT.obj (I : Inv X pins σ H s) {a : Addr} {vs : List V} (h : FqT X.K H Fz a vs) : ∃ its : List Value, Vals vs its ∧ IsTup s.heap a its.toArray := by
  obtain ⟨its, r, p, _⟩ := I.tuple h.sq
  exact ⟨its, r, p⟩
theorem isTup_tuple {h : Heap} {a : Addr} {its : Array Value} (p : IsTup h a its) : h.IsTuple a its := p
theorem rd_dict (I : Inv X pins σ H s) {a : Addr} (h : (∃ kvs, Rt H a (.dK kvs)) ∨ ∃ kvs, Rt H a (.dT kvs)) : ∃ o, s.heap.get? a = some o ∧ o.cls = .type "dict" := by
  rcases h with ⟨kvs, h⟩ | ⟨kvs, h⟩
  · obtain ⟨_, _, vs, _, o, es, ep, e, x, _⟩ := dk_rd I.hok h.1
    exact ⟨o, e, x.1⟩
  · obtain ⟨_, _, xs, _, o, es, ep, e, x, _⟩ := dt_rd I.hok h.1
    exact ⟨o, e, x.1⟩
theorem zip_inj {α β : Type} : ∀ {ks ks' : List α} {vs vs' : List β}, ks.length = vs.length → ks'.length = vs'.length → ks.zip vs = ks'.zip vs' → ks = ks' ∧ vs = vs'
  | [], [], [], [], _, _, _ => ⟨rfl, rfl⟩
  | [], _ :: _, [], _ :: _, _, _, h => nomatch h
  | _ :: _, [], _ :: _, [], _, _, h => nomatch h
  | k :: ks, k' :: ks', v :: vs, v' :: vs', l, l', h => by
    rw [List.zip_cons_cons, List.zip_cons_cons] at h
    injection h with h1 h2
    injection h1 with h3 h4
    obtain ⟨e1, e2⟩ := zip_inj (by simpa using l) (by simpa using l') h2
    exact ⟨by rw [h3, e1], by rw [h4, e2]⟩
  | [], _, _ :: _, _, h, _, _ => nomatch h
  | _ :: _, _, [], _, h, _, _ => nomatch h
  | _, [], _, _ :: _, _, h, _ => nomatch h
  | _, _ :: _, _, [], _, h, _ => nomatch h
theorem rd_dK {a : Addr} {x y : List (Key × V)} (h : Rt H a (.dK x)) (h' : Rt H a (.dK y)) : x = y := by
  rcases h with h | ⟨o, h⟩ <;> rcases h' with h' | ⟨o', h'⟩ <;> rw [h] at h' <;> cases h' <;> rfl
theorem rd_dT {a : Addr} {x y : List (List Key × V)} (h : Rt H a (.dT x)) (h' : Rt H a (.dT y)) : x = y := by
  rcases h with h | ⟨o, h⟩ <;> rcases h' with h' | ⟨o', h'⟩ <;> rw [h] at h' <;> cases h' <;> rfl
theorem rd_dKT {a : Addr} {x : List (Key × V)} {y : List (List Key × V)} (h : Rt H a (.dK x)) (h' : Rt H a (.dT y)) : False := by
  rcases h with h | ⟨o, h⟩ <;> rcases h' with h' | ⟨o', h'⟩ <;> rw [h] at h' <;> cases h'
theorem lst_tup (I : Inv X pins σ H s) {a : Addr} {vs us : List V} (h : FqL X.K H Fz a vs) (h' : FqT X.K H Fz' a us) : False := by
  obtain ⟨_, _, o, e, c, _⟩ := h.obj I
  obtain ⟨_, _, o', e', c', _⟩ := h'.obj I
  rw [e] at e'; cases e'; rw [c] at c'; injection c' with c'; exact absurd c' (by decide)
theorem lst_dict (I : Inv X pins σ H s) {a : Addr} {vs : List V} (h : FqL X.K H Fz a vs) (h' : (∃ kvs, Rt H a (.dK kvs)) ∨ ∃ kvs, Rt H a (.dT kvs)) : False := by
  obtain ⟨_, _, o, e, c, _⟩ := h.obj I
  obtain ⟨o', e', c'⟩ := rd_dict I h'
  rw [e] at e'; cases e'; rw [c] at c'; injection c' with c'; exact absurd c' (by decide)
theorem tup_dict (I : Inv X pins σ H s) {a : Addr} {vs : List V} (h : FqT X.K H Fz a vs) (h' : (∃ kvs, Rt H a (.dK kvs)) ∨ ∃ kvs, Rt H a (.dT kvs)) : False := by
  obtain ⟨_, _, o, e, c, _⟩ := h.obj I
  obtain ⟨o', e', c'⟩ := rd_dict I h'
  rw [e] at e'; cases e'; rw [c] at c'; injection c' with c'; exact absurd c' (by decide)
mutual
theorem RepD.inj (I : Inv X pins σ H s) : ∀ {v : V} {d d' : D}, RepD X.K H Fz v d → RepD X.K H Fz' v d' → d = d'
  | _, _, _, .non, h => by cases h; rfl
  | _, _, _, .bl b, h => by cases h; rfl
  | _, _, _, .int i, h => by cases h; rfl
  | _, _, _, .str x, h => by cases h; rfl
  | _, _, _, .lst q r, .lst q' r' => by
    have e := I.list_inj q.sq q'.sq
    subst e
    rw [RepDs.inj I r r']
  | _, _, _, .tup q r, .tup q' r' => by
    have e := I.tuple_inj q.sq q'.sq
    subst e
    rw [RepDs.inj I r r']
  | _, _, _, .dK q _ l r, .dK q' _ l' r' => by
    obtain ⟨e1, e2⟩ := zip_inj l l' (rd_dK q q')
    subst e1 e2
    rw [RepDs.inj I r r']
  | _, _, _, .dT q _ l r, .dT q' _ l' r' => by
    obtain ⟨e1, e2⟩ := zip_inj l l' (rd_dT q q')
    subst e1 e2
    rw [RepDs.inj I r r']
  | _, _, _, .lst q _, .tup q' _ => (lst_tup I q q').elim
  | _, _, _, .tup q _, .lst q' _ => (lst_tup I q' q).elim
  | _, _, _, .lst q _, .dK q' _ _ _ => (lst_dict I q (.inl ⟨_, q'⟩)).elim
  | _, _, _, .lst q _, .dT q' _ _ _ => (lst_dict I q (.inr ⟨_, q'⟩)).elim
  | _, _, _, .dK q _ _ _, .lst q' _ => (lst_dict I q' (.inl ⟨_, q⟩)).elim
  | _, _, _, .dT q _ _ _, .lst q' _ => (lst_dict I q' (.inr ⟨_, q⟩)).elim
  | _, _, _, .tup q _, .dK q' _ _ _ => (tup_dict I q (.inl ⟨_, q'⟩)).elim
  | _, _, _, .tup q _, .dT q' _ _ _ => (tup_dict I q (.inr ⟨_, q'⟩)).elim
  | _, _, _, .dK q _ _ _, .tup q' _ => (tup_dict I q' (.inl ⟨_, q⟩)).elim
  | _, _, _, .dT q _ _ _, .tup q' _ => (tup_dict I q' (.inr ⟨_, q⟩)).elim
  | _, _, _, .dK q _ _ _, .dT q' _ _ _ => (rd_dKT q q').elim
  | _, _, _, .dT q _ _ _, .dK q' _ _ _ => (rd_dKT q' q).elim
theorem RepDs.inj (I : Inv X pins σ H s) : ∀ {vs : List V} {ds ds' : List D}, RepDs X.K H Fz vs ds → RepDs X.K H Fz' vs ds' → ds = ds'
  | _, _, _, .nil, .nil => rfl
  | _, _, _, .cons a b, .cons a' b' => by rw [RepD.inj I a a', RepDs.inj I b b']
end
/-! ### equal to itself -/
mutual
theorem eqx_self : ∀ (n : Nat) (d : D), cmpb n d d = true → eqx d d = true
  | _, .none, _ => by simp [eqx]
  | _, .bool b, _ => by simp [eqx]
  | _, .int i, _ => by simp [eqx]
  | _, .str x, _ => by simp [eqx]
  | 0, .list xs, h => by simp [cmpb] at h
  | 0, .tuple xs, h => by simp [cmpb] at h
  | n + 1, .list xs, h => by rw [eqx]; exact eqxs_self n xs (by simpa [cmpb] using h)
  | n + 1, .tuple xs, h => by rw [eqx]; exact eqxs_self n xs (by simpa [cmpb] using h)
  | n, .dict kvs, h => by cases n <;> simpa [cmpb, eqx] using h
theorem eqxs_self : ∀ (n : Nat) (ds : List D), cmpbs n ds ds = true → eqxs ds ds = true
  | _, [], _ => by simp [eqxs]
  | n, d :: ds, h => by
    rw [cmpbs, Bool.and_eq_true] at h
    rw [eqxs, eqx_self n d h.1, eqxs_self n ds h.2]
    rfl
end
theorem eqxs_len : ∀ {xs ys : List D}, eqxs xs ys = true → xs.length = ys.length
  | [], [], _ => rfl
  | [], _ :: _, h => by simp [eqxs] at h
  | _ :: _, [], h => by simp [eqxs] at h
  | x :: xs, y :: ys, h => by
    rw [eqxs, Bool.and_eq_true] at h
    rw [List.length_cons, List.length_cons, eqxs_len h.2]
def eqAtD (xs ys : List D) (j : Nat) : Bool := match xs[j]?, ys[j]? with
  | some x, some y => eqx x y
  | _, _ => false
theorem eqxs_all : ∀ (xs ys : List D), eqxs xs ys = ((List.range (min xs.length ys.length)).all (eqAtD xs ys) && xs.length == ys.length)
  | [], [] => by simp [eqxs]
  | [], _ :: _ => by simp [eqxs]
  | _ :: _, [] => by simp [eqxs]
  | x :: xs, y :: ys => by
    rw [eqxs, eqxs_all xs ys, List.length_cons, List.length_cons]
    have e : min (xs.length + 1) (ys.length + 1) = min xs.length ys.length + 1 := by omega
    rw [e, List.range_succ_eq_map, List.all_cons, List.all_map]
    have e2 : eqAtD (x :: xs) (y :: ys) 0 = eqx x y := rfl
    have e3 : (eqAtD (x :: xs) (y :: ys) ∘ Nat.succ) = eqAtD xs ys := by
      funext j
      simp [eqAtD]
    rw [e2, e3, Bool.and_assoc]
    have e4 : (xs.length + 1 == ys.length + 1) = (xs.length == ys.length) := by simp
    rw [e4]
theorem cmpbs_at {n : Nat} : ∀ {xs ys : List D}, cmpbs n xs ys = true → ∀ {j : Nat} {x y : D}, xs[j]? = some x → ys[j]? = some y → cmpb n x y = true
  | [], _, _, _, _, _, h, _ => by simp at h
  | _ :: _, [], _, _, _, _, _, h => by simp at h
  | a :: xs, b :: ys, h, 0, x, y, h1, h2 => by
    rw [cmpbs, Bool.and_eq_true] at h
    simp at h1 h2
    subst h1 h2
    exact h.1
  | a :: xs, b :: ys, h, j + 1, x, y, h1, h2 => by
    rw [cmpbs, Bool.and_eq_true] at h
    exact cmpbs_at h.2 (by simpa using h1) (by simpa using h2)
/-- two empty dicts -/
theorem empty_dict (I : Inv X pins σ H s) {v : V} {u : Value} {kvs : List (D × D)} (h : RepD X.K H Fz v (.dict kvs)) (hk : kvs.isEmpty = true) (r : RelV v u) :
    ∃ a, u = .ref a ∧ (a == sysModules) = false ∧ ∀ (prog : Program) (w : World), s.heap.DictOf (mixKind prog w) a [] := by
  have en : kvs = [] := List.isEmpty_iff.mp hk
  subst en
  generalize hd : (PyData.dict []) = d at h
  cases h with
  | non => cases hd
  | bl => cases hd
  | int => cases hd
  | str => cases hd
  | lst => cases hd
  | tup => cases hd
  | dK q f l rs =>
    rename_i a ks vs ds
    injection hd with hd
    have hl := rs.len
    have ez : ks = [] := by
      cases ks with
      | nil => rfl
      | cons k ks =>
        cases ds with
        | nil => rw [hl] at l; cases l
        | cons => simp at hd
    subst ez
    obtain ⟨_, z, vs', r', o, es, ep, e, x, dd, ko, pr, nd⟩ := dk_rd I.hok q.1
    cases r
    refine ⟨a, rfl, z, fun prog w => ⟨o, es, ep, e, x, dd, ?_⟩⟩
    simp only [List.zip_nil_left] at r'
    cases r'
    have : es = #[] := by
      have := pr
      cases hes : es.toList with
      | nil => simpa using hes
      | cons a b => rw [hes] at this; cases this
    subst this
    exact ⟨fun e h => by simp at h, .nil, List.nodup_nil⟩
  | dT q f l rs =>
    rename_i a ks vs ds
    injection hd with hd
    have hl := rs.len
    have ez : ks = [] := by
      cases ks with
      | nil => rfl
      | cons k ks =>
        cases ds with
        | nil => rw [hl] at l; cases l
        | cons => simp at hd
    subst ez
    obtain ⟨_, z, xs, r', o, es, ep, e, x, dd, pr, _⟩ := dt_rd I.hok q.1
    cases r
    refine ⟨a, rfl, z, fun prog w => ⟨o, es, ep, e, x, dd, ?_⟩⟩
    simp only [List.zip_nil_left] at r'
    cases r'
    have : es = #[] := by simpa using pr
    subst this
    exact ⟨fun e h => by simp at h, .nil, List.nodup_nil⟩
theorem vals_at {vs : List V} {its : List Value} (r : Vals vs its) {ds : List D} (rd : RepDs K H Fz vs ds) {j : Nat} (h : j < its.toArray.size) : ∃ v d, vs[j]? = some v ∧ ds[j]? = some d ∧ RelV v its.toArray[j] ∧ RepD K H Fz v d := by
  have hj : j < vs.length := by rw [r.length]; simpa using h
  obtain ⟨u, e, ru⟩ := Vals.get r (List.getElem?_eq_getElem hj)
  obtain ⟨d, ed, rr⟩ := rd.getV (List.getElem?_eq_getElem hj)
  refine ⟨vs[j], d, List.getElem?_eq_getElem hj, ed, ?_, rr⟩
  have : its[j]? = some its.toArray[j] := by simp at h ⊢
  rw [this] at e
  cases e
  exact ru
/-- a value that is no dict, and where it stands -/
inductive Sh (s : Shared) : Value → D → Prop
  | none : Sh s .none .none
  | bool (b : Bool) : Sh s (.bool b) (.bool b)
  | int (i : Int) (t : Tok) : Sh s (.int i t) (.int i)
  | str (x : Str) (t : Tok) : Sh s (.str x t) (.str x)
  | lst {a : Addr} {its : Array Value} {ds : List D} : s.heap.IsList a its → Sh s (.ref a) (.list ds)
  | tup {a : Addr} {its : Array Value} {ds : List D} : s.heap.IsTuple a its → Sh s (.ref a) (.tuple ds)
theorem RepD.sh (I : Inv X pins σ H s) {v : V} {u : Value} {d : D} (h : RepD X.K H Fz v d) (r : RelV v u) : Sh s u d ∨ ∃ kvs, d = .dict kvs := by
  cases h with
  | non => cases r; exact .inl .none
  | bl b => cases r; exact .inl (.bool b)
  | int i => obtain ⟨t, rfl⟩ := r; exact .inl (.int i t)
  | str x => obtain ⟨t, rfl⟩ := r; exact .inl (.str x t)
  | lst q _ => cases r; obtain ⟨_, _, p⟩ := q.obj I; exact .inl (.lst p)
  | tup q _ => cases r; obtain ⟨_, _, p⟩ := q.obj I; exact .inl (.tup (isTup_tuple p))
  | dK q _ l r => exact .inr ⟨_, rfl⟩
  | dT q _ l r => exact .inr ⟨_, rfl⟩
def bothSeq : D → D → Bool
  | .list _, .list _ => true
  | .tuple _, .tuple _ => true
  | _, _ => false
theorem eq_mixed {A : Around} (hu : A.units < cLine) : ∀ {u1 u2 : Value} {d1 d2 : D}, Sh s u1 d1 → Sh s u2 d2 → bothSeq d1 d2 = false → SeqAt.EqAt A s u1 u2 (eqx d1 d2)
  | _, _, _, _, .none, .none, _ => SeqAt.EqAt.same _
  | _, _, _, _, .none, .bool b2, _ => SeqAt.EqAt.none_bool _
  | _, _, _, _, .none, .int i2 t2, _ => SeqAt.EqAt.none_int _ _
  | _, _, _, _, .none, .str x2 t2, _ => SeqAt.EqAt.none_str _ _
  | _, _, _, _, .none, .lst p2, _ => SeqAt.EqAt.none_list p2 hu
  | _, _, _, _, .none, .tup p2, _ => SeqAt.EqAt.none_tuple p2 hu
  | _, _, _, _, .bool b1, .none, _ => SeqAt.EqAt.bool_none _
  | _, _, _, _, .bool b1, .bool b2, _ => SeqAt.EqAt.bool_bool _ _
  | _, _, _, _, .bool b1, .int i2 t2, _ => SeqAt.EqAt.bool_int _ _ _
  | _, _, _, _, .bool b1, .str x2 t2, _ => SeqAt.EqAt.bool_str _ _ _
  | _, _, _, _, .bool b1, .lst p2, _ => SeqAt.EqAt.bool_list _ p2 hu
  | _, _, _, _, .bool b1, .tup p2, _ => SeqAt.EqAt.bool_tuple _ p2 hu
  | _, _, _, _, .int i1 t1, .none, _ => SeqAt.EqAt.int_none _ _
  | _, _, _, _, .int i1 t1, .bool b2, _ => SeqAt.EqAt.int_bool _ _ _
  | _, _, _, _, .int i1 t1, .int i2 t2, _ => SeqAt.EqAt.int_int _ _ _ _
  | _, _, _, _, .int i1 t1, .str x2 t2, _ => SeqAt.EqAt.int_str _ _ _ _
  | _, _, _, _, .int i1 t1, .lst p2, _ => SeqAt.EqAt.int_list _ _ p2 hu
  | _, _, _, _, .int i1 t1, .tup p2, _ => SeqAt.EqAt.int_tuple _ _ p2 hu
  | _, _, _, _, .str x1 t1, .none, _ => SeqAt.EqAt.str_none _ _
  | _, _, _, _, .str x1 t1, .bool b2, _ => SeqAt.EqAt.str_bool _ _ _
  | _, _, _, _, .str x1 t1, .int i2 t2, _ => SeqAt.EqAt.str_int _ _ _ _
  | _, _, _, _, .str x1 t1, .str x2 t2, _ => SeqAt.EqAt.str_str _ _ _ _
  | _, _, _, _, .str x1 t1, .lst p2, _ => SeqAt.EqAt.str_list _ _ p2 hu
  | _, _, _, _, .str x1 t1, .tup p2, _ => SeqAt.EqAt.str_tuple _ _ p2 hu
  | _, _, _, _, .lst p1, .none, _ => SeqAt.EqAt.list_none p1 hu
  | _, _, _, _, .lst p1, .bool b2, _ => SeqAt.EqAt.list_bool _ p1 hu
  | _, _, _, _, .lst p1, .int i2 t2, _ => SeqAt.EqAt.list_int _ _ p1 hu
  | _, _, _, _, .lst p1, .str x2 t2, _ => SeqAt.EqAt.list_str _ _ p1 hu
  | _, _, _, _, .lst p1, .lst p2, h => by cases h
  | _, _, _, _, .lst p1, .tup p2, _ => SeqAt.EqAt.list_tuple p1 p2 hu
  | _, _, _, _, .tup p1, .none, _ => SeqAt.EqAt.tuple_none p1 hu
  | _, _, _, _, .tup p1, .bool b2, _ => SeqAt.EqAt.tuple_bool _ p1 hu
  | _, _, _, _, .tup p1, .int i2 t2, _ => SeqAt.EqAt.tuple_int _ _ p1 hu
  | _, _, _, _, .tup p1, .str x2 t2, _ => SeqAt.EqAt.tuple_str _ _ p1 hu
  | _, _, _, _, .tup p1, .lst p2, _ => SeqAt.EqAt.tuple_list p1 p2 hu
  | _, _, _, _, .tup p1, .tup p2, h => by cases h
theorem eq_dicts (I : Inv X pins σ H s) {A : Around} (hu : A.units < cLine) {v1 v2 : V} {u1 u2 : Value} {k1 k2 : List (D × D)} (h1 : RepD X.K H Fz v1 (.dict k1)) (h2 : RepD X.K H Fz' v2 (.dict k2)) (r1 : RelV v1 u1) (r2 : RelV v2 u2) (e1 : k1.isEmpty = true) (e2 : k2.isEmpty = true) : SeqAt.EqAt A s u1 u2 true := by
  obtain ⟨a, rfl, za, da⟩ := empty_dict I h1 e1 r1
  obtain ⟨b, rfl, zb, db⟩ := empty_dict I h2 e2 r2
  by_cases e : a = b
  · subst e; exact SeqAt.EqAt.same _
  · exact SeqAt.EqAt.of_refs e fun prog w E Q h => PySem.W.rcP_dicts (knd := mixKind prog w) (r := true) za zb (da prog w) (db prog w) hu (fun _ => .nil) E Q (by simpa using h)
/-- == of data that stand in the heap -/
theorem eq_at (I : Inv X pins σ H s) : ∀ (n : Nat) (A : Around) {Fz Fz' : Addr → Prop} {v1 v2 : V} {u1 u2 : Value} {d1 d2 : D}, RepD X.K H Fz v1 d1 → RepD X.K H Fz' v2 d2 → RelV v1 u1 → RelV v2 u2 → cmpb n d1 d2 = true → A.units + n < cLine → SeqAt.EqAt A s u1 u2 (eqx d1 d2) := by
  intro n
  induction n with
  | zero =>
    intro A Fz Fz' v1 v2 u1 u2 d1 d2 h1 h2 r1 r2 c hu
    rcases h1.sh I r1 with s1 | ⟨k1, rfl⟩
    · rcases h2.sh I r2 with s2 | ⟨k2, rfl⟩
      · exact eq_mixed (by omega) s1 s2 (by cases s1 <;> cases s2 <;> first | rfl | simp [cmpb] at c)
      · cases s1 <;> simp [cmpb] at c
    · rcases h2.sh I r2 with s2 | ⟨k2, rfl⟩
      · cases s2 <;> simp [cmpb] at c
      · rw [cmpb, Bool.and_eq_true] at c
        rw [eqx, c.1, c.2]
        exact eq_dicts I (by omega) h1 h2 r1 r2 c.1 c.2
  | succ n ih =>
    intro A Fz Fz' v1 v2 u1 u2 d1 d2 h1 h2 r1 r2 c hu
    rcases h1.sh I r1 with s1 | ⟨k1, rfl⟩
    · rcases h2.sh I r2 with s2 | ⟨k2, rfl⟩
      · cases hb : bothSeq d1 d2 with
        | false => exact eq_mixed (by omega) s1 s2 hb
        | true =>
          cases d1 with
          | list xs =>
            cases d2 with
            | list ys =>
              obtain ⟨a, vs, rfl, q, rs⟩ := h1.lst_inv
              obtain ⟨b, us, rfl, q', rs'⟩ := h2.lst_inv
              cases r1
              cases r2
              by_cases e : a = b
              · subst e
                have e2 := RepD.inj I h1 h2
                rw [← e2] at c ⊢
                rw [eqx_self _ _ c]
                exact SeqAt.EqAt.same _
              · rw [cmpb] at c
                obtain ⟨its, rv, p⟩ := q.obj I
                obtain ⟨its', rv', p'⟩ := q'.obj I
                have l1 : its.length = xs.length := by rw [← rv.length, rs.len]
                have l2 : its'.length = ys.length := by rw [← rv'.length, rs'.len]
                rw [eqx]
                by_cases el : xs.length = ys.length
                · rw [eqxs_all]
                  have ez : (xs.length == ys.length) = true := by simpa using el
                  rw [ez, Bool.and_true]
                  have er : min xs.length ys.length = its.toArray.size := by simp; omega
                  rw [er]
                  refine SeqAt.EqAt.of_refs e (SeqAt.RcAt.lists p p' (by simp; omega) (by omega) fun j z1 z2 => ?_)
                  obtain ⟨v, d, _, ed, ru, rr⟩ := vals_at rv rs z1
                  obtain ⟨v', d', _, ed', ru', rr'⟩ := vals_at rv' rs' z2
                  have := ih A.in1 rr rr' ru ru' (cmpbs_at c ed ed') (by show A.units + 1 + n < cLine; omega)
                  simpa only [eqAtD, ed, ed'] using this
                · have ef : eqxs xs ys = false := by
                    cases z : eqxs xs ys with
                    | false => rfl
                    | true => exact absurd (eqxs_len z) el
                  rw [ef]
                  exact SeqAt.EqAt.of_refs e (SeqAt.RcAt.lists_lengths p p' (by simp; omega) (by omega))
            | _ => cases hb
          | tuple xs =>
            cases d2 with
            | tuple ys =>
              obtain ⟨a, vs, rfl, q, rs⟩ := h1.tup_inv
              obtain ⟨b, us, rfl, q', rs'⟩ := h2.tup_inv
              cases r1
              cases r2
              by_cases e : a = b
              · subst e
                have e2 := RepD.inj I h1 h2
                rw [← e2] at c ⊢
                rw [eqx_self _ _ c]
                exact SeqAt.EqAt.same _
              · rw [cmpb] at c
                obtain ⟨its, rv, p⟩ := q.obj I
                obtain ⟨its', rv', p'⟩ := q'.obj I
                have l1 : its.length = xs.length := by rw [← rv.length, rs.len]
                have l2 : its'.length = ys.length := by rw [← rv'.length, rs'.len]
                rw [eqx, eqxs_all]
                have er : min xs.length ys.length = min its.toArray.size its'.toArray.size := by simp; omega
                have ez : (xs.length == ys.length) = (its.toArray.size == its'.toArray.size) := by simp; rw [l1, l2]
                rw [er, ez]
                refine SeqAt.EqAt.of_refs e (SeqAt.RcAt.tuples (isTup_tuple p) (isTup_tuple p') (by omega) fun j z1 z2 => ?_)
                obtain ⟨v, d, _, ed, ru, rr⟩ := vals_at rv rs z1
                obtain ⟨v', d', _, ed', ru', rr'⟩ := vals_at rv' rs' z2
                have := ih A.in1 rr rr' ru ru' (cmpbs_at c ed ed') (by show A.units + 1 + n < cLine; omega)
                simpa only [eqAtD, ed, ed'] using this
            | _ => cases hb
          | _ => cases hb
      · cases s1 <;> simp [cmpb] at c
    · rcases h2.sh I r2 with s2 | ⟨k2, rfl⟩
      · cases s2 <;> simp [cmpb] at c
      · rw [cmpb, Bool.and_eq_true] at c
        rw [eqx, c.1, c.2]
        exact eq_dicts I (by omega) h1 h2 r1 r2 c.1 c.2
end
end TA

set_option Elab.async false
set_option linter.all false
set_option maxRecDepth 100000
/-! TaEq2: ==, !=, in as operators. -/
namespace TA
open PySem PySem.Spec PyProof.Rows L2
section
variable {X : Cx} {B : Tb} {K : PySem.W.Frag} {F : Nat → List W → FRes} {Wx : WX} {H H' H0 H1 : Hp} {Fz Fz' Fz1 Fz0 : Addr → Prop} {S S' S1 S0 : Own} {σ : L2.St} {m : Md} {q q' : Bool} {Q Q' : VK} {env : Env} {pins : List (Addr × Obj)} {s : Shared}
theorem rc_mixed {A : Around} (hu : A.units < cLine) : ∀ {u1 u2 : Value} {d1 d2 : D}, Sh s u1 d1 → Sh s u2 d2 → bothSeq d1 d2 = false → SeqAt.RcAt A s u1 u2 (eqx d1 d2)
  | _, _, _, _, .none, .none, _ => SeqAt.RcAt.none_none
  | _, _, _, _, .none, .bool b2, _ => SeqAt.RcAt.none_bool _
  | _, _, _, _, .none, .int i2 t2, _ => SeqAt.RcAt.none_int _ _
  | _, _, _, _, .none, .str x2 t2, _ => SeqAt.RcAt.none_str _ _
  | _, _, _, _, .none, .lst p2, _ => SeqAt.RcAt.none_list p2 hu
  | _, _, _, _, .none, .tup p2, _ => SeqAt.RcAt.none_tuple p2 hu
  | _, _, _, _, .bool b1, .none, _ => SeqAt.RcAt.bool_none _
  | _, _, _, _, .bool b1, .bool b2, _ => SeqAt.RcAt.bool_bool _ _
  | _, _, _, _, .bool b1, .int i2 t2, _ => SeqAt.RcAt.bool_int _ _ _
  | _, _, _, _, .bool b1, .str x2 t2, _ => SeqAt.RcAt.bool_str _ _ _
  | _, _, _, _, .bool b1, .lst p2, _ => SeqAt.RcAt.bool_list _ p2 hu
  | _, _, _, _, .bool b1, .tup p2, _ => SeqAt.RcAt.bool_tuple _ p2 hu
  | _, _, _, _, .int i1 t1, .none, _ => SeqAt.RcAt.int_none _ _
  | _, _, _, _, .int i1 t1, .bool b2, _ => SeqAt.RcAt.int_bool _ _ _
  | _, _, _, _, .int i1 t1, .int i2 t2, _ => SeqAt.RcAt.int_int _ _ _ _
  | _, _, _, _, .int i1 t1, .str x2 t2, _ => SeqAt.RcAt.int_str _ _ _ _
  | _, _, _, _, .int i1 t1, .lst p2, _ => SeqAt.RcAt.int_list _ _ p2 hu
  | _, _, _, _, .int i1 t1, .tup p2, _ => SeqAt.RcAt.int_tuple _ _ p2 hu
  | _, _, _, _, .str x1 t1, .none, _ => SeqAt.RcAt.str_none _ _
  | _, _, _, _, .str x1 t1, .bool b2, _ => SeqAt.RcAt.str_bool _ _ _
  | _, _, _, _, .str x1 t1, .int i2 t2, _ => SeqAt.RcAt.str_int _ _ _ _
  | _, _, _, _, .str x1 t1, .str x2 t2, _ => SeqAt.RcAt.str_str _ _ _ _
  | _, _, _, _, .str x1 t1, .lst p2, _ => SeqAt.RcAt.str_list _ _ p2 hu
  | _, _, _, _, .str x1 t1, .tup p2, _ => SeqAt.RcAt.str_tuple _ _ p2 hu
  | _, _, _, _, .lst p1, .none, _ => SeqAt.RcAt.list_none p1 hu
  | _, _, _, _, .lst p1, .bool b2, _ => SeqAt.RcAt.list_bool _ p1 hu
  | _, _, _, _, .lst p1, .int i2 t2, _ => SeqAt.RcAt.list_int _ _ p1 hu
  | _, _, _, _, .lst p1, .str x2 t2, _ => SeqAt.RcAt.list_str _ _ p1 hu
  | _, _, _, _, .lst p1, .lst p2, h => by cases h
  | _, _, _, _, .lst p1, .tup p2, _ => SeqAt.RcAt.list_tuple p1 p2 hu
  | _, _, _, _, .tup p1, .none, _ => SeqAt.RcAt.tuple_none p1 hu
  | _, _, _, _, .tup p1, .bool b2, _ => SeqAt.RcAt.tuple_bool _ p1 hu
  | _, _, _, _, .tup p1, .int i2 t2, _ => SeqAt.RcAt.tuple_int _ _ p1 hu
  | _, _, _, _, .tup p1, .str x2 t2, _ => SeqAt.RcAt.tuple_str _ _ p1 hu
  | _, _, _, _, .tup p1, .lst p2, _ => SeqAt.RcAt.tuple_list p1 p2 hu
  | _, _, _, _, .tup p1, .tup p2, h => by cases h
theorem rc_at (I : Inv X pins σ H s) (n : Nat) (A : Around) {Fz Fz' : Addr → Prop} {v1 v2 : V} {u1 u2 : Value} {d1 d2 : D} (h1 : RepD X.K H Fz v1 d1) (h2 : RepD X.K H Fz' v2 d2) (r1 : RelV v1 u1) (r2 : RelV v2 u2) (c : cmpb (n + 1) d1 d2 = true) (n1 : isDict d1 = false) (n2 : isDict d2 = false) (hu : A.units + (n + 1) < cLine) : SeqAt.RcAt A s u1 u2 (eqx d1 d2) := by
  rcases h1.sh I r1 with s1 | ⟨k1, rfl⟩
  · rcases h2.sh I r2 with s2 | ⟨k2, rfl⟩
    · cases hb : bothSeq d1 d2 with
      | false => exact rc_mixed (by omega) s1 s2 hb
      | true =>
        cases d1 with
        | list xs =>
          cases d2 with
          | list ys =>
            obtain ⟨a, vs, rfl, q, rs⟩ := h1.lst_inv
            obtain ⟨b, us, rfl, q', rs'⟩ := h2.lst_inv
            cases r1
            cases r2
            rw [cmpb] at c
            obtain ⟨its, rv, p⟩ := q.obj I
            obtain ⟨its', rv', p'⟩ := q'.obj I
            have l1 : its.length = xs.length := by rw [← rv.length, rs.len]
            have l2 : its'.length = ys.length := by rw [← rv'.length, rs'.len]
            have he : ∀ j (z1 : j < its.toArray.size) (z2 : j < its'.toArray.size), SeqAt.EqAt A.in1 s its.toArray[j] its'.toArray[j] (eqAtD xs ys j) := fun j z1 z2 => by
              obtain ⟨v, d, _, ed, ru, rr⟩ := vals_at rv rs z1
              obtain ⟨v', d', _, ed', ru', rr'⟩ := vals_at rv' rs' z2
              have := eq_at I n A.in1 rr rr' ru ru' (cmpbs_at c ed ed') (by show A.units + 1 + n < cLine; omega)
              simpa only [eqAtD, ed, ed'] using this
            rw [eqx]
            by_cases el : xs.length = ys.length
            · rw [eqxs_all]
              have ez : (xs.length == ys.length) = true := by simpa using el
              rw [ez, Bool.and_true]
              have er : min xs.length ys.length = its.toArray.size := by simp; omega
              rw [er]
              exact SeqAt.RcAt.lists p p' (by simp; omega) (by omega) he
            · have ef : eqxs xs ys = false := by
                cases z : eqxs xs ys with
                | false => rfl
                | true => exact absurd (eqxs_len z) el
              rw [ef]
              exact SeqAt.RcAt.lists_lengths p p' (by simp; omega) (by omega)
          | _ => cases hb
        | tuple xs =>
          cases d2 with
          | tuple ys =>
            obtain ⟨a, vs, rfl, q, rs⟩ := h1.tup_inv
            obtain ⟨b, us, rfl, q', rs'⟩ := h2.tup_inv
            cases r1
            cases r2
            rw [cmpb] at c
            obtain ⟨its, rv, p⟩ := q.obj I
            obtain ⟨its', rv', p'⟩ := q'.obj I
            have l1 : its.length = xs.length := by rw [← rv.length, rs.len]
            have l2 : its'.length = ys.length := by rw [← rv'.length, rs'.len]
            have he : ∀ j (z1 : j < its.toArray.size) (z2 : j < its'.toArray.size), SeqAt.EqAt A.in1 s its.toArray[j] its'.toArray[j] (eqAtD xs ys j) := fun j z1 z2 => by
              obtain ⟨v, d, _, ed, ru, rr⟩ := vals_at rv rs z1
              obtain ⟨v', d', _, ed', ru', rr'⟩ := vals_at rv' rs' z2
              have := eq_at I n A.in1 rr rr' ru ru' (cmpbs_at c ed ed') (by show A.units + 1 + n < cLine; omega)
              simpa only [eqAtD, ed, ed'] using this
            rw [eqx]
            rw [eqxs_all]
            have er : min xs.length ys.length = min its.toArray.size its'.toArray.size := by simp; omega
            have ez : (xs.length == ys.length) = (its.toArray.size == its'.toArray.size) := by simp; rw [l1, l2]
            rw [er, ez]
            exact SeqAt.RcAt.tuples (isTup_tuple p) (isTup_tuple p') (by omega) he
          | _ => cases hb
        | _ => cases hb
    · cases n2
  · cases n1
theorem ne_mixed {A : Around} (hu : A.units < cLine) : ∀ {u1 u2 : Value} {d1 d2 : D}, Sh s u1 d1 → Sh s u2 d2 → bothSeq d1 d2 = false → SeqAt.RcNeAt A s u1 u2 (!eqx d1 d2)
  | _, _, _, _, .none, .none, _ => SeqAt.RcNeAt.none_none
  | _, _, _, _, .none, .bool b2, _ => SeqAt.RcNeAt.none_bool _
  | _, _, _, _, .none, .int i2 t2, _ => SeqAt.RcNeAt.none_int _ _
  | _, _, _, _, .none, .str x2 t2, _ => SeqAt.RcNeAt.none_str _ _
  | _, _, _, _, .none, .lst p2, _ => SeqAt.RcNeAt.none_list p2 hu
  | _, _, _, _, .none, .tup p2, _ => SeqAt.RcNeAt.none_tuple p2 hu
  | _, _, _, _, .bool b1, .none, _ => SeqAt.RcNeAt.bool_none _
  | _, _, _, _, .bool b1, .bool b2, _ => SeqAt.RcNeAt.bool_bool _ _
  | _, _, _, _, .bool b1, .int i2 t2, _ => SeqAt.RcNeAt.bool_int _ _ _
  | _, _, _, _, .bool b1, .str x2 t2, _ => SeqAt.RcNeAt.bool_str _ _ _
  | _, _, _, _, .bool b1, .lst p2, _ => SeqAt.RcNeAt.bool_list _ p2 hu
  | _, _, _, _, .bool b1, .tup p2, _ => SeqAt.RcNeAt.bool_tuple _ p2 hu
  | _, _, _, _, .int i1 t1, .none, _ => SeqAt.RcNeAt.int_none _ _
  | _, _, _, _, .int i1 t1, .bool b2, _ => SeqAt.RcNeAt.int_bool _ _ _
  | _, _, _, _, .int i1 t1, .int i2 t2, _ => SeqAt.RcNeAt.int_int _ _ _ _
  | _, _, _, _, .int i1 t1, .str x2 t2, _ => SeqAt.RcNeAt.int_str _ _ _ _
  | _, _, _, _, .int i1 t1, .lst p2, _ => SeqAt.RcNeAt.int_list _ _ p2 hu
  | _, _, _, _, .int i1 t1, .tup p2, _ => SeqAt.RcNeAt.int_tuple _ _ p2 hu
  | _, _, _, _, .str x1 t1, .none, _ => SeqAt.RcNeAt.str_none _ _
  | _, _, _, _, .str x1 t1, .bool b2, _ => SeqAt.RcNeAt.str_bool _ _ _
  | _, _, _, _, .str x1 t1, .int i2 t2, _ => SeqAt.RcNeAt.str_int _ _ _ _
  | _, _, _, _, .str x1 t1, .str x2 t2, _ => SeqAt.RcNeAt.str_str _ _ _ _
  | _, _, _, _, .str x1 t1, .lst p2, _ => SeqAt.RcNeAt.str_list _ _ p2 hu
  | _, _, _, _, .str x1 t1, .tup p2, _ => SeqAt.RcNeAt.str_tuple _ _ p2 hu
  | _, _, _, _, .lst p1, .none, _ => SeqAt.RcNeAt.list_none p1 hu
  | _, _, _, _, .lst p1, .bool b2, _ => SeqAt.RcNeAt.list_bool _ p1 hu
  | _, _, _, _, .lst p1, .int i2 t2, _ => SeqAt.RcNeAt.list_int _ _ p1 hu
  | _, _, _, _, .lst p1, .str x2 t2, _ => SeqAt.RcNeAt.list_str _ _ p1 hu
  | _, _, _, _, .lst p1, .lst p2, h => by cases h
  | _, _, _, _, .lst p1, .tup p2, _ => SeqAt.RcNeAt.list_tuple p1 p2 hu
  | _, _, _, _, .tup p1, .none, _ => SeqAt.RcNeAt.tuple_none p1 hu
  | _, _, _, _, .tup p1, .bool b2, _ => SeqAt.RcNeAt.tuple_bool _ p1 hu
  | _, _, _, _, .tup p1, .int i2 t2, _ => SeqAt.RcNeAt.tuple_int _ _ p1 hu
  | _, _, _, _, .tup p1, .str x2 t2, _ => SeqAt.RcNeAt.tuple_str _ _ p1 hu
  | _, _, _, _, .tup p1, .lst p2, _ => SeqAt.RcNeAt.tuple_list p1 p2 hu
  | _, _, _, _, .tup p1, .tup p2, h => by cases h
theorem ne_at (I : Inv X pins σ H s) (n : Nat) (A : Around) {Fz Fz' : Addr → Prop} {v1 v2 : V} {u1 u2 : Value} {d1 d2 : D} (h1 : RepD X.K H Fz v1 d1) (h2 : RepD X.K H Fz' v2 d2) (r1 : RelV v1 u1) (r2 : RelV v2 u2) (c : cmpb (n + 1) d1 d2 = true) (n1 : isDict d1 = false) (n2 : isDict d2 = false) (hu : A.units + (n + 1) < cLine) : SeqAt.RcNeAt A s u1 u2 (!eqx d1 d2) := by
  rcases h1.sh I r1 with s1 | ⟨k1, rfl⟩
  · rcases h2.sh I r2 with s2 | ⟨k2, rfl⟩
    · cases hb : bothSeq d1 d2 with
      | false => exact ne_mixed (by omega) s1 s2 hb
      | true =>
        cases d1 with
        | list xs =>
          cases d2 with
          | list ys =>
            obtain ⟨a, vs, rfl, q, rs⟩ := h1.lst_inv
            obtain ⟨b, us, rfl, q', rs'⟩ := h2.lst_inv
            cases r1
            cases r2
            rw [cmpb] at c
            obtain ⟨its, rv, p⟩ := q.obj I
            obtain ⟨its', rv', p'⟩ := q'.obj I
            have l1 : its.length = xs.length := by rw [← rv.length, rs.len]
            have l2 : its'.length = ys.length := by rw [← rv'.length, rs'.len]
            have he : ∀ j (z1 : j < its.toArray.size) (z2 : j < its'.toArray.size), SeqAt.EqAt A.in1 s its.toArray[j] its'.toArray[j] (eqAtD xs ys j) := fun j z1 z2 => by
              obtain ⟨v, d, _, ed, ru, rr⟩ := vals_at rv rs z1
              obtain ⟨v', d', _, ed', ru', rr'⟩ := vals_at rv' rs' z2
              have := eq_at I n A.in1 rr rr' ru ru' (cmpbs_at c ed ed') (by show A.units + 1 + n < cLine; omega)
              simpa only [eqAtD, ed, ed'] using this
            rw [eqx]
            by_cases el : xs.length = ys.length
            · rw [eqxs_all]
              have ez : (xs.length == ys.length) = true := by simpa using el
              rw [ez, Bool.and_true]
              have er : min xs.length ys.length = its.toArray.size := by simp; omega
              rw [er]
              exact SeqAt.RcNeAt.lists p p' (by simp; omega) (by omega) he
            · have ef : eqxs xs ys = false := by
                cases z : eqxs xs ys with
                | false => rfl
                | true => exact absurd (eqxs_len z) el
              rw [ef]
              exact SeqAt.RcNeAt.lists_lengths p p' (by simp; omega) (by omega)
          | _ => cases hb
        | tuple xs =>
          cases d2 with
          | tuple ys =>
            obtain ⟨a, vs, rfl, q, rs⟩ := h1.tup_inv
            obtain ⟨b, us, rfl, q', rs'⟩ := h2.tup_inv
            cases r1
            cases r2
            rw [cmpb] at c
            obtain ⟨its, rv, p⟩ := q.obj I
            obtain ⟨its', rv', p'⟩ := q'.obj I
            have l1 : its.length = xs.length := by rw [← rv.length, rs.len]
            have l2 : its'.length = ys.length := by rw [← rv'.length, rs'.len]
            have he : ∀ j (z1 : j < its.toArray.size) (z2 : j < its'.toArray.size), SeqAt.EqAt A.in1 s its.toArray[j] its'.toArray[j] (eqAtD xs ys j) := fun j z1 z2 => by
              obtain ⟨v, d, _, ed, ru, rr⟩ := vals_at rv rs z1
              obtain ⟨v', d', _, ed', ru', rr'⟩ := vals_at rv' rs' z2
              have := eq_at I n A.in1 rr rr' ru ru' (cmpbs_at c ed ed') (by show A.units + 1 + n < cLine; omega)
              simpa only [eqAtD, ed, ed'] using this
            rw [eqx]
            rw [eqxs_all]
            have er : min xs.length ys.length = min its.toArray.size its'.toArray.size := by simp; omega
            have ez : (xs.length == ys.length) = (its.toArray.size == its'.toArray.size) := by simp; rw [l1, l2]
            rw [er, ez]
            exact SeqAt.RcNeAt.tuples (isTup_tuple p) (isTup_tuple p') (by omega) he
          | _ => cases hb
        | _ => cases hb
    · cases n2
  · cases n1

/-- x op y of data that are looked at -/
def rEqX (K : PySem.W.Frag) (neg : Bool) : R2 := fun x y H Q => ∃ d e Fz Fz', RepD K H Fz x d ∧ RepD K H Fz' y e ∧ cmpb 50 d e = true ∧ isDict d = false ∧ isDict e = false ∧ Q (.bl (if neg then !eqx d e else eqx d e)) H
theorem op_eqX (hu : X.A.units + 64 < cLine) : OpR X (compareOp .Eq) (rEqX X.K false) := by
  intro pins s σ H x y v u Q I rx ry ⟨d, e, Fz, Fz', r1, r2, c, n1, n2, qq⟩
  exact rc_at I 49 X.A r1 r2 rx ry c n1 n2 (by omega) X.prog X.w X.xe _ ⟨.bl _, H, I, rfl, qq⟩
theorem op_neX (hu : X.A.units + 64 < cLine) : OpR X (compareOp .NotEq) (rEqX X.K true) := by
  intro pins s σ H x y v u Q I rx ry ⟨d, e, Fz, Fz', r1, r2, c, n1, n2, qq⟩
  exact ne_at I 49 X.A r1 r2 rx ry c n1 n2 (by omega) X.prog X.w X.xe _ ⟨.bl _, H, I, rfl, qq⟩
/-- the data of an item, by choice -/
noncomputable def dOf (K : PySem.W.Frag) (H : Hp) (Fz : Addr → Prop) (u : Value) : D := by
  classical
  exact if h : ∃ d v, RelV v u ∧ RepD K H Fz v d then Classical.choose h else .none
theorem dOf_eq (I : Inv X pins σ H s) {v : V} {u : Value} {d : D} (h : RepD X.K H Fz v d) (r : RelV v u) : dOf X.K H Fz u = d := by
  classical
  have e : ∃ d v, RelV v u ∧ RepD X.K H Fz v d := ⟨d, v, r, h⟩
  unfold dOf
  rw [dif_pos e]
  obtain ⟨v', r', h'⟩ := Classical.choose_spec e
  have ev := RelV.inj r' r
  subst ev
  exact RepD.inj I h' h
def rInX (K : PySem.W.Frag) (neg : Bool) : R2 := fun x y H Q => ∃ d ds a vs Fz Fz', RepD K H Fz' x d ∧ y = .ref a ∧ (SqL K H a vs ∨ SqT K H a vs) ∧ RepDs K H Fz vs ds ∧ (ds.all fun z => cmpb 50 z d) = true ∧ Q (.bl (if neg then !ds.any fun z => eqx z d else ds.any fun z => eqx z d)) H
theorem in_any (I : Inv X pins σ H s) {vs : List V} {its : List Value} {ds : List D} {d : D} {v : V} {u : Value} (hu : X.A.units + 64 < cLine) (rv : Vals vs its) (rs : RepDs X.K H Fz vs ds) (r : RepD X.K H Fz' v d) (ru : RelV v u) (c : (ds.all fun z => cmpb 50 z d) = true) :
    (∀ y, y ∈ its.toArray → SeqAt.EqAt X.A.in1 s y u (eqx (dOf X.K H Fz y) d)) ∧ (its.toArray.any fun y => eqx (dOf X.K H Fz y) d) = ds.any fun z => eqx z d := by
  constructor
  · intro y hy
    obtain ⟨j, hj, e⟩ := List.getElem_of_mem (List.mem_toArray.mp hy)
    obtain ⟨v', d', _, ed, ru', rr⟩ := vals_at rv rs (j := j) (by simpa using hj)
    have ey : its.toArray[j]'(by simpa using hj) = y := by simpa using e
    rw [ey] at ru'
    rw [dOf_eq I rr ru']
    exact eq_at I 50 X.A.in1 rr r ru' ru (List.all_eq_true.mp c d' (List.mem_of_getElem? ed)) (by show X.A.units + 1 + 50 < cLine; omega)
  · have : ∀ {vs : List V} {its : List Value} {ds : List D}, Vals vs its → RepDs X.K H Fz vs ds → (its.any fun y => eqx (dOf X.K H Fz y) d) = ds.any fun z => eqx z d := by
      intro vs its ds rv rs
      induction rv generalizing ds with
      | nil => cases rs; rfl
      | cons a b ih =>
        cases rs with
        | cons a' b' => rw [List.any_cons, List.any_cons, dOf_eq I a' a, ih b']
    have := this rv rs
    simpa using this
theorem op_inX (hu : X.A.units + 64 < cLine) : OpR X (compareOp .In) (rInX X.K false) := by
  intro pins s σ H x y v u Q I rx ry ⟨d, ds, a, vs, Fz, Fz', r, ey, sq, rs, c, qq⟩
  subst ey
  cases ry
  rcases sq with sq | sq
  · obtain ⟨its, rv, p, _⟩ := I.list sq
    obtain ⟨h1, h2⟩ := in_any I hu rv rs r rx c
    exact SeqAt.in_listAt _ p.isList h1 ⟨.bl _, H, I, by rw [h2]; rfl, qq⟩
  · obtain ⟨its, rv, p, _⟩ := I.tuple sq
    obtain ⟨h1, h2⟩ := in_any I hu rv rs r rx c
    exact SeqAt.in_tupleAt _ (isTup_tuple p) h1 ⟨.bl _, H, I, by rw [h2]; rfl, qq⟩
theorem op_notInX (hu : X.A.units + 64 < cLine) : OpR X (compareOp .NotIn) (rInX X.K true) := by
  intro pins s σ H x y v u Q I rx ry ⟨d, ds, a, vs, Fz, Fz', r, ey, sq, rs, c, qq⟩
  subst ey
  cases ry
  rcases sq with sq | sq
  · obtain ⟨its, rv, p, _⟩ := I.list sq
    obtain ⟨h1, h2⟩ := in_any I hu rv rs r rx c
    exact SeqAt.notIn_listAt _ p.isList h1 ⟨.bl _, H, I, by rw [h2]; rfl, qq⟩
  · obtain ⟨its, rv, p, _⟩ := I.tuple sq
    obtain ⟨h1, h2⟩ := in_any I hu rv rs r rx c
    exact SeqAt.notIn_tupleAt _ (isTup_tuple p) h1 ⟨.bl _, H, I, by rw [h2]; rfl, qq⟩
end
end TA

set_option Elab.async false
set_option linter.all false
set_option maxRecDepth 100000
/-! TaSnd5: comparisons; and, or, not as values; a part of a value. -/
namespace TA
open PySem PySem.Spec PyProof.Rows L2
section
variable {X : Cx} {B : Tb} {K : PySem.W.Frag} {F : Nat → List W → FRes} {Wx : WX} {H H' H0 H1 : Hp} {Fz Fz' Fz1 Fz0 : Addr → Prop} {S S' S1 S0 : Own} {σ : L2.St} {m : Md} {q q' : Bool} {Q Q' : VK} {env : Env} {pins : List (Addr × Obj)} {s : Shared}
/-- both operands are looked at -/
abbrev peekCo (F : Nat → List W → FRes) (ia ib : IE) (op : D → D → Option W) : Env → Res (Env × W) := fun env => (evX F ia (md1 (IE.quiet ib) .peek) env).bind fun r => (Res.of r.2.toD).bind fun x => (evX F ib .peek r.1).bind fun q => (Res.of q.2.toD).bind fun y => out1 q.1 (op x y)
theorem peek2_imp {ia ib : IE} {r : R2} {op : D → D → Option W} {q0 : Bool} (hq : q0 = true → IE.quiet ia = true ∧ IE.quiet ib = true)
    (ans : ∀ (x y : V) (dx dy : D) (w : W) (H : Hp) (Fz Fz' : Addr → Prop) (Q : VK), RepD X.K H Fz x dx → RepD X.K H Fz' y dy → op dx dy = some w → (∀ b, w = .val (.bool b) → Q (.bl b) H) → r x y H Q)
    (hb : ∀ dx dy w, op dx dy = some w → ∃ b, w = .val (.bool b)) (h : tCo B X.K Wx q0 (peekCo F ia ib op) σ H Q) : tOp r (tX B X.K F Wx ia (md1 (IE.quiet ib) .peek)) (tX B X.K F Wx ib .peek) σ H Q := by
  obtain ⟨Fz, S, env, R, p⟩ := h
  refine ⟨Fz, S, env, R, PX.bind p (Grow.refl _ _ _) (fun _ => Calm.refl _) (fun z => (hq z).1) fun e1 w1 ev1 p1 v1 H1 Fz1 S1 R1 g1 g1' c1 c1' rm => ?_⟩
  obtain ⟨dx, ex, p1⟩ := p1.of
  have fin : ∀ (Fzm : Addr → Prop) (R2 : Rel X.K H1 Fzm S1 σ e1) (g2 : Grow H Fz S H1 Fzm S1), (∀ (H2 : Hp) (Fz2 : Addr → Prop) (S2 : Own), Grow H1 Fzm S1 H2 Fz2 S2 → (IE.quiet ib = true → Calm H1 H2) → RepP X.K H2 Fz2 v1 dx) → tX B X.K F Wx ib .peek σ H1 fun y H2 => r v1 y H2 Q := by
    intro Fzm R2 g2 hx
    refine ⟨_, S1, e1, R2, PX.bind p1 g2 c1' (fun z => (hq z).2) fun e2 w2 ev2 p2 v2 H2 Fz2 S2 R3 g3 g3' c3 c3' ⟨d2, ew2, r2⟩ => ?_⟩
    obtain ⟨dy, ey, p2⟩ := p2.of
    obtain ⟨w, ew, p2⟩ := p2.out1
    subst ew2
    simp only [W.toD, Option.some.injEq] at ey
    subst ey
    obtain ⟨U, rx⟩ := hx H2 Fz2 S2 g3 c3
    obtain ⟨U2, ry⟩ := r2
    obtain ⟨b, rfl⟩ := hb _ _ _ ew
    exact ans v1 v2 dx d2 _ H2 _ _ Q rx ry ew fun b' eb => by cases eb; exact p2.endD R3 g3' c3' (.bl _)
  cases hqb : IE.quiet ib with
  | true =>
    rw [hqb] at rm
    obtain ⟨d1, ew1, r1⟩ := rm
    subst ew1
    simp only [W.toD, Option.some.injEq] at ex
    subst ex
    exact fin Fz1 R1 g1 fun H2 Fz2 S2 g c => r1.calm g.fz (c hqb)
  | false =>
    rw [hqb] at rm
    obtain ⟨T, rw1, fr1⟩ := rm
    obtain ⟨R2, g2⟩ := R1.sink g1 fr1 rw1.there
    exact fin _ R2 g2 fun H2 Fz2 S2 g c => ((rw1.sunk ex).grow g).p
/-- both operands are looked at; the rule r answers for the data -/
theorem se_peek2 {e : Expr} {ia ib ir : IE} {r : R2} {op : D → D → Option W} (hr : PE X e (tOp r (tX B X.K F Wx ia (md1 (IE.quiet ib) .peek)) (tX B X.K F Wx ib .peek))) (ns : NoStar e)
    (hev : ∀ m env, m ≠ .test → evX F ir m env = m.fin (peekCo F ia ib op env))
    (hq : IE.quiet ir = true → IE.quiet ia = true ∧ IE.quiet ib = true)
    (ans : ∀ (x y : V) (dx dy : D) (w : W) (H : Hp) (Fz Fz' : Addr → Prop) (Q : VK), RepD X.K H Fz x dx → RepD X.K H Fz' y dy → op dx dy = some w → (∀ b, w = .val (.bool b) → Q (.bl b) H) → r x y H Q)
    (hb : ∀ dx dy w, op dx dy = some w → ∃ b, w = .val (.bool b)) : SEx X B F Wx e ir :=
  ⟨SE.core (core := peekCo F ia ib op) (PE.imp hr fun σ H Q h => peek2_imp hq ans hb h) hev, ns⟩
theorem se_cmp {o : COp} {op : CmpOp} {r : R2} {a b : Expr} {ia ib : IE} {pos : Pos} (ho : OpR X (compareOp op) r) (ha : SEx X B F Wx a ia) (hb : SEx X B F Wx b ib) (hm : behindInMarks op b = false)
    (ans : ∀ (x y : V) (dx dy : D) (k : Bool) (H : Hp) (Fz Fz' : Addr → Prop) (Q : VK), RepD X.K H Fz x dx → RepD X.K H Fz' y dy → cmpD o dx dy = some k → Q (.bl k) H → r x y H Q) : SEx X B F Wx (.Compare a [op] [b] pos) (.cmp o ia ib) :=
  se_peek2 (op := cmpW o) (pe_cmpR ho (ha.se _ (by cases IE.quiet ib <;> decide)) (hb.se .peek (by decide)) hm) (fun _ _ => rfl) (fun m env hm => by cases m <;> simp only [evX])
    (fun z => by rw [IE.quiet, Bool.and_eq_true] at z; exact z)
    (fun x y dx dy w H Fz Fz' Q rx ry e hQ => by
      obtain ⟨k, ek, rfl⟩ := Option.map_eq_some_iff.mp e
      exact ans x y dx dy k H Fz Fz' Q rx ry ek (hQ k rfl))
    fun dx dy w e => by
      obtain ⟨k, ek, rfl⟩ := Option.map_eq_some_iff.mp e
      exact ⟨k, rfl⟩
abbrev AnsC (X : Cx) (r : R2) (o : COp) : Prop := ∀ (x y : V) (dx dy : D) (k : Bool) (H : Hp) (Fz Fz' : Addr → Prop) (Q : VK), RepD X.K H Fz x dx → RepD X.K H Fz' y dy → cmpD o dx dy = some k → Q (.bl k) H → r x y H Q
theorem eqD_inv {a b : D} {k : Bool} (h : eqD a b = some k) : cmpb 50 a b = true ∧ isDict a = false ∧ isDict b = false ∧ k = eqx a b := by
  unfold eqD at h
  split at h
  · rename_i c
    cases h
    rw [Bool.and_eq_true, Bool.and_eq_true] at c
    exact ⟨c.1.1, by simpa using c.1.2, by simpa using c.2, rfl⟩
  · cases h
theorem ansc_eq : AnsC X (rEqX X.K false) .eq := fun x y dx dy k H Fz Fz' Q rx ry e hQ => by
  obtain ⟨c, n1, n2, rfl⟩ := eqD_inv e
  exact ⟨_, _, _, _, rx, ry, c, n1, n2, hQ⟩
theorem ansc_ne : AnsC X (rEqX X.K true) .ne := fun x y dx dy k H Fz Fz' Q rx ry e hQ => by
  obtain ⟨k', e', rfl⟩ := Option.map_eq_some_iff.mp e
  obtain ⟨c, n1, n2, rfl⟩ := eqD_inv e'
  exact ⟨_, _, _, _, rx, ry, c, n1, n2, hQ⟩
theorem ansc_int {o : COp} {f : Int → Int → Bool} (hs : ∀ dx dy k, cmpD o dx dy = some k → ∃ i j, dx = .int i ∧ dy = .int j ∧ k = f i j) : AnsC X (rI0 fun i j => .bl (f i j)) o := fun x y dx dy k H Fz Fz' Q rx ry e hQ => by
  obtain ⟨i, j, rfl, rfl, rfl⟩ := hs dx dy k e
  rw [rx.int_inv, ry.int_inv]
  exact ⟨_, _, rfl, rfl, hQ⟩
theorem ansc_lt : AnsC X (rI0 fun i j => .bl (decide (i < j))) .lt := ansc_int fun dx dy k e => by
  cases dx <;> cases dy <;> simp only [cmpD, reduceCtorEq, Option.some.injEq] at e
  exact ⟨_, _, rfl, rfl, e.symm⟩
theorem ansc_le : AnsC X (rI0 fun i j => .bl (decide (i ≤ j))) .le := ansc_int fun dx dy k e => by
  cases dx <;> cases dy <;> simp only [cmpD, reduceCtorEq, Option.some.injEq] at e
  exact ⟨_, _, rfl, rfl, e.symm⟩
theorem ansc_gt : AnsC X (rI0 fun i j => .bl (decide (j < i))) .gt := ansc_int fun dx dy k e => by
  cases dx <;> cases dy <;> simp only [cmpD, reduceCtorEq, Option.some.injEq] at e
  exact ⟨_, _, rfl, rfl, e.symm⟩
theorem ansc_ge : AnsC X (rI0 fun i j => .bl (decide (j ≤ i))) .ge := ansc_int fun dx dy k e => by
  cases dx <;> cases dy <;> simp only [cmpD, reduceCtorEq, Option.some.injEq] at e
  exact ⟨_, _, rfl, rfl, e.symm⟩
theorem non_iff {v : V} {d : D} (h : RepD K H Fz v d) : decide (v = .non) = isNon d := by
  cases h <;> rfl
theorem ansc_isN : AnsC X (fun x y H Q => y = .non ∧ Q (.bl (decide (x = .non))) H) .isnone := fun x y dx dy k H Fz Fz' Q rx ry e hQ => by
  cases dy <;> simp only [cmpD, reduceCtorEq, Option.some.injEq] at e
  refine ⟨ry.non_inv, ?_⟩
  rw [non_iff rx, e]
  exact hQ
theorem ansc_notN : AnsC X (fun x y H Q => y = .non ∧ Q (.bl (!decide (x = .non))) H) .notnone := fun x y dx dy k H Fz Fz' Q rx ry e hQ => by
  cases dy <;> simp only [cmpD, reduceCtorEq, Option.some.injEq] at e
  refine ⟨ry.non_inv, ?_⟩
  rw [non_iff rx, e]
  exact hQ
end
end TA

set_option Elab.async false
set_option linter.all false
set_option maxRecDepth 100000
/-! TaDict: dicts as data: a key, d[k], k in d. -/
namespace TA
open PySem PySem.Spec PyProof.Rows L2
section
variable {X : Cx} {B : Tb} {K : PySem.W.Frag} {F : Nat → List W → FRes} {Wx : WX} {H H' H0 H1 : Hp} {Fz Fz' Fz1 Fz0 : Addr → Prop} {S S' S1 S0 : Own} {σ : L2.St} {m : Md} {q q' : Bool} {Q Q' : VK} {env : Env} {pins : List (Addr × Obj)} {s : Shared}
/-! ### keys -/
theorem eqK_kD (a b : Key) : eqK (kD a) (kD b) = decide (a = b) := by
  refine Bool.eq_iff_iff.mpr ?_
  rw [decide_eq_true_iff]
  cases a <;> cases b <;> simp [kD, eqK]
theorem eqKs_kD : ∀ a b : List Key, eqK.eqKs (a.map kD) (b.map kD) = decide (a = b)
  | [], [] => by simp [eqK.eqKs]
  | [], _ :: _ => by simp [eqK.eqKs]
  | x :: xs, [] => by cases x <;> simp [kD, eqK.eqKs]
  | x :: xs, y :: ys => by
    have h := eqK_kD x y
    have hs := eqKs_kD xs ys
    rw [List.map_cons, List.map_cons]
    have e : decide (x :: xs = y :: ys) = (decide (x = y) && decide (xs = ys)) := by
      refine Bool.eq_iff_iff.mpr ?_
      simp
    rw [e, ← h, ← hs]
    cases x <;> cases y <;> simp only [kD, eqK.eqKs, eqK, Bool.false_and]
theorem eqK_kDs (a b : List Key) : eqK (kDs a) (kDs b) = decide (a = b) := by
  rw [kDs, kDs, eqK]
  exact eqKs_kD a b
theorem kD_flat (k : Key) : flatK (kD k) = true := by cases k <;> rfl
theorem kDs_flat (k : List Key) : flatK (kDs k) = false := rfl
/-- a value that is a key -/
inductive KeyV (H : Hp) : V → D → Prop
  | k (k : Key) : KeyV H (kV k) (kD k)
  | t (a : Addr) (k : List Key) : H a = some (.tup (k.map kV)) → KeyV H (.ref a) (kDs k)
theorem keys_of : ∀ {vs : List V} {ds : List D}, RepDs K H Fz vs ds → (ds.all fun d => match d with | .int _ | .str _ => true | _ => false) = true → ∃ k : List Key, vs = k.map kV ∧ ds = k.map kD
  | _, _, .nil, _ => ⟨[], rfl, rfl⟩
  | _, _, .cons r rs, h => by
    rw [List.all_cons, Bool.and_eq_true] at h
    obtain ⟨k, e1, e2⟩ := keys_of rs h.2
    have h1 := h.1
    cases r with
    | int i => exact ⟨.inl i :: k, by rw [e1]; rfl, by rw [e2]; rfl⟩
    | str x => exact ⟨.inr x :: k, by rw [e1]; rfl, by rw [e2]; rfl⟩
    | non => cases h1
    | bl => cases h1
    | lst => cases h1
    | tup => cases h1
    | dK => cases h1
    | dT => cases h1
theorem RepD.key {v : V} {d : D} (r : RepD K H Fz v d) (h : keyOk d = true) : KeyV H v d := by
  cases r with
  | int i => exact .k (.inl i)
  | str x => exact .k (.inr x)
  | tup f rs =>
    rw [keyOk, Bool.and_eq_true] at h
    obtain ⟨k, e1, e2⟩ := keys_of rs h.2
    have hl : rs.len = rs.len := rfl
    have h3 := of_decide_eq_true h.1
    rw [← rs.len] at h3
    rcases f with f | ⟨o, its, n, _, _, _, _, _, h4⟩
    · have := f.2 (.inl ⟨_, rfl⟩)
      subst e1
      subst e2
      exact .t _ k this
    · omega
  | non => cases h
  | bl => cases h
  | lst => cases h
  | dK => cases h
  | dT => cases h
/-! ### looking up -/
theorem look_rel {κ : Type} [DecidableEq κ] {f : κ → D} (hf : ∀ a b, eqK (f a) (f b) = decide (a = b)) (k : κ) : ∀ {ks : List κ} {vs : List V} {ds : List D}, RepDs K H Fz vs ds → ks.length = vs.length →
    (∀ d, look (ks.map f) ds (f k) = some d → ∃ v, valV (ks.zip vs) k = some v ∧ RepD K H Fz v d) ∧ (look (ks.map f) ds (f k)).isSome = (valV (ks.zip vs) k).isSome
  | [], _, _, .nil, _ => ⟨fun d h => by simp [look] at h, rfl⟩
  | [], _, _, .cons _ _, l => nomatch l
  | _ :: _, _, _, .nil, l => nomatch l
  | j :: ks, v :: vs, d :: ds, .cons r rs, l => by
    rw [List.map_cons, look, hf, List.zip_cons_cons]
    by_cases h : j = k
    · rw [valV_pos h, decide_eq_true h]
      exact ⟨fun d' e => ⟨v, rfl, by cases e; exact r⟩, rfl⟩
    · rw [valV_neg h, decide_eq_false h]
      exact look_rel hf k rs (by simpa using l)
/-- a dict that may be looked at -/
def DicV (H : Hp) (K : PySem.W.Frag) (Fz : Addr → Prop) (v : V) (kvs : List (D × D)) : Prop :=
  (∃ (a : Addr) (ks : List Key) (vs : List V) (ds : List D), v = .ref a ∧ Rt H a (.dK (ks.zip vs)) ∧ ks.length = vs.length ∧ RepDs K H Fz vs ds ∧ kvs = (ks.map kD).zip ds) ∨
  ∃ (a : Addr) (ks : List (List Key)) (vs : List V) (ds : List D), v = .ref a ∧ Rt H a (.dT (ks.zip vs)) ∧ ks.length = vs.length ∧ RepDs K H Fz vs ds ∧ kvs = (ks.map kDs).zip ds
theorem RepF.dic {v : V} {kvs : List (D × D)} (h : RepF K H Fz v (.dict kvs)) : DicV H K Fz v kvs := by
  generalize e : PyData.dict kvs = d at h
  cases h with
  | sc h => cases h with
    | dK q f l rs => cases e; exact .inl ⟨_, _, _, _, rfl, q, l, rs, rfl⟩
    | dT q f l rs => cases e; exact .inr ⟨_, _, _, _, rfl, q, l, rs, rfl⟩
    | _ => cases e
  | lst q r => cases e
  | dK q l rs => cases e; exact .inl ⟨_, _, _, _, rfl, q, l, rs, rfl⟩
  | dT q l rs => cases e; exact .inr ⟨_, _, _, _, rfl, q, l, rs, rfl⟩
theorem zip_fst {α β : Type} {ks : List α} {ds : List β} (h : ks.length = ds.length) : (ks.zip ds).map (·.1) = ks := by
  rw [List.map_fst_zip]; omega
theorem zip_snd {α β : Type} {ks : List α} {ds : List β} (h : ks.length = ds.length) : (ks.zip ds).map (·.2) = ds := by
  rw [List.map_snd_zip]; omega
theorem look_flat : ∀ {ks : List D} {ds : List D} {q : D}, (ks.all fun k => flatK k == flatK q) = false → ks.all (fun k => flatK k) = ks.all (fun k => flatK k) := fun _ => rfl
/-- another kind of key is not there -/
theorem look_kinds {α : Type} {q : D} : ∀ (ks : List D) (ds : List α), (∀ k ∈ ks, eqK k q = false) → look ks ds q = none
  | [], _, _ => by simp [look]
  | _ :: _, [], _ => by simp [look]
  | k :: ks, d :: ds, h => by
    rw [look, h k (List.mem_cons_self ..)]
    exact look_kinds ks ds fun k m => h k (List.mem_cons_of_mem _ m)
theorem eqK_kDT (a : Key) (b : List Key) : eqK (kD a) (kDs b) = false := by cases a <;> rfl
theorem eqK_kTD (a : List Key) (b : Key) : eqK (kDs a) (kD b) = false := by cases b <;> rfl
theorem DicV.get {v y : V} {kvs : List (D × D)} {dy d : D} (h : DicV H K Fz v kvs) (hy : KeyV H y dy) (e : look (kvs.map (·.1)) (kvs.map (·.2)) dy = some d) : ∃ a r, v = .ref a ∧ DGet H a y (some r) ∧ RepD K H Fz r d := by
  rcases h with ⟨a, ks, vs, ds, rfl, q, l, rs, rfl⟩ | ⟨a, ks, vs, ds, rfl, q, l, rs, rfl⟩
  · rw [zip_fst (by simp [l, rs.len]), zip_snd (by simp [l, rs.len])] at e
    cases hy with
    | k k =>
      obtain ⟨r, e1, r1⟩ := (look_rel eqK_kD k rs l).1 d e
      exact ⟨a, r, rfl, .inl ⟨_, k, q.1, rfl, e1.symm⟩, r1⟩
    | t b k hb =>
      rw [look_kinds _ _ fun z hz => by obtain ⟨z', _, rfl⟩ := List.mem_map.mp hz; exact eqK_kDT z' k] at e
      cases e
  · rw [zip_fst (by simp [l, rs.len]), zip_snd (by simp [l, rs.len])] at e
    cases hy with
    | k k =>
      rw [look_kinds _ _ fun z hz => by obtain ⟨z', _, rfl⟩ := List.mem_map.mp hz; exact eqK_kTD z' k] at e
      cases e
    | t b k hb =>
      obtain ⟨r, e1, r1⟩ := (look_rel eqK_kDs k rs l).1 d e
      exact ⟨a, r, rfl, .inr ⟨_, k, b, q.1, rfl, hb, e1.symm⟩, r1⟩
def rIxDG : R2 := fun x y H Q => ∃ a v, x = .ref a ∧ DGet H a y (some v) ∧ Q v H
theorem ix_dget (hu : X.A.units + 1 < cLine) : IxR X rIxDG := by
  intro value slice pins s σ H x y v u Q I rx ry ⟨a, r, ex, g, q⟩ hs
  subst ex
  obtain rfl : v = Value.ref a := rx
  exact tail_any (dict_typeIs I g) slot_dict_getitem.lookup (d_getItem hu I g ry fun w' s3 I3 rw' => ⟨r, H, I3, rw', q⟩) hs
/-! ### k in d -/
/-- an empty dict, whatever its keys are to be -/
def Emp (H : Hp) (a : Addr) : Prop := Rd H a (.dK []) ∨ Rd H a (.dT [])
theorem Emp.raw {h : Heap} {P : Program} {w : World} {a : Addr} (ok : HOk P w H h) (e : Emp H a) : (a == sysModules) = false ∧ h.DictOf (mixKind P w) a [] ∧ h.DictOfH (tupleKind (mixKind P w)) a [] := by
  rcases e with e | e
  · obtain ⟨_, z, vs', r', o, es, ep, e, x, dd, ko, pr, nd⟩ := dk_rd ok e
    cases r'
    have : es = #[] := by
      cases hes : es.toList with
      | nil => simpa using hes
      | cons a b => rw [hes] at pr; cases pr
    subst this
    exact ⟨z, ⟨o, #[], ep, e, x, dd, fun e h => by simp at h, .nil, List.nodup_nil⟩, ⟨o, #[], ep, e, x, dd, rfl, fun _ h => (nomatch h), List.nodup_nil⟩⟩
  · obtain ⟨_, z, xs, r', o, es, ep, e, x, dd, pr, _⟩ := dt_rd ok e
    cases r'
    have : es = #[] := by simpa using pr
    subst this
    exact ⟨z, ⟨o, #[], ep, e, x, dd, fun e h => by simp at h, .nil, List.nodup_nil⟩, ⟨o, #[], ep, e, x, dd, rfl, fun _ h => (nomatch h), List.nodup_nil⟩⟩
def rInDG (neg : Bool) : R2 := fun y x H Q => ∃ a, x = .ref a ∧ ((∃ o, DGet H a y o ∧ Q (.bl (if neg then !o.isSome else o.isSome)) H) ∨ (Emp H a ∧ ((∃ k : Key, y = kV k) ∨ ∃ (b : Addr) (k : List Key), y = .ref b ∧ H b = some (.tup (k.map kV))) ∧ Q (.bl neg) H))
theorem op_inDG (hu : X.A.units + 1 < cLine) : OpR X (compareOp .In) (rInDG false) := by
  intro pins s σ H y x v u Q I ry rx ⟨a, ex, h⟩
  subst ex
  obtain rfl : u = Value.ref a := rx
  rcases h with ⟨o, g, q⟩ | ⟨e, hk, q⟩
  · exact d_in hu I g ry fun s1 I1 => ⟨.bl o.isSome, H, I1, rfl, q⟩
  · obtain ⟨z, d1, d2⟩ := e.raw I.hok
    rcases hk with ⟨k, ey⟩ | ⟨b, k, ey, hb⟩
    · subst ey
      exact wpAny_in_of (kV_is ry) z d1.mapOf ⟨.bl false, H, I.tok _, rfl, q⟩
    · subst ey
      cases (show v = Value.ref b from ry)
      exact wpAny_in_heap (tupleKind_room_in1 hu) (key_of I.hok hb) z d2 ⟨.bl false, H, I.tok _, rfl, q⟩
theorem op_notInDG (hu : X.A.units + 1 < cLine) : OpR X (compareOp .NotIn) (rInDG true) := by
  intro pins s σ H y x v u Q I ry rx ⟨a, ex, h⟩
  subst ex
  obtain rfl : u = Value.ref a := rx
  rcases h with ⟨o, g, q⟩ | ⟨e, hk, q⟩
  · exact d_notIn hu I g ry fun s1 I1 => ⟨.bl (!o.isSome), H, I1, rfl, q⟩
  · obtain ⟨z, d1, d2⟩ := e.raw I.hok
    rcases hk with ⟨k, ey⟩ | ⟨b, k, ey, hb⟩
    · subst ey
      exact wpAny_notIn_of (kV_is ry) z d1.mapOf ⟨.bl true, H, I.tok _, rfl, q⟩
    · subst ey
      cases (show v = Value.ref b from ry)
      exact wpAny_notIn_heap (tupleKind_room_in1 hu) (key_of I.hok hb) z d2 ⟨.bl true, H, I.tok _, rfl, q⟩
theorem DicV.has {v y : V} {kvs : List (D × D)} {dy : D} (h : DicV H K Fz v kvs) (hy : KeyV H y dy) (hk : kvs.all (fun kv => flatK kv.1 == flatK dy) = true) {neg : Bool} {Q : VK}
    (hQ : Q (.bl (if neg then !(look (kvs.map (·.1)) (kvs.map (·.2)) dy).isSome else (look (kvs.map (·.1)) (kvs.map (·.2)) dy).isSome)) H) : rInDG neg y v H Q := by
  have z0 : Q (.bl (if neg then !false else false)) H → Q (.bl neg) H := by cases neg <;> exact id
  rcases h with ⟨a, ks, vs, ds, rfl, q, l, rs, rfl⟩ | ⟨a, ks, vs, ds, rfl, q, l, rs, rfl⟩
  · rw [zip_fst (by simp [l, rs.len]), zip_snd (by simp [l, rs.len])] at hQ
    cases hy with
    | k k =>
      rw [(look_rel eqK_kD k rs l).2] at hQ
      exact ⟨a, rfl, .inl ⟨_, .inl ⟨_, k, q.1, rfl, rfl⟩, hQ⟩⟩
    | t b k hb =>
      rw [look_kinds _ _ fun z hz => by obtain ⟨z', _, rfl⟩ := List.mem_map.mp hz; exact eqK_kDT z' k] at hQ
      cases ks with
      | nil => exact ⟨a, rfl, .inr ⟨.inl q.1, .inr ⟨b, k, rfl, hb⟩, z0 hQ⟩⟩
      | cons j ks =>
        cases ds with
        | nil => rw [rs.len] at l; cases l
        | cons d ds =>
          simp only [List.map_cons, List.zip_cons_cons, List.all_cons, kD_flat, kDs_flat] at hk
          cases hk
  · rw [zip_fst (by simp [l, rs.len]), zip_snd (by simp [l, rs.len])] at hQ
    cases hy with
    | k k =>
      rw [look_kinds _ _ fun z hz => by obtain ⟨z', _, rfl⟩ := List.mem_map.mp hz; exact eqK_kTD z' k] at hQ
      cases ks with
      | nil => exact ⟨a, rfl, .inr ⟨.inr q.1, .inl ⟨k, rfl⟩, z0 hQ⟩⟩
      | cons j ks =>
        cases ds with
        | nil => rw [rs.len] at l; cases l
        | cons d ds =>
          simp only [List.map_cons, List.zip_cons_cons, List.all_cons, kD_flat, kDs_flat] at hk
          cases hk
    | t b k hb =>
      rw [(look_rel eqK_kDs k rs l).2] at hQ
      exact ⟨a, rfl, .inl ⟨_, .inr ⟨_, k, b, q.1, rfl, hb, rfl⟩, hQ⟩⟩
theorem RepD.dic {v : V} {kvs : List (D × D)} (h : RepD K H Fz v (.dict kvs)) : DicV H K Fz v kvs := (RepF.sc h).dic
end
end TA

set_option Elab.async false
set_option linter.all false
set_option maxRecDepth 100000
/-! TaSnd6: in, not in; an index, a slice, a chain, a sign. -/
namespace TA
open PySem PySem.Spec PyProof.Rows L2
section
variable {X : Cx} {B : Tb} {K : PySem.W.Frag} {F : Nat → List W → FRes} {Wx : WX} {H H' H0 H1 : Hp} {Fz Fz' Fz1 Fz0 : Addr → Prop} {S S' S1 S0 : Own} {σ : L2.St} {m : Md} {q q' : Bool} {Q Q' : VK} {env : Env} {pins : List (Addr × Obj)} {s : Shared}
/-! ### x in c -/
abbrev rInA (K : PySem.W.Frag) (neg : Bool) : R2 := fun x y H Q => rInX K neg x y H Q ∨ rInDG neg x y H Q
theorem op_inA (hu : X.A.units + 64 < cLine) : OpR X (compareOp .In) (rInA X.K false) := (op_inX hu).or (op_inDG (by omega))
theorem op_notInA (hu : X.A.units + 64 < cLine) : OpR X (compareOp .NotIn) (rInA X.K true) := (op_notInX hu).or (op_notInDG (by omega))
theorem in_ans {neg : Bool} {x y : V} {dx dy : D} {k : Bool} {Q : VK} (rx : RepD X.K H Fz x dx) (ry : RepD X.K H Fz' y dy) (e : inD dx dy = some k) (hQ : Q (.bl (if neg then !k else k)) H) : rInA X.K neg x y H Q := by
  cases dy <;> simp only [inD, reduceCtorEq] at e
  · rename_i ds
    split at e
    · rename_i c
      cases e
      obtain ⟨a, vs, rfl, f, rs⟩ := ry.lst_inv
      exact .inl ⟨dx, ds, a, vs, _, _, rx, rfl, .inl f.sq, rs, c, hQ⟩
    · cases e
  · rename_i ds
    split at e
    · rename_i c
      cases e
      obtain ⟨a, vs, rfl, f, rs⟩ := ry.tup_inv
      exact .inl ⟨dx, ds, a, vs, _, _, rx, rfl, .inr f.sq, rs, c, hQ⟩
    · cases e
  · split at e
    · rename_i c
      cases e
      rw [Bool.and_eq_true] at c
      exact .inr (ry.dic.has (rx.key c.1) c.2 hQ)
    · cases e
theorem ansc_in : AnsC X (rInA X.K false) .isin := fun x y dx dy k H Fz Fz' Q rx ry e hQ => in_ans rx ry e hQ
theorem ansc_notin : AnsC X (rInA X.K true) .notin := fun x y dx dy k H Fz Fz' Q rx ry e hQ => by
  obtain ⟨k', e', rfl⟩ := Option.map_eq_some_iff.mp e
  exact in_ans rx ry e' hQ
/-! ### a[k] -/
theorem ixN_eq (n : Nat) (i : Int) : ixN n i = L2.ixN n i := rfl
theorem atI_eq {α : Type} (xs : List α) (i : Int) : TA.atI xs i = L2.atI xs i := rfl
theorem atI_rel {vs : List V} {ds : List D} (r : RepDs K H Fz vs ds) {i : Int} {d : D} (e : TA.atI ds i = some d) : ∃ v, L2.atI vs i = some v ∧ RepD K H Fz v d := by
  unfold TA.atI at e
  obtain ⟨j, e1, e2⟩ := Option.bind_eq_some_iff.mp e
  obtain ⟨v, ev, rv⟩ := r.get e2
  refine ⟨v, ?_, rv⟩
  unfold L2.atI
  rw [r.len, ← ixN_eq, e1]
  exact ev
abbrev rIxA (K : PySem.W.Frag) : R2 := fun x y H Q => rIx K x y H Q ∨ rIxDG x y H Q
theorem ix_any (hu : X.A.units + 64 < cLine) : IxR X (rIxA X.K) := ix_seq.or (ix_dget (by omega))
/-- the forms of a flat value -/
theorem RepF.lst_inv {v : V} {ds : List D} (h : RepF K H Fz v (.list ds)) : ∃ a vs, v = .ref a ∧ SqL K H a vs ∧ RepDs K H Fz vs ds := by
  generalize e : PyData.list ds = d at h
  cases h with
  | sc h =>
    subst e
    obtain ⟨a, vs, e, f, rs⟩ := h.lst_inv
    exact ⟨a, vs, e, f.sq, rs⟩
  | lst q r => cases e; exact ⟨_, _, rfl, .inl q.1, r⟩
  | dK q l r => cases e
  | dT q l r => cases e
theorem RepF.tup_inv {v : V} {ds : List D} (h : RepF K H Fz v (.tuple ds)) : ∃ a vs, v = .ref a ∧ FqT K H Fz a vs ∧ RepDs K H Fz vs ds := by
  generalize e : PyData.tuple ds = d at h
  cases h with
  | sc h => subst e; exact h.tup_inv
  | lst q r => cases e
  | dK q l r => cases e
  | dT q l r => cases e
theorem RepF.str_inv {v : V} {x : Str} (h : RepF K H Fz v (.str x)) : v = .str x := by
  generalize e : PyData.str x = d at h
  cases h with
  | sc h => subst e; exact h.str_inv
  | lst q r => cases e
  | dK q l r => cases e
  | dT q l r => cases e
theorem ix_ans {x y : V} {dx dy d : D} {Q : VK} (rx : RepF K H Fz x dx) (ry : RepD K H Fz' y dy) (e : elemD dx dy = some d) (hQ : ∀ v, RepD K H Fz v d → Q v H) : rIxA K x y H Q := by
  cases dx with
  | list ds =>
    cases dy <;> simp only [elemD, reduceCtorEq] at e
    obtain ⟨a, vs, rfl, f, rs⟩ := rx.lst_inv
    obtain ⟨v, ev, rv⟩ := atI_rel rs e
    rw [ry.int_inv]
    exact .inl (.inl ⟨a, vs, _, v, rfl, rfl, f, ev, hQ v rv⟩)
  | tuple ds =>
    cases dy <;> simp only [elemD, reduceCtorEq] at e
    obtain ⟨a, vs, rfl, f, rs⟩ := rx.tup_inv
    obtain ⟨v, ev, rv⟩ := atI_rel rs e
    rw [ry.int_inv]
    exact .inl (.inr (.inl ⟨a, vs, _, v, rfl, rfl, f.sq, ev, hQ v rv⟩))
  | str z =>
    cases dy <;> simp only [elemD, reduceCtorEq] at e
    split at e
    · rename_i i hz
      rw [rx.str_inv, ry.int_inv]
      unfold TA.atI signs at e
      obtain ⟨j, e1, e2⟩ := Option.bind_eq_some_iff.mp e
      rw [List.length_map] at e1
      rw [List.getElem?_map] at e2
      obtain ⟨c, ec, rfl⟩ := Option.map_eq_some_iff.mp e2
      refine .inl (.inr (.inr ⟨z, i, c, rfl, rfl, szOk_le hz, ?_, hQ _ (.str _)⟩))
      unfold L2.atI
      rw [← ixN_eq, e1]
      exact ec
    · cases e
  | dict kvs =>
    have e' : (if keyOk dy then look (kvs.map (·.1)) (kvs.map (·.2)) dy else none) = some d := by
      rw [elemD] at e
      exact e
    split at e'
    · rename_i hk
      obtain ⟨a, r, rfl, g, rr⟩ := rx.dic.get (ry.key hk) e'
      exact .inr ⟨a, r, rfl, g, hQ r rr⟩
    · cases e'
  | none => cases dy <;> simp only [elemD, reduceCtorEq] at e
  | bool b => cases dy <;> simp only [elemD, reduceCtorEq] at e
  | int b => cases dy <;> simp only [elemD, reduceCtorEq] at e
theorem flat_toD : ∀ {w : W} {d : D}, w.flat = some d → w.toD = some d
  | .val d, d', e => e
  | .lst ws, d, e => by
    rw [W.flat] at e
    rw [W.toD]
    cases z : valsW ws with
    | none => rw [z] at e; cases e
    | some ds =>
      rw [z] at e
      rw [valsW_val z, toDs_val]
      exact e
  | .dic ks ws, d, e => by
    rw [W.flat] at e
    rw [W.toD]
    cases z : valsW ws with
    | none => rw [z] at e; cases e
    | some ds =>
      rw [z] at e
      rw [valsW_val z, toDs_val]
      exact e
  | .set ds, _, e => by rw [W.flat] at e; cases e
/-- a first part that is looked at, its items handed on; then more -/
theorem PX.flat1 {r1 : Res (Env × W)} {f : Env × W → D → Res (Env × W)} {ib : Bool} {q1 : Bool} (p : PX B K H Fz S σ m q Q Wx (r1.bind fun r => (Res.of r.2.flat).bind (f r))) (hq : q = true → q1 = true) (hib : q = true → ib = true)
    (k : ∀ e1 x v1 H1 Fz1 S1, Rel K H1 Fz1 S1 σ e1 → Grow H Fz S H1 Fz1 S1 → (q = true → Calm H H1) → PX B K H Fz S σ m q Q Wx (f (e1, .val x) x) →
      (∀ (H2 : Hp) (Fz2 : Addr → Prop) (S2 : Own), Grow H1 Fz1 S1 H2 Fz2 S2 → (ib = true → Calm H1 H2) → RepF K H2 Fz2 v1 x) → Q' v1 H1)
    (hf : ∀ e w x, f (e, w) x = f (e, .val x) x) (R : Rel K H Fz S σ env) : PX B K H Fz S σ (md1 ib .flat) q1 Q' Wx r1 := by
  refine PX.bind p (Grow.refl _ _ _) (fun _ => Calm.refl _) hq fun e1 w1 ev1 p1 v1 H1 Fz1 S1 R1 g1 g1' c1 c1' rm => ?_
  obtain ⟨x, ex, p1⟩ := p1.of
  dsimp only at ex
  rw [hf] at p1
  cases hib' : ib with
  | true =>
    rw [hib'] at rm
    obtain ⟨d1, ew1, r1⟩ := rm
    subst ew1
    cases ex
    exact k e1 _ v1 H1 Fz1 S1 R1 g1' c1' p1 fun H2 Fz2 S2 g c => r1.calm g.fz (c hib')
  | false =>
    rw [hib'] at rm
    obtain ⟨T, rw1, fr1⟩ := rm
    obtain ⟨R2, g2⟩ := R1.sink g1' fr1 rw1.there
    exact k e1 x v1 H1 _ S1 R2 g2 c1' p1 fun H2 Fz2 S2 g c => .sc ((rw1.sunk (flat_toD ex)).grow g)
/-- a value that is frozen is flat, is looked at -/
theorem PX.flatten {core : Res (Env × W)} (h : PX B K H Fz S σ .flat q Q Wx core) (hd : ∀ e w, core = .ok (e, w) → ∃ d, w = .val d) : PX B K H Fz S σ .val q Q Wx core := by
  cases core with
  | stuck => exact h
  | exc c d e => exact h
  | ok r =>
    obtain ⟨e, w⟩ := r
    obtain ⟨d, rfl⟩ := hd e w rfl
    intro v H' Fz' S' R g c ⟨T, rw, fr⟩
    cases rw with
    | val rw => exact h v H' Fz' S' R g c ⟨d, rfl, .sc rw⟩
theorem quiet2 {a b : Bool} {z : Bool} (e : z = (a && b)) (h : z = true) : a = true ∧ b = true := by rw [e, Bool.and_eq_true] at h; exact h
theorem se_idx (hu : X.A.units + 64 < cLine) {a b : Expr} {ia ib : IE} {pos : Pos} (ha : SEx X B F Wx a ia) (hb : SEx X B F Wx b ib) (hs : PlainIx b) : SEx X B F Wx (.Subscript a b pos) (.idx ia ib) := by
  have eq : IE.quiet (.idx ia ib) = (IE.quiet ia && IE.quiet ib) := by rw [IE.quiet]
  have hv : PE X (.Subscript a b pos) (tCo B X.K Wx (IE.quiet (.idx ia ib)) fun env => (evX F ia (md1 (IE.quiet ib) .flat) env).bind fun r => (Res.of r.2.flat).bind fun x => (evX F ib .val r.1).bind fun q => (Res.of q.2.toD).bind fun y => out1 q.1 ((elemD x y).map .val)) := by
    refine PE.imp (pe_ix (ix_any hu) (ha.se (md1 (IE.quiet ib) .flat) (by cases IE.quiet ib <;> decide)) (hb.se .val (by decide)) hs) fun σ H Q ⟨Fz, S, env, R, p⟩ => ?_
    refine ⟨Fz, S, env, R, PX.flat1 p (fun z => (quiet2 eq z).1) (fun z => (quiet2 eq z).2) (fun e1 x v1 H1 Fz1 S1 R1 g1 c1 p1 hx => ?_) (fun _ _ _ => rfl) R⟩
    refine ⟨Fz1, S1, e1, R1, PX.bind p1 g1 c1 (fun z => (quiet2 eq z).2) fun e2 w2 ev2 p2 v2 H2 Fz2 S2 R3 g3 g3' c3 c3' ⟨U, rw2, fr2⟩ => ?_⟩
    obtain ⟨dy, ey, p2⟩ := p2.of
    obtain ⟨w, ew, p2⟩ := p2.out1
    obtain ⟨d, ed, rfl⟩ := Option.map_eq_some_iff.mp ew
    obtain ⟨R4, g4⟩ := R3.sink g3' (fr2.back g1.there) rw2.there
    exact ix_ans ((hx H2 Fz2 S2 g3 c3)) (rw2.sunk ey) ed fun v rv => p2.endD R4 g4 c3' (rv.up fun _ f => .inl f)
  refine ⟨fun m hm => ?_, fun _ _ => rfl⟩
  cases m with
  | test => exact absurd rfl hm
  | val =>
    refine PE.imp hv fun σ H Q ⟨Fz, S, env, R, p⟩ => ⟨Fz, S, env, R, ?_⟩
    simpa only [evX] using p
  | flat =>
    refine PE.imp hv fun σ H Q ⟨Fz, S, env, R, p⟩ => ⟨Fz, S, env, R, ?_⟩
    simp only [evX] at p
    refine p.flatten fun e w h => ?_
    revert h
    cases evX F ia (md1 (IE.quiet ib) .flat) env with
    | stuck => exact fun h => nomatch h
    | exc => exact fun h => nomatch h
    | ok r =>
      simp only [Res.bind]
      cases r.2.flat with
      | none => exact fun h => nomatch h
      | some x =>
        simp only [Res.of, Res.bind]
        cases evX F ib .val r.1 with
        | stuck => exact fun h => nomatch h
        | exc => exact fun h => nomatch h
        | ok q =>
          simp only
          cases q.2.toD with
          | none => exact fun h => nomatch h
          | some y =>
            simp only
            cases elemD x y with
            | none => exact fun h => nomatch h
            | some d =>
              intro h
              simp only [Option.map_some, out1, Res.ok.injEq, Prod.mk.injEq] at h
              exact ⟨d, h.2.symm⟩
  | peek =>
    refine PE.imp (pe_ix (ix_any hu) (ha.se (md1 (IE.quiet ib) .peek) (by cases IE.quiet ib <;> decide)) (hb.se .val (by decide)) hs) fun σ H Q ⟨Fz, S, env, R, p⟩ => ?_
    simp only [evX] at p
    have hfin : ∀ {H Fz S q Q} {r : Res (Env × W)}, PX B X.K H Fz S σ .peek q Q Wx (Md.fin .peek r) → (∀ e w, r = .ok (e, w) → ∃ d, w = .val d) → PX B X.K H Fz S σ .peek q Q Wx r := by
      intro H Fz S q Q r h hd
      cases r with
      | stuck => exact h
      | exc c d e => exact h
      | ok r =>
        obtain ⟨e, w⟩ := r
        obtain ⟨d, rfl⟩ := hd e w rfl
        exact h
    have p := hfin p fun e w h => by
      revert h
      cases evX F ia (md1 (IE.quiet ib) .peek) env with
      | stuck => exact fun h => nomatch h
      | exc => exact fun h => nomatch h
      | ok r =>
        simp only [Res.bind]
        cases r.2.toD with
        | none => exact fun h => nomatch h
        | some x =>
          simp only [Res.of, Res.bind]
          cases evX F ib .val r.1 with
          | stuck => exact fun h => nomatch h
          | exc => exact fun h => nomatch h
          | ok q =>
            simp only
            cases q.2.toD with
            | none => exact fun h => nomatch h
            | some y =>
              simp only
              cases elemD x y with
              | none => exact fun h => nomatch h
              | some d =>
                intro h
                simp only [Option.map_some, out1, Res.ok.injEq, Prod.mk.injEq] at h
                exact ⟨d, h.2.symm⟩
    refine ⟨Fz, S, env, R, PX.bind p (Grow.refl _ _ _) (fun _ => Calm.refl _) (fun z => (quiet2 eq z).1) fun e1 w1 ev1 p1 v1 H1 Fz1 S1 R1 g1 g1' c1 c1' rm => ?_⟩
    obtain ⟨x, ex, p1⟩ := p1.of
    have fin : ∀ (Fzm : Addr → Prop) (R2 : Rel X.K H1 Fzm S1 σ e1) (g2 : Grow H Fz S H1 Fzm S1), (∀ (H2 : Hp) (Fz2 : Addr → Prop) (S2 : Own), Grow H1 Fzm S1 H2 Fz2 S2 → (IE.quiet ib = true → Calm H1 H2) → RepP X.K H2 Fz2 v1 x) → tX B X.K F Wx ib .val σ H1 fun y H2 => rIxA X.K v1 y H2 Q := by
      intro Fzm R2 g2 hx
      refine ⟨_, S1, e1, R2, PX.bind p1 g2 c1' (fun z => (quiet2 eq z).2) fun e2 w2 ev2 p2 v2 H2 Fz2 S2 R3 g3 g3' c3 c3' ⟨U, rw2, fr2⟩ => ?_⟩
      obtain ⟨dy, ey, p2⟩ := p2.of
      obtain ⟨w, ew, p2⟩ := p2.out1
      obtain ⟨d, ed, rfl⟩ := Option.map_eq_some_iff.mp ew
      obtain ⟨U2, rx⟩ := hx H2 Fz2 S2 g3 c3
      exact ix_ans (.sc rx) (rw2.sunk ey) ed fun v rv => p2 v H2 Fz2 S2 R3 g3' c3' ⟨d, rfl, U2, rv⟩
    cases hqb : IE.quiet ib with
    | true =>
      rw [hqb] at rm
      obtain ⟨d1, ew1, r1⟩ := rm
      subst ew1
      cases ex
      exact fin Fz1 R1 g1 fun H2 Fz2 S2 g c => r1.calm g.fz (c hqb)
    | false =>
      rw [hqb] at rm
      obtain ⟨T, rw1, fr1⟩ := rm
      obtain ⟨R2, g2⟩ := R1.sink g1 fr1 rw1.there
      exact fin _ R2 g2 fun H2 Fz2 S2 g c => ((rw1.sunk ex).grow g).p
end
end TA

set_option Elab.async false
set_option linter.all false
set_option maxRecDepth 100000
/-! TaBlt: built-in functions. -/
namespace TA
open PySem PySem.Spec PyProof.Rows L2
section
variable {X : Cx} {B : Tb} {K : PySem.W.Frag} {F : Nat → List W → FRes} {Wx : WX} {H H' H0 H1 : Hp} {Fz Fz' Fz1 Fz0 : Addr → Prop} {S S' S1 S0 : Own} {σ : L2.St} {m : Md} {q q' : Bool} {Q Q' : VK} {env : Env} {pins : List (Addr × Obj)} {s : Shared}
theorem CallR.imp' {f : Value} {r r' : List V → Hp → VK → Prop} (h : CallR X f r) (i : ∀ xs H Q, r' xs H Q → r xs H Q) : CallR X f r' := fun pins s σ H xs us Q I rv q => h pins s σ H xs us Q I rv (i xs H Q q)
theorem CallR.or' {f : Value} {r r' : List V → Hp → VK → Prop} (h : CallR X f r) (h' : CallR X f r') : CallR X f (fun xs H Q => r xs H Q ∨ r' xs H Q) := by
  intro pins s σ H xs us Q I rv q
  rcases q with q | q
  · exact h pins s σ H xs us Q I rv q
  · exact h' pins s σ H xs us Q I rv q
/-! ### one argument -/
theorem evEs_one {ia : IE} {m : Md} {env : Env} : evEs F [ia] m env = (evX F ia m env).bind fun r => .ok (r.1, [r.2]) := by
  rw [evEs]
  cases evX F ia m env with
  | stuck => rfl
  | exc => rfl
  | ok r => simp only [Res.bind, evEs]
def pick (b : BI) (w : W) : Option D := if b.md = .flat then w.flat else w.toD
theorem evx_blt1 {b : BI} {ia : IE} {m : Md} {env : Env} (hm : m ≠ .test) : evX F (.blt b [ia]) m env = m.fin ((evX F ia b.md env).bind fun r => (Res.of (pick b r.2)).bind fun d => out1 r.1 (bltD b [d])) := by
  have h : evX F (.blt b [ia]) m env = m.fin ((evEs F [ia] b.md env).bind fun r => (Res.of (if b.md = .flat then r.2.mapM W.flat else W.toDs r.2)).bind fun ds => out1 r.1 (bltD b ds)) := by
    cases m <;> simp only [evX, List.length_singleton, if_true]
  rw [h, evEs_one]
  congr 1
  cases evX F ia b.md env with
  | stuck => rfl
  | exc => rfl
  | ok r =>
    simp only [Res.bind, pick]
    by_cases hb : b.md = .flat
    · simp only [hb, if_true]
      cases h : r.2.flat with
      | none => simp [h, Res.of]
      | some d => simp [h, Res.of]
    · simp only [hb, if_false]
      rw [W.toDs]
      cases r.2.toD with
      | none => rfl
      | some d => simp [W.toDs, Res.of]
def RepB (b : BI) (K : PySem.W.Frag) (H : Hp) (Fz : Addr → Prop) (v : V) (d : D) : Prop := match b.md with
  | .flat => RepF K H Fz v d
  | .peek => RepP K H Fz v d
  | _ => RepD K H Fz v d
/-- what is wanted of a built-in's rule -/
abbrev AnsB (X : Cx) (B : Tb) (Wx : WX) (b : BI) (r : V → Hp → VK → Prop) : Prop := ∀ (v : V) (d : D) (w : W) (H : Hp) (Fz : Addr → Prop) (S : Own) (σ : L2.St) (env : Env) (Q : VK) (H0 : Hp) (Fz0 : Addr → Prop) (S0 : Own) (q : Bool),
  RepB b X.K H Fz v d → bltD b [d] = some w → Rel X.K H Fz S σ env → Grow H0 Fz0 S0 H Fz S → (q = true → Calm H0 H) → PX B X.K H0 Fz0 S0 σ .val q Q Wx (.ok (env, w)) → r v H Q
theorem se_blt1 {e : Expr} {b : BI} {ia : IE} {r : V → Hp → VK → Prop} (hr : PE X e fun σ H Q => tX B X.K F Wx ia b.md σ H fun v H1 => r v H1 Q) (ns : NoStar e) (ans : AnsB X B Wx b r) : SEx X B F Wx e (.blt b [ia]) := by
  refine ⟨SE.core (core := fun env => (evX F ia b.md env).bind fun r => (Res.of (pick b r.2)).bind fun d => out1 r.1 (bltD b [d])) (PE.imp hr fun σ H Q ⟨Fz, S, env, R, p⟩ => ?_) (fun m env hm => evx_blt1 hm), ns⟩
  have eq : IE.quiet (.blt b [ia]) = true → IE.quiet ia = true := fun z => by
    rw [IE.quiet, IE.quiets, IE.quiets, Bool.and_true] at z
    exact z
  refine ⟨Fz, S, env, R, PX.bind p (Grow.refl _ _ _) (fun _ => Calm.refl _) eq fun e1 w1 ev1 p1 v1 H1 Fz1 S1 R1 g1 g1' c1 c1' rm => ?_⟩
  obtain ⟨d, ed, p1⟩ := p1.of
  obtain ⟨w, ew, p1⟩ := p1.out1
  unfold AnsB RepB at ans
  unfold pick at ed
  cases hb : b.md with
  | flat =>
    rw [hb] at rm ed ans
    obtain ⟨d1, e1, r1⟩ := rm
    subst e1
    cases ed
    exact ans v1 _ w H1 Fz1 S1 σ e1 Q H Fz S _ r1 ew R1 g1 c1' p1
  | peek =>
    rw [hb] at rm ed ans
    obtain ⟨d1, e1, r1⟩ := rm
    subst e1
    cases ed
    exact ans v1 _ w H1 Fz1 S1 σ e1 Q H Fz S _ r1 ew R1 g1 c1' p1
  | val =>
    rw [hb] at rm ed ans
    obtain ⟨T, rw1, fr1⟩ := rm
    obtain ⟨R2, g2⟩ := R1.sink g1 fr1 rw1.there
    exact ans v1 d w H1 _ S1 σ e1 Q H Fz S _ (rw1.sunk ed) ew R2 g2 c1' p1
  | test => cases b <;> cases hb
theorem one_call {r : List V → Hp → VK → Prop} {e f : Expr} {te : TE} (h : PE X e (tCB r (tCons te tNil))) : PE X e fun σ H Q => te σ H fun v H1 => r [v] H1 Q := h
/-! ### the rules -/
theorem RepP.d {v : V} {d : D} (h : RepP K H Fz v d) : ∃ Fz', RepD K H Fz' v d := h.elim fun U r => ⟨_, r⟩
def rLenA (K : PySem.W.Frag) : List V → Hp → VK → Prop := fun xs H Q => ∃ x d n Fz, xs = [x] ∧ RepD K H Fz x d ∧ lenD d = some n ∧ Q (.int n) H
theorem call_lenA : CallR X (.builtin "len") (rLenA X.K) := by
  intro pins s σ H xs us Q I r h
  obtain ⟨x, d, n, Fz, rfl, rd, hn, q⟩ := h
  cases rd with
  | non => cases hn
  | bl => cases hn
  | int => cases hn
  | str z =>
    rw [lenD] at hn
    split at hn
    · rename_i hz
      cases hn
      exact call_len pins s σ H _ us Q I r ⟨_, z.length, rfl, ⟨szOk_le hz, rfl⟩, q⟩
    · cases hn
  | lst f rs => cases hn; exact call_len pins s σ H _ us Q I r ⟨_, _, rfl, .inl ⟨_, f.sq, rs.len.symm⟩, q⟩
  | tup f rs => cases hn; exact call_len pins s σ H _ us Q I r ⟨_, _, rfl, .inr ⟨_, f.sq, rs.len.symm⟩, q⟩
  | dK f fz l rs =>
    rename_i a ks vs ds
    cases hn
    obtain ⟨u, rfl, rx⟩ := vals1 r
    cases rx
    have e : ((ks.map kD).zip ds).length = (ks.zip vs).length := by simp [l, rs.len]
    rw [e] at q
    exact d_len I f.1 fun t s' I' => ⟨.int _, H, I', ⟨t, rfl⟩, q⟩
  | dT f fz l rs =>
    rename_i a ks vs ds
    cases hn
    obtain ⟨u, rfl, rx⟩ := vals1 r
    cases rx
    obtain ⟨z, hd, ys, rel, dd⟩ := dt_rd I.hok f.1
    have hl : (ks.zip vs).length = ys.length := Paired.length rel
    have e : ((ks.map kDs).zip ds).length = (ks.zip vs).length := by simp [l, rs.len]
    rw [e] at q
    have hn := line63
    refine call_len_dictH hd dd (by omega) ?_
    exact ⟨.int _, H, I.tok _, ⟨_, rfl⟩, by rw [← hl]; exact q⟩
theorem len_blt {d : D} {w : W} (e : bltD .len [d] = some w) : ∃ n : Nat, lenD d = some n ∧ w = .val (.int n) := by
  cases h : lenD d with
  | none => simp [bltD, h] at e
  | some n => simp [bltD, h] at e; exact ⟨n, rfl, e.symm⟩
theorem ansb_len : AnsB X B Wx .len (fun v H Q => rLenA X.K [v] H Q) := fun v d w H Fz S σ env Q H0 Fz0 S0 q r e R g c p => by
  obtain ⟨Fz', rd⟩ := RepP.d r
  obtain ⟨n, en, rfl⟩ := len_blt e
  exact ⟨v, d, n, Fz', rfl, rd, en, p.endD R g c (.int _)⟩
theorem ansb_int : AnsB X B Wx .int (fun v H Q => (∃ i, [v] = [V.int i] ∧ Q (.int i) H) ∨ ∃ k, [v] = [V.bl k] ∧ Q (.int (if k then 1 else 0)) H) := fun v d w H Fz S σ env Q H0 Fz0 S0 q r e R g c p => by
  obtain ⟨Fz', rd⟩ := RepP.d r
  cases d <;> simp only [bltD, reduceCtorEq, Option.some.injEq] at e
  · subst e
    rw [rd.bl_inv]
    exact .inr ⟨_, rfl, p.endD R g c (.int _)⟩
  · subst e
    rw [rd.int_inv]
    exact .inl ⟨_, rfl, p.endD R g c (.int _)⟩
theorem ansb_ord : AnsB X B Wx .ord (fun v H Q => ∃ x, [v] = [V.str x] ∧ x.length = 1 ∧ Q (.int (x.cps.getD 0 0 : Nat)) H) := fun v d w H Fz S σ env Q H0 Fz0 S0 q r e R g c p => by
  obtain ⟨Fz', rd⟩ := RepP.d r
  cases d <;> simp only [bltD, reduceCtorEq] at e
  split at e
  · rename_i h1
    cases e
    rw [rd.str_inv]
    exact ⟨_, rfl, h1, p.endD R g c (.int _)⟩
  · cases e
theorem ansb_tuple : AnsB X B Wx .tuple (fun v H Q => ∃ p ys, [v] = [V.ref p] ∧ ((SqL X.K H p ys ∧ ∀ l, H l = none → Q (.ref l) (upd H l (.tup ys))) ∨ (SqT X.K H p ys ∧ Q (.ref p) H))) := fun v d w H Fz S σ env Q H0 Fz0 S0 q r e R g c p => by
  have rd : RepD X.K H Fz v d := r
  cases d <;> simp only [bltD, reduceCtorEq, Option.some.injEq] at e
  · subst e
    obtain ⟨a, vs, rfl, f, rs⟩ := rd.lst_inv
    exact ⟨a, vs, rfl, .inl ⟨f.sq, p.endTup R g c rs⟩⟩
  · subst e
    obtain ⟨a, vs, rfl, f, rs⟩ := rd.tup_inv
    exact ⟨a, vs, rfl, .inr ⟨f.sq, p.endD R g c rd⟩⟩
abbrev rListA (K : PySem.W.Frag) : List V → Hp → VK → Prop := fun xs H Q => (∃ p ys, xs = [V.ref p] ∧ (SqL K H p ys ∨ SqT K H p ys) ∧ ∀ l, H l = none → Q (.ref l) (upd H l (.lst ys))) ∨
  (∃ (a : Addr) (kvs : List (Key × V)), xs = [.ref a] ∧ Rd H a (.dK kvs) ∧ ∀ p, H p = none → Q (.ref p) (upd H p (.lst (kvs.map fun kv => kV kv.1)))) ∨
  (∃ d kvs, xs = [V.ref d] ∧ Rd H d (.dT kvs) ∧ ∀ p bs, H p = none → IsKeys H kvs bs → Q (.ref p) (upd H p (.lst (bs.map V.ref))))
theorem call_listA (hc : X.calm = true) : CallR X (.type "list") (rListA X.K) := CallR.or' call_list_of (CallR.or' (call_listD hc) (call_list_dT hc))
theorem keys_rep : ∀ ks : List Key, RepDs K H Fz (ks.map kV) (ks.map kD)
  | [] => .nil
  | .inl i :: ks => .cons (.int i) (keys_rep ks)
  | .inr x :: ks => .cons (.str x) (keys_rep ks)
theorem isKeys_rep : ∀ {ks : List (List Key)} {vs : List V} {bs : List Addr}, ks.length = vs.length → IsKeys H (ks.zip vs) bs → RepDs K H Fz (bs.map V.ref) (ks.map kDs)
  | [], _, _, _, h => by cases h; exact .nil
  | _ :: _, [], _, l, _ => nomatch l
  | k :: ks, v :: vs, _, l, h => by
    rw [List.zip_cons_cons] at h
    cases h with
    | cons a b => exact .cons (.tup (.inl (.of a)) (keys_rep k)) (isKeys_rep (by simpa using l) b)
theorem ansb_list : AnsB X B Wx .list (fun v H Q => rListA X.K [v] H Q) := fun v d w H Fz S σ env Q H0 Fz0 S0 q r e R g c p => by
  have rd : RepF X.K H Fz v d := r
  cases d <;> simp only [bltD, reduceCtorEq, Option.some.injEq] at e
  · subst e
    obtain ⟨a, vs, rfl, f, rs⟩ := rd.lst_inv
    exact .inl ⟨a, vs, rfl, .inl f, p.endLst R g c rs.ws Fresh.nil⟩
  · subst e
    obtain ⟨a, vs, rfl, f, rs⟩ := rd.tup_inv
    exact .inl ⟨a, vs, rfl, .inr f.sq, p.endLst R g c rs.ws Fresh.nil⟩
  · subst e
    rcases rd.dic with ⟨a, ks, vs, ds, rfl, f, l, rs, rfl⟩ | ⟨a, ks, vs, ds, rfl, f, l, rs, rfl⟩
    · refine .inr (.inl ⟨a, _, rfl, f.1, fun z hz => ?_⟩)
      have e1 : (ks.zip vs).map (fun kv => kV kv.1) = ks.map kV := by
        have h := congrArg (List.map kV) (zip_fst l)
        rw [List.map_map] at h
        exact h
      rw [zip_fst (by simp [l, rs.len])] at p
      have := p.endLst R g c (keys_rep ks).ws Fresh.nil z hz
      rw [e1]
      exact this
    · refine .inr (.inr ⟨a, _, rfl, f.1, fun z bs hz hk => ?_⟩)
      rw [zip_fst (by simp [l, rs.len])] at p
      exact p.endLst R g c (isKeys_rep l hk).ws Fresh.nil z hz
end
end TA

set_option Elab.async false
set_option linter.all false
set_option maxRecDepth 100000
/-! TaBlt2: isinstance, max, sorted, dict(d), dict displays. -/
namespace TA
open PySem PySem.Spec PyProof.Rows L2
section
variable {X : Cx} {B : Tb} {K : PySem.W.Frag} {F : Nat → List W → FRes} {Wx : WX} {H H' H0 H1 : Hp} {Fz Fz' Fz1 Fz0 : Addr → Prop} {S S' S1 S0 : Own} {σ : L2.St} {m : Md} {q q' : Bool} {Q Q' : VK} {env : Env} {pins : List (Addr × Obj)} {s : Shared}
/-! ### isinstance -/
def tyN : D → String
  | .none => "NoneType"
  | .bool _ => "bool"
  | .int _ => "int"
  | .str _ => "str"
  | .list _ => "list"
  | .tuple _ => "tuple"
  | .dict _ => "dict"
def clsN : Cls → String
  | .str => "str"
  | .int => "int"
  | .bool => "bool"
  | .list => "list"
  | .tuple => "tuple"
  | .dict => "dict"
  | .row => ""
theorem kit_D (I : Inv X pins σ H s) {v : V} {u : Value} {d : D} (h : RepD X.K H Fz v d) (r : RelV v u) : ∃ P : Heap → Prop, PySem.W.KitX X.K u (.type (tyN d)) P ∧ P s.heap ∧ u ≠ .builtin "__main__.__loader__#opaque" := by
  cases h with
  | non => cases (show u = Value.none from r); exact ⟨_, PySem.W.kitx_none, True.intro, fun z => nomatch z⟩
  | bl y => cases (show u = Value.bool y from r); exact ⟨_, PySem.W.kitx_bool, True.intro, fun z => nomatch z⟩
  | int i => obtain ⟨t, q⟩ := (show ∃ t, u = Value.int i t from r); cases q; exact ⟨_, PySem.W.kitx_int, True.intro, fun z => nomatch z⟩
  | str y => obtain ⟨t, q⟩ := (show ∃ t, u = Value.str y t from r); cases q; exact ⟨_, PySem.W.kitx_str, True.intro, fun z => nomatch z⟩
  | @lst a vs ds f rs =>
    cases (show u = Value.ref a from r)
    obtain ⟨_, _, o, e, c, _⟩ := f.obj I
    exact ⟨_, PySem.W.kitx_list, ⟨_, e, c⟩, fun z => nomatch z⟩
  | @tup a vs ds f rs =>
    cases (show u = Value.ref a from r)
    obtain ⟨_, _, o, e, c, _⟩ := f.obj I
    exact ⟨_, PySem.W.kitx_tuple, ⟨_, e, c⟩, fun z => nomatch z⟩
  | @dK a ks vs ds f fz l rs =>
    cases (show u = Value.ref a from r)
    obtain ⟨o, e, c⟩ := rd_dict I (.inl ⟨_, f⟩)
    exact ⟨_, PySem.W.kitx_dict, ⟨_, e, c⟩, fun z => nomatch z⟩
  | @dT a ks vs ds f fz l rs =>
    cases (show u = Value.ref a from r)
    obtain ⟨o, e, c⟩ := rd_dict I (.inr ⟨_, f⟩)
    exact ⟨_, PySem.W.kitx_dict, ⟨_, e, c⟩, fun z => nomatch z⟩
theorem kit_ans {c : Cls} (h : c ≠ .row) (d : D) : kitB (tyN d) (clsN c) = some (isinst c d) := by
  cases c with
  | row => exact absurd rfl h
  | _ => cases d <;> simp only [tyN, clsN, isinst] <;> decide +kernel
def rIsC (K : PySem.W.Frag) (c : Cls) : V → Hp → VK → Prop := fun v H Q => ∃ d Fz, RepD K H Fz v d ∧ Q (.bl (isinst c d)) H
theorem call_isC {c : Cls} (h : c ≠ .row) : CallR X (.builtin "isinstance") (fun xs H Q => ∃ v, xs = [v, .ty (clsN c)] ∧ rIsC X.K c v H Q) := by
  intro pins s σ H xs us Q I r ⟨v, e, d, Fz, rd, q⟩
  subst e
  obtain ⟨u1, u2, rfl, r1, r2⟩ := vals2 r
  cases (show u2 = Value.type (clsN c) from r2)
  obtain ⟨P, Z, p, hx⟩ := kit_D I rd r1
  exact PySem.W.kia_one Z I.kIn p (kit_ty (kit_ans h d)) hx fun tk => ⟨.bl _, H, I.tok tk, rfl, q⟩
theorem kit_row (K : PySem.W.Frag) (d : D) : PySem.W.kitAny K (.type (tyN d)) [.type "list", .type "tuple"] = some (isinst .row d) := by
  have h1 := kit_ty (K := K) (kit_ans (c := .list) (by decide) d)
  have h2 := kit_ty (K := K) (kit_ans (c := .tuple) (by decide) d)
  refine kitAny_cons h1 (fun z => kitAny_cons h2 (fun z2 => ?_) fun z2 => ?_) fun z => ?_
  · cases d <;> first | rfl | exact Bool.noConfusion z | exact Bool.noConfusion z2
  · cases d <;> first | rfl | exact Bool.noConfusion z2
  · cases d <;> first | rfl | exact Bool.noConfusion z
theorem call_isRow : CallR X (.builtin "isinstance") (fun xs H Q => ∃ v tp, xs = [v, .ref tp] ∧ H tp = some (.tup [.ty "list", .ty "tuple"]) ∧ rIsC X.K .row v H Q) := by
  intro pins s σ H xs us Q I r ⟨v, tp, e, hT, d, Fz, rd, q⟩
  subst e
  obtain ⟨u1, u2, rfl, r1, r2⟩ := vals2 r
  cases (show u2 = Value.ref tp from r2)
  obtain ⟨P, Z, p, hx⟩ := kit_D I rd r1
  obtain ⟨_, its, rv, o, h1, h2, n, h3⟩ := (show ObjOk X.prog X.w H s.heap tp (.tup [.ty "list", .ty "tuple"]) from I.hok tp _ hT)
  have e3 := ClsV.all (.cons (.ty "list") (.cons (.ty "tuple") .nil)) rv
  subst e3
  obtain ⟨oc, od, dt, sl⟩ := o
  simp only at h2 h3
  subst h2 h3
  exact PySem.W.kia_tup Z I.kIn p h1 (kit_row X.K d) hx fun tk => ⟨.bl _, H, I.tok tk, rfl, q⟩
theorem ansb_isi (c : Cls) : AnsB X B Wx (.isi c) (fun v H Q => rIsC X.K c v H Q) := fun v d w H Fz S σ env Q H0 Fz0 S0 q r e R g cc p => by
  obtain ⟨Fz', rd⟩ := RepP.d r
  simp only [bltD, Option.some.injEq] at e
  subst e
  exact ⟨d, Fz', rd, p.endD R g cc (.bl _)⟩
/-- the tuple of classes is new -/
theorem ansb_row : AnsB X B Wx (.isi .row) (fun v H Q => ∀ p, H p = none → ∃ v' tp, [v, V.ref p] = [v', .ref tp] ∧ upd H p (.tup [.ty "list", .ty "tuple"]) tp = some (.tup [.ty "list", .ty "tuple"]) ∧ rIsC X.K .row v' (upd H p (.tup [.ty "list", .ty "tuple"])) Q) := fun v d w H Fz S σ env Q H0 Fz0 S0 q r e R g cc p => by
  obtain ⟨Fz', rd⟩ := RepP.d r
  simp only [bltD, Option.some.injEq] at e
  subst e
  intro a ha
  obtain ⟨R1, g1, c1⟩ := R.new (.tup [.ty "list", .ty "tuple"]) ha
  exact ⟨v, a, rfl, upd_same, d, Fz', rd.mono (fun _ f => f) fun a u _ => c1 a u, p.endD R1 (g.trans g1) (fun z => (cc z).trans c1) (.bl _)⟩
/-! ### max -/
theorem ints_of : ∀ {vs : List V} {ds : List D} {m : Int}, RepDs K H Fz vs ds → maxL ds = some m → ∃ ns : List Int, vs = ns.map V.int ∧ m ∈ ns ∧ ∀ y ∈ ns, y ≤ m
  | _, _, m, .nil, h => by rw [maxL] at h; cases h
  | _, _, m, .cons (d := d) (ds := ds) r rs, h => by
    cases d with
    | int i =>
      cases ds with
      | nil =>
        rw [maxL] at h
        cases h
        cases rs
        rw [r.int_inv]
        exact ⟨[m], rfl, List.mem_singleton.mpr rfl, fun y hy => by rw [List.mem_singleton.mp hy]; exact Int.le_refl _⟩
      | cons e es =>
        rw [maxL] at h
        · obtain ⟨j, ej, rfl⟩ := Option.map_eq_some_iff.mp h
          obtain ⟨ns, e1, h1, h2⟩ := ints_of rs ej
          rw [r.int_inv, e1]
          refine ⟨i :: ns, rfl, ?_, fun y hy => ?_⟩
          · by_cases z : i ≤ j
            · rw [Int.max_eq_right z]; exact List.mem_cons_of_mem _ h1
            · rw [Int.max_eq_left (by omega)]; exact List.mem_cons_self ..
          · rcases List.mem_cons.mp hy with rfl | hy
            · exact Int.le_max_left ..
            · exact Int.le_trans (h2 y hy) (Int.le_max_right ..)
        · intro z; cases z
    | _ => simp [maxL] at h
theorem ansb_max1 : AnsB X B Wx .max1 (fun v H Q => rMax X.K [v] H Q) := fun v d w H Fz S σ env Q H0 Fz0 S0 q r e R g c p => by
  obtain ⟨Fz', rd⟩ := RepP.d r
  cases d <;> simp only [bltD, reduceCtorEq] at e
  obtain ⟨m, em, rfl⟩ := Option.map_eq_some_iff.mp e
  obtain ⟨a, vs, rfl, f, rs⟩ := rd.lst_inv
  obtain ⟨ns, rfl, h1, h2⟩ := ints_of rs em
  refine ⟨a, ns, rfl, f.sq, List.length_pos_of_mem h1, fun m' hm' hy => ?_⟩
  have : m' = m := Int.le_antisymm (h2 m' hm') (hy m h1)
  rw [this]
  exact p.endD R g c (.int _)
theorem sort_pair {i j : Int} {ns : List Int} (h : ns.Perm [i, j]) (hs : ns.Pairwise (· ≤ ·)) : ns = if j < i then [j, i] else [i, j] := by
  have hl := h.length_eq
  match ns, hl with
  | [a, b], _ =>
    have ha : a = i ∨ a = j := by simpa using h.subset (List.mem_cons_self ..)
    have hab : a ≤ b := by
      rw [List.pairwise_cons] at hs
      exact hs.1 b (by simp)
    have hb : (a = i ∧ b = j) ∨ (a = j ∧ b = i) := by
      rcases ha with rfl | rfl
      · have := List.perm_singleton.mp (h.cons_inv)
        exact .inl ⟨rfl, by simpa using this⟩
      · have := List.perm_singleton.mp ((h.trans (List.Perm.swap _ _ _)).cons_inv)
        exact .inr ⟨rfl, by simpa using this⟩
    rcases hb with ⟨rfl, rfl⟩ | ⟨rfl, rfl⟩
    · rw [if_neg (by omega)]
    · by_cases z : a < b
      · rw [if_pos z]
      · have : a = b := by omega
        subst this
        split <;> rfl
theorem ints_rep : ∀ ns : List Int, RepDs K H Fz (ns.map V.int) (ns.map PyData.int)
  | [] => .nil
  | n :: ns => .cons (.int n) (ints_rep ns)
theorem ansb_sorted : AnsB X B Wx .sorted (fun v H Q => rSortedI X.K [v] H Q) := fun v d w H Fz S σ env Q H0 Fz0 S0 q r e R g c p => by
  have rd : RepF X.K H Fz v d := r
  cases d <;> simp only [bltD, reduceCtorEq] at e
  rename_i ds
  obtain ⟨r', er, rfl⟩ := Option.map_eq_some_iff.mp e
  match ds, er with
  | [.int i, .int j], er =>
    rw [sort2] at er
    obtain ⟨a, vs, rfl, f, rs⟩ := rd.lst_inv
    cases rs with
    | cons r1 rs => cases rs with
      | cons r2 rs =>
        cases rs
        rw [r1.int_inv, r2.int_inv] at f
        refine ⟨a, [i, j], rfl, f, fun ns' z h1 h2 hz => ?_⟩
        have e1 := sort_pair h1 h2
        have e2 : r' = ns'.map PyData.int := by
          rw [e1]
          cases er
          split <;> rfl
        subst e2
        exact p.endLst R g c (ints_rep ns').ws Fresh.nil z hz
/-! ### dicts -/
theorem PX.endDK {ks : List Key} {vs : List V} {ws : List W} {T : List Addr} (h : PX B K H0 Fz0 S0 σ .val q Q Wx (.ok (env, .dic (ks.map kD) ws))) (R : Rel K H Fz S σ env) (g : Grow H0 Fz0 S0 H Fz S) (c : q = true → Calm H0 H) (l : ks.length = vs.length) (r : RepWs K H Fz vs ws T) (fr : Fresh H0 H Fz S T) :
    ∀ p, H p = none → Q (.ref p) (upd H p (.dK (ks.zip vs))) := by
  intro p hp
  obtain ⟨R1, g1, c1⟩ := R.new (.dK (ks.zip vs)) hp
  refine h (.ref p) _ _ S R1 (g.trans g1) (fun z => (c z).trans c1) ⟨p :: T, .dK upd_same l (r.mono (fun _ f => f) (fun a u _ => c1 a u) fun a z o e => upd_ne' hp e), ?_⟩
  refine ⟨List.nodup_cons.mpr ⟨fun z => r.there p z hp, fr.1⟩, fun a z => ?_⟩
  rcases List.mem_cons.mp z with rfl | z
  · refine ⟨?_, fun f => R.well.fz a f hp, fun i z => (R.well.own i a z).1 hp⟩
    cases e : H0 a with
    | none => rfl
    | some o => exact absurd hp (g.there a (by rw [e]; simp))
  · exact fr.2 a z
theorem PX.endDT0 (h : PX B K H0 Fz0 S0 σ .val q Q Wx (.ok (env, .dic [] []))) (R : Rel K H Fz S σ env) (g : Grow H0 Fz0 S0 H Fz S) (c : q = true → Calm H0 H) : ∀ p, H p = none → Q (.ref p) (upd H p (.dT [])) := by
  intro p hp
  obtain ⟨R1, g1, c1⟩ := R.new (.dT []) hp
  refine h (.ref p) _ _ S R1 (g.trans g1) (fun z => (c z).trans c1) ⟨[p], .dT (ks := []) (vs := []) upd_same rfl .nil, ?_⟩
  refine ⟨List.nodup_cons.mpr ⟨(fun z => nomatch z), List.nodup_nil⟩, fun a z => ?_⟩
  rcases List.mem_cons.mp z with rfl | z
  · refine ⟨?_, fun f => R.well.fz a f hp, fun i z => (R.well.own i a z).1 hp⟩
    cases e : H0 a with
    | none => rfl
    | some o => exact absurd hp (g.there a (by rw [e]; simp))
  · exact nomatch z
abbrev rDictA : List V → Hp → VK → Prop := fun xs H Q => (∃ (a : Addr) (kvs : List (Key × V)), xs = [.ref a] ∧ Rd H a (.dK kvs) ∧ ∀ p, H p = none → Q (.ref p) (upd H p (.dK kvs))) ∨ (∃ a : Addr, xs = [.ref a] ∧ Emp H a ∧ ∀ p, H p = none → Q (.ref p) (upd H p (.dK [])))
theorem call_dictE : CallR X (.type "dict") (fun xs H Q => ∃ a : Addr, xs = [.ref a] ∧ Emp H a ∧ ∀ p, H p = none → Q (.ref p) (upd H p (.dK []))) := by
  intro pins s σ H xs us Q I r ⟨a, ex, he, q⟩
  subst ex
  obtain ⟨u, eu, rx⟩ := vals1 r
  subst eu
  cases rx
  obtain ⟨lo, dd, _⟩ := he.raw I.hok
  refine kt_call_dict lo dd (by simp) fun h' d' hs => ?_
  have hm : (s.heap.objs.size == sysModules) = false := beq_eq_false_iff_ne.mpr (Nat.ne_of_gt I.big)
  exact ⟨.ref s.heap.objs.size, upd H s.heap.objs.size (.dK []), I.laid (t' := s.toks) (fun b u e => (hs.2 b (Nat.ne_of_lt (Heap.lt_size e))).trans (Heap.get?_push_of_some _ e)) (Nat.le_refl _)
    (show ObjOk X.prog X.w _ _ _ (.dK []) from ⟨by simp, hm, [], .nil, d'⟩), rfl, q _ (I.hok.fresh (Nat.le_refl _))⟩
theorem call_dictA : CallR X (.type "dict") rDictA := CallR.or' call_dictD call_dictE
theorem ansb_dict : AnsB X B Wx .dict (fun v H Q => rDictA [v] H Q) := fun v d w H Fz S σ env Q H0 Fz0 S0 q r e R g c p => by
  have rd : RepF X.K H Fz v d := r
  cases d <;> simp only [bltD, reduceCtorEq] at e
  split at e
  · rename_i hk
    simp only [Option.some.injEq] at e
    subst e
    rcases rd.dic with ⟨a, ks, vs, ds, rfl, f, l, rs, rfl⟩ | ⟨a, ks, vs, ds, rfl, f, l, rs, rfl⟩
    · rw [zip_fst (by simp [l, rs.len]), zip_snd (by simp [l, rs.len])] at p
      exact .inl ⟨a, _, rfl, f.1, p.endDK R g c l rs.ws Fresh.nil⟩
    · cases ks with
      | nil =>
        refine .inr ⟨a, rfl, .inr f.1, ?_⟩
        exact PX.endDK (ks := []) (vs := []) p R g c rfl .nil Fresh.nil
      | cons k ks =>
        cases ds with
        | nil => rw [rs.len] at l; cases l
        | cons d ds =>
          simp only [List.map_cons, List.zip_cons_cons, List.all_cons, kDs_flat, Bool.false_and] at hk
          cases hk
  · cases e
end
end TA

set_option Elab.async false
set_option linter.all false
set_option maxRecDepth 100000
/-! TaSnd7: and, or, not; a sign, a chain, a slice; dicts of the top; displays; max of two. -/
namespace TA
open PySem PySem.Spec PyProof.Rows L2
section
variable {X : Cx} {B : Tb} {K : PySem.W.Frag} {F : Nat → List W → FRes} {Wx : WX} {H H' H0 H1 : Hp} {Fz Fz' Fz1 Fz0 : Addr → Prop} {S S' S1 S0 : Own} {σ : L2.St} {m : Md} {q q' : Bool} {Q Q' : VK} {env : Env} {pins : List (Addr × Obj)} {s : Shared}
/-- a frozen value, as it is wanted -/
theorem PX.any {core : Res (Env × W)} (hm : m ≠ .test) (h : PX B K H Fz S σ m q Q Wx core) (hd : ∀ e w, core = .ok (e, w) → ∃ d, w = .val d) : PX B K H Fz S σ .val q Q Wx core := by
  cases core with
  | stuck => exact h
  | exc c d e => exact h
  | ok r =>
    obtain ⟨e, w⟩ := r
    obtain ⟨d, rfl⟩ := hd e w rfl
    intro v H' Fz' S' R g c ⟨T, rw, fr⟩
    cases rw with
    | val rw =>
      cases m with
      | val => exact h v H' Fz' S' R g c ⟨[], .val rw, Fresh.nil⟩
      | flat => exact h v H' Fz' S' R g c ⟨d, rfl, .sc rw⟩
      | peek => exact h v H' Fz' S' R g c ⟨d, rfl, rw.p⟩
      | test => exact absurd rfl hm
/-! ### values that are bools -/
theorem bool_cases {r : Res (Env × W)} {f : Env → Bool → Res (Env × W)} : (∃ e b, r = .ok (e, .val (.bool b)) ∧ r.bool f = f e b) ∨ r.bool f = .stuck ∨ ∃ c d e, r = .exc c d e ∧ r.bool f = .exc c d e := by
  cases r with
  | stuck => exact .inr (.inl rfl)
  | exc c d e => exact .inr (.inr ⟨c, d, e, rfl, rfl⟩)
  | ok r =>
    obtain ⟨e, w⟩ := r
    cases w with
    | val d =>
      cases d with
      | bool b => exact .inl ⟨e, b, rfl, rfl⟩
      | _ => exact .inr (.inl rfl)
    | _ => exact .inr (.inl rfl)
/-- a part of it that is a bool -/
theorem PX.boolB {r : Res (Env × W)} {f : Env → Bool → Res (Env × W)} {q1 : Bool} (h : PX B K H0 Fz0 S0 σ m q Q Wx (r.bool f)) (g0 : Grow H0 Fz0 S0 H Fz S) (c0 : q = true → Calm H0 H) (hq : q = true → q1 = true)
    (k : ∀ e b, r = .ok (e, .val (.bool b)) → PX B K H0 Fz0 S0 σ m q Q Wx (f e b) → ∀ H' Fz' S', Rel K H' Fz' S' σ e → Grow H Fz S H' Fz' S' → Grow H0 Fz0 S0 H' Fz' S' → (q1 = true → Calm H H') → (q = true → Calm H0 H') → Q' (.bl b) H') :
    PX B K H Fz S σ .val q1 Q' Wx r := by
  rcases bool_cases (r := r) (f := f) with ⟨e, b, e1, e2⟩ | e1 | ⟨c, d, e, e1, e2⟩
  · rw [e2] at h
    subst e1
    intro v H' Fz' S' R g c ⟨T, rw, fr⟩
    cases rw with
    | val rw =>
      rw [rw.bl_inv]
      exact k e b rfl h H' Fz' S' R g (g0.trans g) c (fun z => (c0 z).trans (c (hq z)))
  · rw [e1] at h; exact False.elim h
  · rw [e2] at h
    subst e1
    exact fun H' Fz' S' cls od R g x => h H' Fz' S' cls od R (g0.trans g) x
theorem bool_val {r : Res (Env × W)} {f : Env → Bool → Res (Env × W)} {e : Env} {w : W} (h : r.bool f = .ok (e, w)) : ∃ e' b, f e' b = .ok (e, w) := by
  rcases bool_cases (r := r) (f := f) with ⟨e1, b, _, e2⟩ | e1 | ⟨c, d, e1, _, e2⟩
  · exact ⟨e1, b, e2.symm.trans h⟩
  · rw [e1] at h; cases h
  · rw [e2] at h; cases h
theorem SE.bools {e : Expr} {ir : IE} {core : Env → Res (Env × W)} (h : PE X e (tCo B X.K Wx (IE.quiet ir) core)) (hev : ∀ m env, m ≠ .test → evX F ir m env = core env) (hd : ∀ env e w, core env = .ok (e, w) → ∃ d, w = .val d) : SE X B F Wx e ir := by
  intro m hm
  refine PE.imp h fun σ H Q ⟨Fz, S, env, R, p⟩ => ⟨Fz, S, env, R, ?_⟩
  rw [hev m env hm] at p
  exact p.any hm (hd env)
theorem se_one {op : BoolOp} {a : Expr} {ia : IE} {pos : Pos} (ha : SEx X B F Wx a ia) : SEx X B F Wx (.BoolOp op [a] pos) ia := ⟨fun m hm => pe_one (ha.se m hm), fun _ _ => rfl⟩
theorem se_and {a b : Expr} {rest : List Expr} {ia ib : IE} {pos : Pos} (ha : SEx X B F Wx a ia) (hb : SEx X B F Wx (.BoolOp .And (b :: rest) pos) ib) : SEx X B F Wx (.BoolOp .And (a :: b :: rest) pos) (.and ia ib) := by
  have eq : IE.quiet (.and ia ib) = (IE.quiet ia && IE.quiet ib) := by rw [IE.quiet]
  refine ⟨SE.bools (core := fun env => (evX F ia .val env).bool fun e k => if k then (evX F ib .val e).bool fun e k => .ok (e, .val (.bool k)) else .ok (e, .val (.bool false))) (PE.imp (pe_and (ha.se .val (by decide)) (hb.se .val (by decide))) fun σ H Q ⟨Fz, S, env, R, p⟩ => ?_) (fun m env hm => ?_) fun env e w h => ?_, fun _ _ => rfl⟩
  · refine ⟨Fz, S, env, R, PX.boolB p (Grow.refl _ _ _) (fun _ => Calm.refl _) (fun z => (quiet2 eq z).1) fun e1 b ev1 p1 H1 Fz1 S1 R1 g1 g1' c1 c1' => ⟨b, rfl, ?_⟩⟩
    cases b with
    | false => exact p1.endD R1 g1' c1' (.bl _)
    | true =>
      rw [if_pos rfl] at p1
      refine ⟨Fz1, S1, e1, R1, PX.boolB p1 g1' c1' (fun z => (quiet2 eq z).2) fun e2 b ev2 p2 H2 Fz2 S2 R2 g2 g2' c2 c2' => ?_⟩
      exact p2.endD R2 g2' c2' (.bl _)
  · cases m <;> first | exact absurd rfl hm | simp only [evX]
  · obtain ⟨e1, b, h⟩ := bool_val h
    cases b with
    | false => cases h; exact ⟨_, rfl⟩
    | true =>
      rw [if_pos rfl] at h
      obtain ⟨e2, b, h⟩ := bool_val h
      cases h
      exact ⟨_, rfl⟩
theorem se_or {a b : Expr} {rest : List Expr} {ia ib : IE} {pos : Pos} (ha : SEx X B F Wx a ia) (hb : SEx X B F Wx (.BoolOp .Or (b :: rest) pos) ib) : SEx X B F Wx (.BoolOp .Or (a :: b :: rest) pos) (.or ia ib) := by
  have eq : IE.quiet (.or ia ib) = (IE.quiet ia && IE.quiet ib) := by rw [IE.quiet]
  refine ⟨SE.bools (core := fun env => (evX F ia .val env).bool fun e k => if k then .ok (e, .val (.bool true)) else (evX F ib .val e).bool fun e k => .ok (e, .val (.bool k))) (PE.imp (pe_or (ha.se .val (by decide)) (hb.se .val (by decide))) fun σ H Q ⟨Fz, S, env, R, p⟩ => ?_) (fun m env hm => ?_) fun env e w h => ?_, fun _ _ => rfl⟩
  · refine ⟨Fz, S, env, R, PX.boolB p (Grow.refl _ _ _) (fun _ => Calm.refl _) (fun z => (quiet2 eq z).1) fun e1 b ev1 p1 H1 Fz1 S1 R1 g1 g1' c1 c1' => ⟨b, rfl, ?_⟩⟩
    cases b with
    | true => exact p1.endD R1 g1' c1' (.bl _)
    | false =>
      rw [if_neg Bool.false_ne_true] at p1
      refine ⟨Fz1, S1, e1, R1, PX.boolB p1 g1' c1' (fun z => (quiet2 eq z).2) fun e2 b ev2 p2 H2 Fz2 S2 R2 g2 g2' c2 c2' => ?_⟩
      exact p2.endD R2 g2' c2' (.bl _)
  · cases m <;> first | exact absurd rfl hm | simp only [evX]
  · obtain ⟨e1, b, h⟩ := bool_val h
    cases b with
    | true => cases h; exact ⟨_, rfl⟩
    | false =>
      rw [if_neg Bool.false_ne_true] at h
      obtain ⟨e2, b, h⟩ := bool_val h
      cases h
      exact ⟨_, rfl⟩
theorem se_not {a : Expr} {ia : IE} {pos : Pos} (ha : SEx X B F Wx a ia) : SEx X B F Wx (.UnaryOp .Not a pos) (.not ia) := by
  have eq : IE.quiet (.not ia) = IE.quiet ia := by rw [IE.quiet]
  refine ⟨SE.bools (core := fun env => (evX F ia .val env).bool fun e k => .ok (e, .val (.bool !k))) (PE.imp (pe_not (ha.se .val (by decide))) fun σ H Q ⟨Fz, S, env, R, p⟩ => ?_) (fun m env hm => ?_) fun env e w h => ?_, fun _ _ => rfl⟩
  · refine ⟨Fz, S, env, R, PX.boolB p (Grow.refl _ _ _) (fun _ => Calm.refl _) (fun z => eq ▸ z) fun e1 b ev1 p1 H1 Fz1 S1 R1 g1 g1' c1 c1' => ⟨b, rfl, ?_⟩⟩
    exact p1.endD R1 g1' c1' (.bl _)
  · cases m <;> first | exact absurd rfl hm | simp only [evX]
  · obtain ⟨e1, b, h⟩ := bool_val h
    cases h
    exact ⟨_, rfl⟩
/-! ### -a -/
theorem se_neg {a : Expr} {ia : IE} {pos : Pos} (ha : SEx X B F Wx a ia) : SEx X B F Wx (.UnaryOp .USub a pos) (.neg ia) := by
  have eq : IE.quiet (.neg ia) = IE.quiet ia := by rw [IE.quiet]
  refine ⟨SE.core (core := fun env => (evX F ia .val env).bind fun r => out1 r.1 (negW r.2)) (PE.imp (pe_un un_neg (ha.se .val (by decide))) fun σ H Q ⟨Fz, S, env, R, p⟩ => ?_) (fun m env hm => by cases m <;> simp only [evX]), fun _ _ => rfl⟩
  refine ⟨Fz, S, env, R, PX.bind p (Grow.refl _ _ _) (fun _ => Calm.refl _) (fun z => eq ▸ z) fun e1 w1 ev1 p1 v1 H1 Fz1 S1 R1 g1 g1' c1 c1' ⟨T, rw1, fr1⟩ => ?_⟩
  obtain ⟨w, ew, p1⟩ := p1.out1
  cases w1 with
  | val d =>
    cases d with
    | int i =>
      cases ew
      cases rw1 with
      | val rd =>
        rw [rd.int_inv]
        exact ⟨i, rfl, p1.endD R1 g1' c1' (.int _)⟩
    | _ => cases ew
  | _ => cases ew
/-! ### a op b op' c -/
abbrev chnCo (F : Nat → List W → FRes) (o o' : COp) (ia ib ic : IE) : Env → Res (Env × W) := fun env => (evX F ia .val env).bind fun r => (Res.of r.2.toD).bind fun x => (evX F ib .val r.1).bind fun q => (Res.of q.2.toD).bind fun y => (out1 q.1 (cmpW o x y)).bool fun e k =>
      if k then (evX F ic .val e).bind fun p => (Res.of p.2.toD).bind fun z => out1 p.1 (cmpW o' y z) else .ok (e, .val (.bool false))
theorem chn_imp {o o' : COp} {r r' : R2} {ia ib ic : IE} {q0 : Bool} (e1 : q0 = true → IE.quiet ia = true ∧ IE.quiet ib = true ∧ IE.quiet ic = true) (ans : AnsC X r o) (ans' : AnsC X r' o') (h : tCo B X.K Wx q0 (chnCo F o o' ia ib ic) σ H Q) :
    tChain r r' (tX B X.K F Wx ia .val) (tX B X.K F Wx ib .val) (tX B X.K F Wx ic .val) σ H Q := by
  obtain ⟨Fz, S, env, R, p⟩ := h
  refine ⟨Fz, S, env, R, PX.bind p (Grow.refl _ _ _) (fun _ => Calm.refl _) (fun z => (e1 z).1) fun en1 w1 ev1 p1 v1 H1 Fz1 S1 R1 g1 g1' c1 c1' ⟨T, rw1, fr1⟩ => ?_⟩
  obtain ⟨dx, ex, p1⟩ := p1.of
  obtain ⟨R2, g2⟩ := R1.sink g1 fr1 rw1.there
  have rx := rw1.sunk ex
  refine ⟨_, S1, en1, R2, PX.bind p1 g2 c1' (fun z => (e1 z).2.1) fun en2 w2 ev2 p2 v2 H2 Fz2 S2 R3 g3 g3' c3 c3' ⟨U, rw2, fr2⟩ => ?_⟩
  obtain ⟨dy, ey, p2⟩ := p2.of
  obtain ⟨R4, g4⟩ := R3.sink g3' (fr2.back g1.there) rw2.there
  have ry := rw2.sunk ey
  have rx := (rx.grow g3).up (Fz' := fun a => Fz2 a ∨ a ∈ U) fun _ f => .inl f
  cases hk : cmpD o dx dy with
  | none =>
    simp only [cmpW, hk, Option.map_none, out1, Res.bool, Res.bind] at p2
    exact False.elim p2
  | some k =>
    simp only [cmpW, hk, Option.map_some, out1, Res.bool, Res.bind] at p2
    refine ans v1 v2 dx dy k H2 _ _ _ rx ry hk ⟨k, rfl, ?_⟩
    cases k with
    | false => exact PX.endD p2 R4 g4 c3' (.bl _)
    | true =>
      refine ⟨_, S2, en2, R4, PX.bind (f := fun p => (Res.of p.2.toD).bind fun z => out1 p.1 (cmpW o' dy z)) p2 g4 c3' (fun z => (e1 z).2.2) fun en3 w3 ev3 p3 v3 H3 Fz3 S3 R5 g5 g5' c5 c5' ⟨U3, rw3, fr3⟩ => ?_⟩
      obtain ⟨dz, ez, p3⟩ := p3.of
      obtain ⟨w, ew, p3⟩ := p3.out1
      obtain ⟨k', ek, rfl⟩ := Option.map_eq_some_iff.mp ew
      obtain ⟨R6, g6⟩ := R5.sink g5' (fr3.back g4.there) rw3.there
      exact ans' v2 v3 dy dz k' H3 _ _ _ (ry.grow g5) (rw3.sunk ez) ek (p3.endD R6 g6 c5' (.bl _))
theorem chn_quiet {o o' : COp} {ia ib ic : IE} (z : IE.quiet (.chn o o' ia ib ic) = true) : IE.quiet ia = true ∧ IE.quiet ib = true ∧ IE.quiet ic = true := by
  rw [IE.quiet, Bool.and_eq_true, Bool.and_eq_true] at z
  exact ⟨z.1.1, z.1.2, z.2⟩
theorem se_chn {o o' : COp} {op op' : CmpOp} {r r' : R2} {a b c : Expr} {ia ib ic : IE} {pos : Pos} (ho : OpR X (compareOp op) r) (ho' : OpR X (compareOp op') r') (ha : SEx X B F Wx a ia) (hb : SEx X B F Wx b ib) (hc : SEx X B F Wx c ic) (hm : lastMarks [op, op'] [b, c] = false)
    (ans : AnsC X r o) (ans' : AnsC X r' o') : SEx X B F Wx (.Compare a [op, op'] [b, c] pos) (.chn o o' ia ib ic) :=
  ⟨SE.core (core := chnCo F o o' ia ib ic) (PE.imp (pe_chain ho ho' (ha.se .val (by decide)) (hb.se .val (by decide)) (hc.se .val (by decide)) hm) fun σ H Q h => chn_imp chn_quiet ans ans' h) (fun m env hm => by cases m <;> simp only [evX]), fun _ _ => rfl⟩
/-! ### dict displays -/
theorem se_dicE {pos : Pos} {tk : Bool} : SEx X B F Wx (.Dict [] [] pos) (.dicE tk) :=
  ⟨SE.core (core := fun env => .ok (env, .dic [] [])) (PE.imp pe_dnewK fun σ H Q ⟨Fz, S, env, R, p⟩ => PX.endDK (ks := []) (vs := []) p R (Grow.refl _ _ _) (fun _ => Calm.refl _) rfl .nil Fresh.nil) (fun m env hm => by cases m <;> simp only [evX]), fun _ _ => rfl⟩
end
end TA

set_option Elab.async false
set_option linter.all false
set_option maxRecDepth 100000
/-! TaSnd8: slices; dicts of the top; displays of texts; max of two; calls of built-ins. -/
namespace TA
open PySem PySem.Spec PyProof.Rows L2
section
variable {X : Cx} {B : Tb} {K : PySem.W.Frag} {F : Nat → List W → FRes} {Wx : WX} {H H' H0 H1 : Hp} {Fz Fz' Fz1 Fz0 : Addr → Prop} {S S' S1 S0 : Own} {σ : L2.St} {m : Md} {q q' : Bool} {Q Q' : VK} {env : Env} {pins : List (Addr × Obj)} {s : Shared}
/-! ### a[lo:hi] -/
def partR (F : Nat → List W → FRes) (il : IE) (env : Env) : Res (Env × Option Int) := if il.isNo then .ok (env, none) else (evX F il .val env).map fun p => (partW p.2).map fun i => (p.1, some i)
def PPt (B : Tb) (K : PySem.W.Frag) (H : Hp) (Fz : Addr → Prop) (S : Own) (σ : L2.St) (q : Bool) (Q : Option Int → Hp → Prop) (Wx : WX) : Res (Env × Option Int) → Prop
  | .stuck => False
  | .ok r => ∀ H' Fz' S', Rel K H' Fz' S' σ r.1 → Grow H Fz S H' Fz' S' → (q = true → Calm H H') → Q r.2 H'
  | .exc c d e => ∀ H' Fz' S' cls od, Rel K H' Fz' S' σ e → Grow H Fz S H' Fz' S' → ExcAt B K H' Fz' c d cls od → Wx cls od σ H'
def tPt (B : Tb) (K : PySem.W.Frag) (F : Nat → List W → FRes) (Wx : WX) (il : IE) : TO := fun σ H Q => ∃ Fz S env, Rel K H Fz S σ env ∧ PPt B K H Fz S σ (IE.quiet il) Q Wx (partR F il env)
inductive SPt (X : Cx) (B : Tb) (F : Nat → List W → FRes) (Wx : WX) : Option Expr → IE → Prop
  | no : SPt X B F Wx none .no
  | some {e : Expr} {il : IE} : SEx X B F Wx e il → il.isNo = false → SPt X B F Wx (some e) il
theorem SPt.po {lo : Option Expr} {il : IE} (h : SPt X B F Wx lo il) : PO X lo (tPt B X.K F Wx il) := by
  cases h with
  | no => exact ⟨fun pins s σ H Q I ⟨Fz, S, env, R, p⟩ => po_none.run pins s σ H Q I (p H Fz S R (Grow.refl _ _ _) fun _ => Calm.refl _)⟩
  | some h n =>
    refine ⟨fun pins s σ H Q I ⟨Fz, S, env, R, p⟩ => (po_some (h.se .val (by decide))).run pins s σ H Q I ⟨Fz, S, env, R, ?_⟩⟩
    unfold partR at p
    rw [n, if_neg Bool.false_ne_true] at p
    cases ev : evX F il .val env with
    | stuck => rw [ev] at p; exact False.elim p
    | exc c d e => rw [ev] at p; exact p
    | ok r =>
      rw [ev] at p
      intro v H' Fz' S' R' g c ⟨T, rw', fr⟩
      obtain ⟨e1, w⟩ := r
      cases hp : partW w with
      | none =>
        simp only [Res.map, Res.bind, hp, Option.map_none, Res.of] at p
        exact False.elim p
      | some i =>
        simp only [Res.map, Res.bind, hp, Option.map_some, Res.of] at p
        cases w with
        | val d =>
          cases d with
          | int j =>
            cases hp
            cases rw' with
            | val rd => exact ⟨i, rd.int_inv, p H' Fz' S' R' g c⟩
          | _ => cases hp
        | _ => cases hp
theorem PX.bindPt {r : Res (Env × Option Int)} {f : Env × Option Int → Res (Env × W)} {q1 : Bool} {Q' : Option Int → Hp → Prop} (h : PX B K H0 Fz0 S0 σ m q Q Wx (r.bind f)) (g0 : Grow H0 Fz0 S0 H Fz S) (c0 : q = true → Calm H0 H) (hq : q = true → q1 = true)
    (k : ∀ e i, r = .ok (e, i) → PX B K H0 Fz0 S0 σ m q Q Wx (f (e, i)) → ∀ H' Fz' S', Rel K H' Fz' S' σ e → Grow H Fz S H' Fz' S' → Grow H0 Fz0 S0 H' Fz' S' → (q1 = true → Calm H H') → (q = true → Calm H0 H') → Q' i H') :
    PPt B K H Fz S σ q1 Q' Wx r := by
  cases r with
  | stuck => exact False.elim h
  | exc c d e => exact fun H' Fz' S' cls od R g x => h H' Fz' S' cls od R (g0.trans g) x
  | ok r =>
    obtain ⟨e, i⟩ := r
    intro H' Fz' S' R g c
    exact k e i rfl h H' Fz' S' R g (g0.trans g) c (fun z => (c0 z).trans (c (hq z)))
theorem sIx_eq (n d : Nat) (o : Option Int) : TA.sIx n d o = HT.sIx n d o := by cases o <;> rfl
theorem cut_rep {vs : List V} {ds : List D} (r : RepDs K H Fz vs ds) (lo hi : Option Int) : RepDs K H Fz (cutV vs lo hi) (cutL ds lo hi) := by
  unfold cutV cutL
  rw [← r.len, sIx_eq, sIx_eq]
  exact (r.drop _).take _
abbrev rSlX (K : PySem.W.Frag) : V → Option Int → Option Int → Hp → VK → Prop := fun x lo hi H Q => rSlL K x lo hi H Q ∨ rSlA K x lo hi H Q
theorem sl_any : SlR X (rSlX X.K) := sl_list.or sl_tupA
theorem sl_ans {x : V} {dx : D} {lo hi : Option Int} {w : W} (rx : RepF K H Fz x dx) (e : sliceD dx lo hi = some w) (R : Rel K H Fz S σ env) (g : Grow H0 Fz0 S0 H Fz S) (c : q = true → Calm H0 H) (p : PX B K H0 Fz0 S0 σ .val q Q Wx (.ok (env, w))) : rSlX K x lo hi H Q := by
  cases dx with
  | list ds =>
    cases e
    obtain ⟨a, vs, rfl, f, rs⟩ := rx.lst_inv
    exact .inl ⟨a, vs, rfl, f, p.endLst R g c (cut_rep rs lo hi).ws Fresh.nil⟩
  | tuple ds =>
    cases e
    obtain ⟨a, vs, rfl, f, rs⟩ := rx.tup_inv
    refine .inr ⟨a, vs, rfl, f.sq, fun ⟨h1, h2⟩ => ?_, fun _ => p.endTup R g c (cut_rep rs lo hi)⟩
    have e1 : cutL ds lo hi = ds := by
      unfold cutL
      rw [sIx_eq, sIx_eq, ← rs.len, h1, h2, List.drop_zero, rs.len, Nat.sub_zero, List.take_length]
    rw [e1] at p
    exact p.endD R g c (.tup f rs)
  | _ => cases e
theorem se_slc {a : Expr} {lo hi : Option Expr} {ia il ih : IE} {p2 pos : Pos} (ha : SEx X B F Wx a ia) (hl : SPt X B F Wx lo il) (hh : SPt X B F Wx hi ih) : SEx X B F Wx (.Subscript a (.Slice lo hi none p2) pos) (.slc ia il ih) := by
  have eq : IE.quiet (.slc ia il ih) = (IE.quiet ia && IE.quiet il && IE.quiet ih) := by rw [IE.quiet]
  have e1 : IE.quiet (.slc ia il ih) = true → IE.quiet ia = true ∧ IE.quiet il = true ∧ IE.quiet ih = true := fun z => by
    rw [eq, Bool.and_eq_true, Bool.and_eq_true] at z
    exact ⟨z.1.1, z.1.2, z.2⟩
  refine ⟨SE.core (core := fun env => (evX F ia (md1 (IE.quiet il && IE.quiet ih) .flat) env).bind fun r => (Res.of r.2.flat).bind fun x => (partR F il r.1).bind fun p => (partR F ih p.1).bind fun q => out1 q.1 (sliceD x p.2 q.2))
    (PE.imp (pe_slice sl_any (ha.se (md1 (IE.quiet il && IE.quiet ih) .flat) (by cases IE.quiet il && IE.quiet ih <;> decide)) hl.po hh.po) fun σ H Q ⟨Fz, S, env, R, p⟩ => ?_) (fun m env hm => by cases m <;> simp only [evX, partR]), fun _ _ => rfl⟩
  refine ⟨Fz, S, env, R, PX.flat1 p (fun z => (e1 z).1) (fun z => by rw [(e1 z).2.1, (e1 z).2.2]; rfl) (fun en1 x v1 H1 Fz1 S1 R1 g1 c1 p1 hx => ?_) (fun _ _ _ => rfl) R⟩
  refine ⟨Fz1, S1, en1, R1, PX.bindPt p1 g1 c1 (fun z => (e1 z).2.1) fun en2 i2 ev2 p2 H2 Fz2 S2 R2 g2 g2' c2 c2' => ?_⟩
  refine ⟨Fz2, S2, en2, R2, PX.bindPt p2 g2' c2' (fun z => (e1 z).2.2) fun en3 i3 ev3 p3 H3 Fz3 S3 R3 g3 g3' c3 c3' => ?_⟩
  obtain ⟨w, ew, p3⟩ := p3.out1
  exact sl_ans (hx H3 Fz3 S3 (g2.trans g3) fun z => by rw [Bool.and_eq_true] at z; exact (c2 z.1).trans (c3 z.2)) ew R3 g3' c3' p3
/-! ### dicts of the top -/
structure GDict (X : Cx) (d : Addr) (ks vs : List D) : Prop where
  kd : ∃ es n, KDict X.K X.w d es n
  has : ∀ z : Str, ∃ r, PySem.W.nsIn X.K d z = some r ∧ r.isSome = (look ks ks (.str z)).isSome
  val : ∀ (z : Str) (dv : D), look ks vs (.str z) = some dv → ∃ u0 v0, PySem.W.nsIn X.K d z = some (some u0) ∧ RelV v0 u0 ∧ ∀ H Fz, RepD X.K H Fz v0 dv
theorem se_gin {neg : Bool} {g : Nat} {ks vs : List D} {d : Addr} {a : Expr} {ia : IE} {x : Str} {p pos : Pos} (G : GDict X d ks vs) (hg : Gl X x) (hm : X.mg x = some (.ref d)) (hd : (x == ("__debug__" : Str)) = false) (ha : SEx X B F Wx a ia) (hk : behindInMarks (if neg then .NotIn else .In) (.Name x p) = false) :
    SEx X B F Wx (.Compare a [if neg then .NotIn else .In] [.Name x p] pos) (.gin neg g ks ia) := by
  have eq : IE.quiet (.gin neg g ks ia) = IE.quiet ia := by rw [IE.quiet]
  obtain ⟨es, n, kd⟩ := G.kd
  have ho : OpR X (compareOp (if neg then .NotIn else .In)) (fun x y H Q => ∃ (z : Str) (r : Option Value), x = .str z ∧ y = .ref d ∧ PySem.W.nsIn X.K d z = some r ∧ Q (.bl (if neg then !r.isSome else r.isSome)) H) := by
    cases neg with
    | false => exact op_in_kd kd
    | true => exact op_notIn_kd kd
  refine ⟨SE.core (core := fun env => (evX F ia .val env).bind fun r => (Res.of r.2.toD).bind fun x => out1 r.1 (ginW neg ks x)) (PE.imp (pe_cmpR ho (ha.se .val (by decide)) (pe_glob hg hm (show RelV (.ref d) (.ref d) from rfl) hd) hk) fun σ H Q ⟨Fz, S, env, R, p⟩ => ?_) (fun m env hm => by cases m <;> simp only [evX]), fun _ _ => rfl⟩
  refine ⟨Fz, S, env, R, PX.bind p (Grow.refl _ _ _) (fun _ => Calm.refl _) (fun z => eq ▸ z) fun e1 w1 ev1 p1 v1 H1 Fz1 S1 R1 g1 g1' c1 c1' ⟨T, rw1, fr1⟩ => ?_⟩
  obtain ⟨dx, ex, p1⟩ := p1.of
  obtain ⟨w, ew, p1⟩ := p1.out1
  obtain ⟨R2, g2⟩ := R1.sink g1 fr1 rw1.there
  have rx := rw1.sunk ex
  cases dx with
  | str z =>
    cases ew
    obtain ⟨r, hr, hi⟩ := G.has z
    rw [rx.str_inv]
    refine ⟨z, r, rfl, rfl, hr, ?_⟩
    rw [hi]
    exact p1.endD R2 g2 c1' (.bl _)
  | _ => cases ew
theorem se_gix {g : Nat} {ks vs : List D} {d : Addr} {a : Expr} {ia : IE} {x : Str} {p pos : Pos} (G : GDict X d ks vs) (hg : Gl X x) (hm : X.mg x = some (.ref d)) (hd : (x == ("__debug__" : Str)) = false) (ha : SEx X B F Wx a ia) (hs : PlainIx a) :
    SEx X B F Wx (.Subscript (.Name x p) a pos) (.gix g ks vs ia) := by
  have eq : IE.quiet (.gix g ks vs ia) = IE.quiet ia := by rw [IE.quiet]
  obtain ⟨es, n, kd⟩ := G.kd
  refine ⟨SE.core (core := fun env => (evX F ia .val env).bind fun r => (Res.of r.2.toD).bind fun x => out1 r.1 (gixW ks vs x)) (PE.imp (pe_ix ix_kdict (pe_glob hg hm (show RelV (.ref d) (.ref d) from rfl) hd) (ha.se .val (by decide)) hs) fun σ H Q ⟨Fz, S, env, R, p⟩ => ?_) (fun m env hm => by cases m <;> simp only [evX]), fun _ _ => rfl⟩
  refine ⟨Fz, S, env, R, PX.bind p (Grow.refl _ _ _) (fun _ => Calm.refl _) (fun z => eq ▸ z) fun e1 w1 ev1 p1 v1 H1 Fz1 S1 R1 g1 g1' c1 c1' ⟨T, rw1, fr1⟩ => ?_⟩
  obtain ⟨dx, ex, p1⟩ := p1.of
  obtain ⟨w, ew, p1⟩ := p1.out1
  obtain ⟨R2, g2⟩ := R1.sink g1 fr1 rw1.there
  have rx := rw1.sunk ex
  cases dx with
  | str z =>
    obtain ⟨dv, ev, rfl⟩ := Option.map_eq_some_iff.mp ew
    obtain ⟨u0, v0, h1, h2, h3⟩ := G.val z dv ev
    rw [rx.str_inv]
    exact ⟨d, z, v0, rfl, rfl, ⟨es, n, u0, kd.at_, kd.lit, h1, h2⟩, p1.endD R2 g2 c1' (h3 _ _)⟩
  | _ => cases ew
/-! ### {'..': '..', ..} -/
inductive TxtEs : List Expr → List Str → Prop
  | nil : TxtEs [] []
  | cons {x : Str} {k : Nat} {p : Pos} {es : List Expr} {xs : List Str} : TxtEs es xs → TxtEs (.Constant (.str x) k p :: es) (x :: xs)
def pairTs (ks vs : List Str) : List (TE × TE) := (ks.zip vs).map fun kv => (L2.tC (.str kv.1), L2.tC (.str kv.2))
theorem pairTs_run : ∀ {l : List (Str × Str)} {σ : L2.St} {H : Hp} {Q : List (V × V) → Hp → Prop}, Q (l.map fun kv => (V.str kv.1, V.str kv.2)) H → tPairs (l.map fun kv => (L2.tC (.str kv.1), L2.tC (.str kv.2))) σ H Q
  | [], _, _, _, h => h
  | kv :: l, σ, H, Q, h => pairTs_run (l := l) h
theorem pps_txt {pos : Pos} : ∀ {kes : List Expr} {ks : List Str} {ves : List Expr} {vs : List Str}, TxtEs kes ks → TxtEs ves vs → ks.length = vs.length → PPs X pos (kes.map some) ves (pairTs ks vs)
  | _, _, _, _, .nil, .nil, _ => pps_nil
  | _, _, _, _, .cons a, .cons b, l => pps_cons pe_str pe_str (pps_txt a b (by simpa using l))
  | _, _, _, _, .nil, .cons _, l => nomatch l
  | _, _, _, _, .cons _, .nil, l => nomatch l
theorem merge_new {α : Type} [DecidableEq α] : ∀ {more kvs : List (α × V)}, ((kvs ++ more).map (·.1)).Nodup → more.foldl (fun acc kv => putK acc kv.1 kv.2) kvs = kvs ++ more
  | [], kvs, _ => (List.append_nil _).symm
  | p :: more, kvs, h => by
    have hn : valV kvs p.1 = none := by
      have : (kvs.any fun kv => decide (kv.1 = p.1)) = false := by
        rw [List.any_eq_false]
        intro kv hkv hd
        rw [List.map_append, List.nodup_append] at h
        exact h.2.2 kv.1 (List.mem_map_of_mem hkv) p.1 (List.mem_map_of_mem (List.mem_cons_self ..)) (of_decide_eq_true hd)
      rw [valV_any] at this
      cases e : valV kvs p.1 with
      | none => rfl
      | some v => rw [e] at this; cases this
    rw [List.foldl_cons, putK_new _ hn, merge_new (by rw [List.append_assoc]; exact h), List.append_assoc]
    rfl
theorem TxtEs.len : ∀ {es : List Expr} {xs : List Str}, TxtEs es xs → es.length = xs.length
  | _, _, .nil => rfl
  | _, _, .cons h => congrArg (· + 1) h.len
theorem txts_rep : ∀ xs : List Str, RepDs K H Fz (xs.map V.str) (xs.map PyData.str)
  | [] => .nil
  | x :: xs => .cons (.str x) (txts_rep xs)
theorem se_dicL {kes ves : List Expr} {ks vs : List Str} {pos : Pos} (hk : TxtEs kes ks) (hv : TxtEs ves vs) (hn : dicLW ks vs ≠ none) : SEx X B F Wx (.Dict (kes.map some) ves pos) (.dicL ks vs) := by
  unfold dicLW at hn
  split at hn
  · rename_i h
    simp only [Bool.and_eq_true, decide_eq_true_eq] at h
    obtain ⟨⟨⟨nd, h0⟩, h15⟩, hl⟩ := h
    have hlen := hk.len
    have hlen2 := hv.len
    have ev : ∀ env : Env, out1 env (dicLW ks vs) = .ok (env, .dic (ks.map .str) ((vs.map PyData.str).map .val)) := fun env => by
      unfold dicLW
      rw [if_pos (by simp only [Bool.and_eq_true, decide_eq_true_eq]; exact ⟨⟨⟨nd, h0⟩, h15⟩, hl⟩)]
      rfl
    refine ⟨SE.core (core := fun env => .ok (env, .dic (ks.map .str) ((vs.map PyData.str).map .val))) (PE.imp (pe_disp (pps_txt (pos := pos) hk hv hl) (by simp) (by rw [List.length_map]; omega) (fun z => by rw [List.map_eq_nil_iff] at z; rw [z] at hlen; simp at hlen; omega) (by rw [List.length_map]; omega)) fun σ H Q ⟨Fz, S, env, R, p⟩ => ?_) (fun m env hm => by cases m <;> simp only [evX, ev]), fun _ _ => rfl⟩
    intro a ha
    refine pairTs_run ?_
    refine ⟨upd_same, (ks.map Sum.inr).zip (vs.map V.str), ?_, by simp; omega, ?_⟩
    · rw [List.zip_map, List.map_map]
      rfl
    · rw [L2.upd_upd]
      have e1 : mergeK [] ((ks.map Sum.inr).zip (vs.map V.str)) = (ks.map Sum.inr).zip (vs.map V.str) := by
        unfold mergeK
        rw [merge_new (by
          rw [List.nil_append, zip_fst (by simp [hl])]
          exact List.pairwise_map.mpr (List.Pairwise.imp (fun h z => h (Sum.inr.inj z)) nd))]
        rfl
      rw [e1]
      have e2 : ks.map PyData.str = (ks.map Sum.inr : List Key).map kD := by rw [List.map_map]; rfl
      rw [e2] at p
      exact p.endDK R (Grow.refl _ _ _) (fun _ => Calm.refl _) (by simp [hl]) (txts_rep vs).ws Fresh.nil a ha
  · exact absurd rfl hn
/-! ### calls of built-ins -/
theorem se_max2 {e : Expr} {ia ib : IE} {t : TA} (hr : PE X e (tCB (fun xs H Q => ∃ i j, xs = [.int i, .int j] ∧ Q (.int (if j > i then j else i)) H) (tVs B X.K F Wx [ia, ib]))) (ns : NoStar e) : SEx X B F Wx e (.blt .max2 [ia, ib]) := by
  have eq : IE.quiet (.blt .max2 [ia, ib]) = IE.quiets [ia, ib] := by rw [IE.quiet]
  refine ⟨SE.core (core := fun env => (evEs F [ia, ib] .val env).bind fun r => (Res.of (W.toDs r.2)).bind fun ds => out1 r.1 (bltD .max2 ds)) (PE.imp hr fun σ H Q ⟨Fz, S, env, R, p⟩ => ?_) (fun m env hm => by cases m <;> simp [evX] <;> rfl), ns⟩
  refine ⟨Fz, S, env, R, PX.binds p (Grow.refl _ _ _) (fun _ => Calm.refl _) (fun z => eq ▸ z) fun e ws ev p1 vs H1 Fz1 S1 R1 g1 g1' c1 c1' ⟨T, rw1, fr1⟩ => ?_⟩
  obtain ⟨ds, ed, p1⟩ := p1.of
  obtain ⟨w, ew, p1⟩ := p1.out1
  obtain ⟨R2, g2⟩ := R1.sink g1 fr1 rw1.there
  have rd := rw1.sunk ed
  cases rd with
  | nil => cases ew
  | cons r1 rd => cases rd with
    | nil => cases r1 <;> cases ew
    | cons r2 rd => cases rd with
      | nil =>
        cases r1 <;> try cases ew
        cases r2 <;> try cases ew
        exact ⟨_, _, rfl, p1.endD R2 g2 c1' (.int _)⟩
      | cons => cases r1 <;> try cases ew
                cases r2 <;> cases ew
end
end TA

set_option Elab.async false
set_option linter.all false
set_option maxRecDepth 100000
/-! TaPlace: a place's object is rewritten; methods of lists. -/
namespace TA
open PySem PySem.Spec PyProof.Rows L2
section
variable {X : Cx} {B : Tb} {K : PySem.W.Frag} {F : Nat → List W → FRes} {Wx : WX} {H H' H0 H1 : Hp} {Fz Fz' Fz1 Fz0 : Addr → Prop} {S S' S1 S0 : Own} {σ : L2.St} {m : Md} {q q' : Bool} {Q Q' : VK} {env : Env} {pins : List (Addr × Obj)} {s : Shared}
/-- no tuple is owned -/
theorem mut_own {w : W} {v : V} {T : List Addr} (r : RepW K H Fz v w T) {l : Addr} (h : v = .ref l) (hT : l ∈ T) : ∀ vs, H l ≠ some (.tup vs) := by
  cases r with
  | val => exact nomatch hT
  | lst e _ => cases h; intro vs z; rw [e] at z; cases z
  | dK e _ _ => cases h; intro vs z; rw [e] at z; cases z
  | dT e _ _ => cases h; intro vs z; rw [e] at z; cases z
  | set e => cases h; intro vs z; rw [e] at z; cases z
/-- the object l of the place j is rewritten -/
theorem Rel.write (R : Rel K H Fz S σ env) (g : Grow H0 Fz0 S0 H Fz S) {j : Nat} {v : V} {w : W} {l : Addr} {o : HO} {T : List Addr} (hj : σ[j]? = some (some v)) (hl : l ∈ S j) (ht : ∀ vs, H l ≠ some (.tup vs)) (r : RepW K (upd H l o) Fz v w T) (nd : T.Nodup)
    (hT : ∀ a ∈ T, a ∈ S j ∨ (H0 a = none ∧ ¬ Fz a ∧ ∀ i, a ∉ S i)) :
    Rel K (upd H l o) Fz (setO S j T) σ (env.set j (some w)) ∧ Grow H0 Fz0 S0 (upd H l o) Fz (setO S j T) := by
  have hlF : ¬ Fz l := (R.well.own j l hl).2
  have rdk : ∀ a u, Fx Fz a u → Rt H a u → Rt (upd H l o) a u := fun a u f e => by
    have ne : a ≠ l := fun z => by
      subst z
      rcases f with f | ⟨vs, f⟩
      · exact hlF f
      · subst f
        exact ht vs (e.2 (.inl ⟨_, rfl⟩))
    unfold Rt Rd
    rw [upd_ne ne]
    exact e
  have th : ∀ a, H a ≠ none → upd H l o a ≠ none := fun a e => by
    by_cases z : a = l
    · subst z; rw [upd_same]; simp
    · rw [upd_ne z]; exact e
  have nF : ∀ a ∈ T, ¬ Fz a := fun a ha => (hT a ha).elim (fun z => (R.well.own j a z).2) fun z => z.2.1
  refine ⟨⟨⟨fun a f => th a (R.well.fz a f), fun i a h => ?_, fun i k a h1 h2 => ?_, fun i => ?_⟩, by rw [List.length_set]; exact R.len, fun i w' h => ?_⟩, ⟨fun a o' e n f => ?_, fun a u f e => rdk a u (f.imp (g.fz a) id) (g.rd a u f e), g.fz, g.new, fun i a h => ?_, fun a e => th a (g.there a e)⟩⟩
  · by_cases e : i = j
    · subst e
      rw [setO_same] at h
      exact ⟨r.there a h, nF a h⟩
    · rw [setO_ne e] at h
      exact ⟨th a (R.well.own i a h).1, (R.well.own i a h).2⟩
  · by_cases e1 : i = j <;> by_cases e2 : k = j
    · omega
    · subst e1
      rw [setO_same] at h1
      rw [setO_ne e2] at h2
      rcases hT a h1 with z | z
      · exact R.well.dis i k a z h2
      · exact absurd h2 (z.2.2 k)
    · subst e2
      rw [setO_same] at h2
      rw [setO_ne e1] at h1
      rcases hT a h2 with z | z
      · exact R.well.dis i k a h1 z
      · exact absurd h1 (z.2.2 i)
    · rw [setO_ne e1] at h1
      rw [setO_ne e2] at h2
      exact R.well.dis i k a h1 h2
  · by_cases e : i = j
    · subst e; rw [setO_same]; exact nd
    · rw [setO_ne e]; exact R.well.nod i
  · by_cases e : i = j
    · subst e
      rw [setO_same]
      have lt : i < env.length := by rw [R.len]; exact (List.getElem?_eq_some_iff.mp hj).1
      rw [List.getElem?_set_self lt] at h
      cases h
      exact ⟨v, hj, r⟩
    · rw [setO_ne e]
      rw [List.getElem?_set_ne (Ne.symm e)] at h
      obtain ⟨v', ev, r'⟩ := R.rep i w' h
      exact ⟨v', ev, r'.mono (fun _ f => f) rdk fun a ha o' e' => by
        rw [upd_ne]
        · exact e'
        · intro z
          subst z
          exact e (R.well.dis i j a ha hl)⟩
  · rw [upd_ne]
    · exact g.keep a o' e n f
    · intro z
      subst z
      rcases g.own j a hl with z | z
      · exact n j z
      · rw [z] at e; cases e
  · by_cases e : i = j
    · subst e
      rw [setO_same] at h
      rcases hT a h with z | z
      · exact g.own i a z
      · exact .inr z.1
    · rw [setO_ne e] at h
      exact g.own i a h
theorem RepWs.erase : ∀ {vs : List V} {ws : List W} {T : List Addr} {k : Nat} {d : D}, RepWs K H Fz vs ws T → ws[k]? = some (.val d) → ∃ v, vs[k]? = some v ∧ RepD K H Fz v d ∧ RepWs K H Fz (vs.eraseIdx k) (ws.eraseIdx k) T
  | _, _, _, _, _, .nil, h => by simp at h
  | _, _, _, 0, d, .cons r rs, h => by
    simp only [List.getElem?_cons_zero, Option.some.injEq] at h
    subst h
    cases r with
    | val r => exact ⟨_, rfl, r, rs⟩
  | _, _, _, k + 1, d, .cons r rs, h => by
    obtain ⟨v, e, rd, rr⟩ := rs.erase (by simpa using h)
    exact ⟨v, by simpa using e, rd, .cons r rr⟩
/-- a place that holds a list -/
theorem Rel.lst (R : Rel K H Fz S σ env) {j : Nat} {ws : List W} (h : env[j]? = some (some (.lst ws))) : ∃ l vs T, σ[j]? = some (some (.ref l)) ∧ H l = some (.lst vs) ∧ RepWs K H Fz vs ws T ∧ S j = l :: T := by
  obtain ⟨v, hv, r⟩ := R.rep j _ h
  generalize eS : S j = T' at r
  cases r with
  | lst e rs => exact ⟨_, _, _, hv, e, rs, rfl⟩
/-- a place's list holds other items -/
theorem Rel.wlst (R : Rel K H Fz S σ env) (g : Grow H0 Fz0 S0 H Fz S) {j : Nat} {l : Addr} {vs vs' : List V} {ws' : List W} {T T' : List Addr} (hj : σ[j]? = some (some (.ref l))) (hl : H l = some (.lst vs)) (hS : S j = l :: T) (r : RepWs K H Fz vs' ws' T') (nd : T'.Nodup)
    (hT : ∀ a ∈ T', a ∈ T ∨ (H0 a = none ∧ ¬ Fz a ∧ ∀ i, a ∉ S i)) : Rel K (upd H l (.lst vs')) Fz (setO S j (l :: T')) σ (env.set j (some (.lst ws'))) ∧ Grow H0 Fz0 S0 (upd H l (.lst vs')) Fz (setO S j (l :: T')) := by
  have hlS : l ∈ S j := by rw [hS]; exact List.mem_cons_self ..
  have hlT : l ∉ T := by
    have := R.well.nod j
    rw [hS] at this
    exact (List.nodup_cons.mp this).1
  have hlT' : l ∉ T' := fun z => (hT l z).elim hlT fun z => z.2.2 j hlS
  have ht : ∀ us, H l ≠ some (.tup us) := fun us z => by rw [hl] at z; cases z
  refine R.write g hj hlS ht (.lst upd_same (r.mono (fun _ f => f) (fun a u f e => ?_) fun a ha o e => ?_)) (List.nodup_cons.mpr ⟨hlT', nd⟩) fun a ha => ?_
  · have ne : a ≠ l := fun z => by
      subst z
      rcases f with f | ⟨us, f⟩
      · exact (R.well.own j a hlS).2 f
      · subst f
        exact ht us (e.2 (.inl ⟨_, rfl⟩))
    unfold Rt Rd
    rw [upd_ne ne]
    exact e
  · rw [upd_ne]
    · exact e
    · intro z; subst z; exact hlT' ha
  · rcases List.mem_cons.mp ha with rfl | ha
    · exact .inl hlS
    · rcases hT a ha with z | z
      · exact .inl (by rw [hS]; exact List.mem_cons_of_mem _ z)
      · exact .inr z
/-- a place's object holds other things: a list or a dict -/
theorem Rel.wobj (R : Rel K H Fz S σ env) (g : Grow H0 Fz0 S0 H Fz S) {j : Nat} {l : Addr} {o0 o : HO} {vs' : List V} {ws' : List W} {w' : W} {T T' : List Addr} (hj : σ[j]? = some (some (.ref l))) (hl : H l = some o0) (h0 : ∀ us, o0 ≠ .tup us) (hS : S j = l :: T)
    (mk : ∀ H2, H2 l = some o → RepWs K H2 Fz vs' ws' T' → RepW K H2 Fz (.ref l) w' (l :: T')) (r : RepWs K H Fz vs' ws' T') (nd : T'.Nodup)
    (hT : ∀ a ∈ T', a ∈ T ∨ (H0 a = none ∧ ¬ Fz a ∧ ∀ i, a ∉ S i)) : Rel K (upd H l o) Fz (setO S j (l :: T')) σ (env.set j (some w')) ∧ Grow H0 Fz0 S0 (upd H l o) Fz (setO S j (l :: T')) := by
  have hlS : l ∈ S j := by rw [hS]; exact List.mem_cons_self ..
  have hlT : l ∉ T := by
    have := R.well.nod j
    rw [hS] at this
    exact (List.nodup_cons.mp this).1
  have hlT' : l ∉ T' := fun z => (hT l z).elim hlT fun z => z.2.2 j hlS
  have ht : ∀ us, H l ≠ some (.tup us) := fun us z => by rw [hl] at z; cases z; exact h0 us rfl
  refine R.write g hj hlS ht (mk _ upd_same (r.mono (fun _ f => f) (fun a u f e => ?_) fun a ha o e => ?_)) (List.nodup_cons.mpr ⟨hlT', nd⟩) fun a ha => ?_
  · have ne : a ≠ l := fun z => by
      subst z
      rcases f with f | ⟨us, f⟩
      · exact (R.well.own j a hlS).2 f
      · subst f
        exact ht us (e.2 (.inl ⟨_, rfl⟩))
    unfold Rt Rd
    rw [upd_ne ne]
    exact e
  · rw [upd_ne]
    · exact e
    · intro z; subst z; exact hlT' ha
  · rcases List.mem_cons.mp ha with rfl | ha
    · exact .inl hlS
    · rcases hT a ha with z | z
      · exact .inl (by rw [hS]; exact List.mem_cons_of_mem _ z)
      · exact .inr z
/-- what is frozen stands where a place's list is rewritten -/
theorem Rel.off (R : Rel K H Fz S σ env) {j : Nat} {l : Addr} {vs : List V} {o : HO} (hl : H l = some (.lst vs)) (hS : l ∈ S j) : ∀ a u, Fx Fz a u → Rt H a u → Rt (upd H l o) a u := fun a u f e => by
  have ne : a ≠ l := fun z => by
    subst z
    rcases f with f | ⟨us, f⟩
    · exact (R.well.own j a hS).2 f
    · subst f
      have := e.2 (.inl ⟨_, rfl⟩)
      rw [hl] at this
      cases this
  unfold Rt Rd
  rw [upd_ne ne]
  exact e
/-! ### methods -/
def rMt (mi : MI) : V → List V → Hp → VK → Prop := match mi with
  | .append => rAppend
  | .extend => rExtend
  | .pop0 => rPop
  | .popi => rPopAt
def mtName : MI → Str
  | .append => "append"
  | .extend => "extend"
  | _ => "pop"
/-- the method's rule answers -/
theorem mt_ans {mi : MI} {j : Nat} {l : Addr} {W0 : W} {ws : List W} {vs : List V} {T : List Addr} {w w' : W} (R : Rel K H Fz S σ env) (g : Grow H0 Fz0 S0 H Fz S) (hg : env[j]? = some (some W0)) (hj : σ[j]? = some (some (.ref l))) (r : RepWs K H Fz vs ws T) (fr : Fresh H0 H Fz S T)
    (e : mthW mi W0 ws = some (w, w')) (p : PX B K H0 Fz0 S0 σ .val false Q Wx (.ok (env.set j (some w'), w))) : rMt mi (.ref l) vs H Q := by
  cases W0 with
  | lst us =>
    obtain ⟨l', xs, T0, hj', hl, rx, hS⟩ := R.lst hg
    rw [hj] at hj'
    cases hj'
    have nT0 : T0.Nodup := by
      have := R.well.nod j
      rw [hS] at this
      exact (List.nodup_cons.mp this).2
    have inS : ∀ a ∈ T0, a ∈ S j := fun a z => by rw [hS]; exact List.mem_cons_of_mem _ z
    cases mi with
    | append =>
      match ws, e with
      | [wa], e =>
        rw [mthW] at e
        split at e
        · rename_i hz
          cases e
          cases r with
          | cons ra rr =>
            cases rr
            rename_i va Ta
            rw [List.append_nil] at fr
            have rn : RepWs K H Fz (xs ++ [va]) (us ++ [wa]) (T0 ++ Ta) := rx.app (RepWs.one ra)
            obtain ⟨R', g'⟩ := R.wlst (T' := T0 ++ Ta) g hj hl hS rn (List.nodup_append.mpr ⟨nT0, fr.1, fun a ha b hb z => by subst z; exact (fr.2 a hb).2.2 j (inS a ha)⟩) fun a ha => (List.mem_append.mp ha).imp id fun z => fr.2 a z
            exact ⟨l, xs, va, rfl, rfl, hl, by rw [rx.len]; have := szOk_le hz; omega, p _ _ _ _ R' g' (fun z => nomatch z) ⟨[], .val .non, Fresh.nil⟩⟩
        · cases e
    | extend =>
      match ws, e with
      | [.lst ys], e =>
        rw [mthW] at e
        split at e
        · rename_i hz
          cases e
          cases r with
          | cons ra rr =>
            cases rr
            rw [List.append_nil] at fr
            cases ra with
            | lst hb rb =>
              rename_i b zs Tb
              have fr' : Fresh H0 H Fz S Tb := ⟨(List.nodup_cons.mp fr.1).2, fun a z => fr.2 a (List.mem_cons_of_mem _ z)⟩
              obtain ⟨R', g'⟩ := R.wlst (T' := T0 ++ Tb) g hj hl hS (rx.app rb) (List.nodup_append.mpr ⟨nT0, fr'.1, fun a ha b hb z => by subst z; exact (fr'.2 a hb).2.2 j (inS a ha)⟩) fun a ha => (List.mem_append.mp ha).imp id fun z => fr'.2 a z
              exact ⟨l, b, xs, zs, rfl, rfl, hl, hb, by rw [rx.len, rb.len]; exact szOk_le hz, p _ _ _ _ R' g' (fun z => nomatch z) ⟨[], .val .non, Fresh.nil⟩⟩
        · cases e
    | pop0 =>
      match ws, e with
      | [], e =>
        cases r
        rw [mthW] at e
        split at e
        · rename_i d hk
          cases e
          obtain ⟨y, hy, rd, rr⟩ := rx.erase hk
          rw [← rx.len] at hy
          obtain ⟨R', g'⟩ := R.wlst (T' := T0) g hj hl hS rr nT0 fun a ha => .inl ha
          refine ⟨l, xs, y, rfl, rfl, hl, hy, ?_⟩
          have e1 : xs.dropLast = xs.eraseIdx (us.length - 1) := by
            rw [← rx.len]
            exact (PyProof.Rows.Copied.eraseIdx_last xs).symm
          rw [e1]
          refine p y _ _ _ R' g' (fun z => nomatch z) ⟨[], .val ?_, Fresh.nil⟩
          exact rd.mono (fun _ f => f) (R.off hl (by rw [hS]; exact List.mem_cons_self ..))
        · cases e
    | popi =>
      match ws, e with
      | [.val (.int i)], e =>
        cases r with
        | cons ra rr =>
          cases rr
          cases ra with
          | val ra =>
            rw [mthW] at e
            split at e
            · rename_i k hk
              split at hk
              · rename_i hz
                split at e
                · rename_i d hd
                  cases e
                  obtain ⟨y, hy, rd, rr⟩ := rx.erase hd
                  obtain ⟨R', g'⟩ := R.wlst (T' := T0) g hj hl hS rr nT0 fun a ha => .inl ha
                  have hz := szOk_le hz
                  rw [← rx.len] at hk hz
                  obtain ⟨h1, h2, h3, h4⟩ := ixN_seq (show L2.ixN xs.length i = some k from hk)
                  have hn := line63
                  rw [ra.int_inv]
                  exact ⟨l, xs, i, k, y, rfl, rfl, hl, by omega, by omega, h1, hy, p y _ _ _ R' g' (fun z => nomatch z) ⟨[], .val (rd.mono (fun _ f => f) (R.off hl (by rw [hS]; exact List.mem_cons_self ..))), Fresh.nil⟩⟩
                · cases e
              · cases hk
            · cases e
  | _ => cases mi <;> simp [mthW] at e
theorem get_some {i : Nat} {w : W} (h : env[i]? = some (some w)) : Env.get env i = .ok w := by unfold Env.get; rw [h]
theorem lst_get {r : Res (Env × W)} {j : Nat} {f : W → Res (Env × W)} (h : PX B K H Fz S σ m q Q Wx ((env.get j).bind f)) : ∃ w, env[j]? = some (some w) ∧ PX B K H Fz S σ m q Q Wx (f w) := by
  rcases get_cases env j with ⟨w, e1, e2⟩ | e1
  · rw [e1] at h; exact ⟨w, e2, h⟩
  · rw [e1] at h; exact False.elim h
theorem isLst_ok {w : W} (h : w.isLst = true) : ∃ ws, w = .lst ws := by cases w <;> first | exact ⟨_, rfl⟩ | cases h
theorem mt_rule (mi : MI) : ∃ id, Slot "list" (mtName mi) id ∧ typeOf (.builtin id) = pure (.type "method_descriptor") ∧ MtR X id (rMt mi) := by
  cases mi with
  | append => exact ⟨_, PySem.F.slot_list_append, PySem.F.type_list_append, mt_append⟩
  | extend => exact ⟨_, PySem.F.slot_list_extend, PySem.F.type_list_extend, mt_extend⟩
  | pop0 => exact ⟨_, PySem.F.slot_list_pop, PySem.F.type_list_pop, mt_pop⟩
  | popi => exact ⟨_, PySem.F.slot_list_pop, PySem.F.type_list_pop, mt_popAt⟩
theorem se_mth {mi : MI} {j : Nat} {x : Str} {es : List Expr} {irs : List IE} {p1 apos pos : Pos} (hN : X.N[j]? = some x) (hv : Vis X.env.scope x) (hd : (x == ("__debug__" : Str)) = false) (hcd : (x == ("__classdict__" : Str)) = false)
    (hp : PA X es (tVs B X.K F Wx irs)) (h1 : es = [] ∨ ∃ e, es = [e] ∧ NoStar e) (h0 : es = [] → irs = []) (hl : (apos.endLine == pos.line) = true) : SEx X B F Wx (.Call (.Attribute (.Name x p1) (mtName mi) apos) es [] pos) (.mth mi j irs) := by
  obtain ⟨id, slot, ty, rule⟩ := mt_rule (X := X) mi
  have pv := pe_var (pos := p1) hN hv hd hcd
  have base : attributeBase (.Name x p1) (mtName mi) X.env (eval (.Name x p1) X.env) = eval (.Name x p1) X.env := rfl
  have he : PE X (.Call (.Attribute (.Name x p1) (mtName mi) apos) es [] pos) (fun σ H Q => tVar j σ H fun v H1 => tyV X.K "list" v H1 ∧ tVs B X.K F Wx irs σ H1 fun vs H2 => rMt mi v vs H2 Q) := by
    rcases h1 with rfl | ⟨e, rfl, ns⟩
    · exact PE.imp (pe_bm0 PySem.F.plainAttrs_list slot ty rule pv base hl) fun σ H Q ⟨v, hv, ht, Fz, S, env, R, p⟩ => ⟨v, hv, ht, by
        obtain rfl := h0 rfl
        exact p [] H Fz S R (Grow.refl _ _ _) (fun _ => Calm.refl _) ⟨[], .nil, Fresh.nil⟩⟩
    · have hs : starEach [e] X.env = (false, eval e X.env) :: starEach [] X.env := ns [] X.env
      exact pe_bm PySem.F.plainAttrs_list slot ty rule pv hp base (by rw [hs]; rfl) hl hs rfl
  refine ⟨SE.core (core := fun env => (env.get j).bind fun s0 => if s0.isLst then ((evEs F irs .val env).bind fun r => (r.1.get j).bind fun s => Res.of ((mthW mi s r.2).map fun q => (r.1.set j (some q.2), q.1))) else .stuck) (PE.imp he fun σ H Q ⟨Fz, S, env, R, p⟩ => ?_) (fun m env hm => by cases m <;> simp only [evX]), fun _ _ => rfl⟩
  obtain ⟨w0, e0, p⟩ := lst_get (r := .stuck) p
  split at p
  · rename_i hL
    obtain ⟨ws0, rfl⟩ := isLst_ok hL
    obtain ⟨l, xs, T, hj, hl', rx, hS⟩ := R.lst e0
    refine ⟨.ref l, hj, .inl ⟨rfl, xs, .inl (.of hl')⟩, Fz, S, env, R, ?_⟩
    have hq : IE.quiet (.mth mi j irs) = false := by rw [IE.quiet]
    rw [hq] at p
    refine PX.binds p (Grow.refl _ _ _) (fun z => nomatch z) (fun z => nomatch z) fun e ws ev p1 vs H1 Fz1 S1 R1 g1 g1' c1 c1' ⟨U, rw1, fr1⟩ => ?_
    obtain ⟨w1, e1, p1⟩ := lst_get (r := .stuck) p1
    cases em : mthW mi w1 ws with
    | none => rw [em] at p1; exact False.elim p1
    | some q =>
      rw [em] at p1
      obtain ⟨w, w'⟩ := q
      exact mt_ans R1 g1 e1 hj rw1 fr1 em p1
  · exact False.elim p
end
end TA

set_option Elab.async false
set_option linter.all false
set_option maxRecDepth 100000
/-! TaCall: a def's promise, arguments, calls. -/
namespace TA
open PySem PySem.Spec PyProof.Rows L2
/-- the in-out ones -/
def pickV {α : Type} (ios : List Nat) (vs : List α) : List α := ios.filterMap fun i => vs[i]?
/-- what is wanted behind a call; Ts: what the arguments own -/
def PF (B : Tb) (K : PySem.W.Frag) (ios : List Nat) (vs : List V) (H : Hp) (Fz : Addr → Prop) (Ts : List (List Addr)) (Q : VK) (E : XK) : FRes → Prop
  | .stuck => False
  | .ret r outs => ∀ v H' Fz' Tr Tos, RepW K H' Fz' v r Tr → RepWl K H' Fz' (pickV ios vs) outs Tos → Grow H Fz (fun _ => Ts.flatten) H' Fz' (fun _ => []) → (∀ a, Fz' a → H' a ≠ none) → (Tr ++ Tos.flatten).Nodup →
      (∀ a ∈ Tr, H a = none ∧ ¬ Fz' a) → (∀ a ∈ Tos.flatten, ¬ Fz' a) → Paired (fun To Ti => ∀ a ∈ To, H a = none ∨ a ∈ Ti) Tos (pickV ios Ts) → Q v H'
  | .exc c d => ∀ H' Fz' cls od, Grow H Fz (fun _ => Ts.flatten) H' Fz' (fun _ => []) → (∀ a, Fz' a → H' a ≠ none) → ExcAt B K H' Fz' c d cls od → E cls od H'
def spF (B : Tb) (K : PySem.W.Frag) (np : Nat) (ios : List Nat) (Ff : List W → FRes) : Sp := fun vs H Q E =>
  vs.length = np ∧ ∃ Fz ws Ts, RepWl K H Fz vs ws Ts ∧ Ts.flatten.Nodup ∧ (∀ a ∈ Ts.flatten, ¬ Fz a) ∧ (∀ a, Fz a → H a ≠ none) ∧ (∀ i, i < np → i ∉ ios → Ts[i]? = some []) ∧ PF B K ios vs H Fz Ts Q E (Ff ws)
/-- arguments that are made -/
inductive RepAs (K : PySem.W.Frag) (H : Hp) (Fz : Addr → Prop) (σ : L2.St) : List V → List Arg → List Addr → Prop
  | nil : RepAs K H Fz σ [] [] []
  | val {v : V} {d : D} {vs : List V} {as : List Arg} {U : List Addr} : RepD K H Fz v d → RepAs K H Fz σ vs as U → RepAs K H Fz σ (v :: vs) (.val d :: as) U
  | slot {v : V} {j : Nat} {vs : List V} {as : List Arg} {U : List Addr} : σ[j]? = some (some v) → RepAs K H Fz σ vs as U → RepAs K H Fz σ (v :: vs) (.slot j :: as) U
  | tmp {v : V} {w : W} {T : List Addr} {vs : List V} {as : List Arg} {U : List Addr} : RepW K H Fz v w T → RepAs K H Fz σ vs as U → RepAs K H Fz σ (v :: vs) (.tmp w :: as) (T ++ U)
def PAs (B : Tb) (K : PySem.W.Frag) (H : Hp) (Fz : Addr → Prop) (S : Own) (σ : L2.St) (q : Bool) (Q : List V → Hp → Prop) (Wx : WX) : Res (Env × List Arg) → Prop
  | .stuck => False
  | .ok r => ∀ vs H' Fz' S' U, Rel K H' Fz' S' σ r.1 → Grow H Fz S H' Fz' S' → (q = true → Calm H H') → RepAs K H' Fz' σ vs r.2 U → Fresh H H' Fz' S' U → Q vs H'
  | .exc c d e => ∀ H' Fz' S' cls od, Rel K H' Fz' S' σ e → Grow H Fz S H' Fz' S' → ExcAt B K H' Fz' c d cls od → Wx cls od σ H'
def tAs (B : Tb) (K : PySem.W.Frag) (F : Nat → List W → FRes) (Wx : WX) (irs : List IE) : TA := fun σ H Q =>
  ∃ Fz S env, Rel K H Fz S σ env ∧ PAs B K H Fz S σ (IE.quiets irs) Q Wx (evArgs F irs env)
section
variable {X : Cx} {B : Tb} {K : PySem.W.Frag} {F : Nat → List W → FRes} {Wx : WX} {H H' H0 H1 : Hp} {Fz Fz' Fz1 Fz0 : Addr → Prop} {S S' S1 S0 : Own} {σ : L2.St} {m : Md} {q q' : Bool} {Q Q' : VK} {env : Env} {pins : List (Addr × Obj)} {s : Shared}
theorem RepAs.grow {vs : List V} {as : List Arg} {U : List Addr} (r : RepAs K H Fz σ vs as U) (g : Grow H Fz S H' Fz' S') (fr : Fresh H0 H Fz S U) : RepAs K H' Fz' σ vs as U := by
  induction r with
  | nil => exact .nil
  | val r _ ih => exact .val (r.grow g) (ih fr)
  | slot e _ ih => exact .slot e (ih fr)
  | @tmp v w T vs as U r _ ih =>
    have f := List.nodup_append.mp fr.1
    exact .tmp (r.grow g ⟨f.1, fun a h => fr.2 a (List.mem_append_left _ h)⟩) (ih ⟨f.2.1, fun a h => fr.2 a (List.mem_append_right _ h)⟩)
theorem RepAs.there {vs : List V} {as : List Arg} {U : List Addr} (r : RepAs K H Fz σ vs as U) : ∀ a ∈ U, H a ≠ none := by
  induction r with
  | nil => exact fun a h => nomatch h
  | val r _ ih => exact ih
  | slot e _ ih => exact ih
  | tmp r _ ih => exact fun a h => (List.mem_append.mp h).elim (r.there a) (ih a)
theorem pas_nil : PA X [] (tAs B X.K F Wx []) := ⟨fun pos pins s σ H Q I ⟨Fz, S, env, R, p⟩ => by
  rw [evArgs] at p
  exact pa_nil.run pos pins s σ H Q I (p [] H Fz S [] R (Grow.refl _ _ _) (fun _ => Calm.refl _) .nil Fresh.nil)⟩
/-- an argument that is a value -/
theorem pas_val {e : Expr} {es : List Expr} {ir : IE} {irs : List IE} (hk : ir.ark = .val) (h : SEx X B F Wx e ir) (hs : PA X es (tAs B X.K F Wx irs)) : PA X (e :: es) (tAs B X.K F Wx (ir :: irs)) := by
  refine PA.imp (pa_cons (h.se .val (by decide)) hs (h.ns es X.env)) fun σ H Q ⟨Fz, S, env, R, p⟩ => ?_
  refine ⟨Fz, S, env, R, ?_⟩
  have hq : IE.quiets (ir :: irs) = (IE.quiet ir && IE.quiets irs) := by rw [IE.quiets]
  rw [evArgs, hk] at p
  cases e1 : evX F ir .val env with
  | stuck => rw [e1] at p; exact False.elim p
  | exc c d e => rw [e1] at p; exact p
  | ok r =>
    obtain ⟨env1, w⟩ := r
    rw [e1] at p
    intro v H1 Fz1 S1 R1 g1 c1 ⟨T, rw1, fr1⟩
    cases ed : w.toD with
    | none =>
      simp only [Res.bind, ed, Res.of] at p
      exact False.elim p
    | some d =>
      obtain ⟨R2, g2⟩ := R1.sink g1 fr1 rw1.there
      refine ⟨_, S1, env1, R2, ?_⟩
      have p : PAs B X.K H Fz S σ (IE.quiets (ir :: irs)) Q Wx ((evArgs F irs env1).bind fun q => .ok (q.1, .val d :: q.2)) := by
        simpa only [Res.bind, ed, Res.of] using p
      cases e2 : evArgs F irs env1 with
      | stuck => rw [e2] at p; exact False.elim p
      | exc c d e => rw [e2] at p; exact fun H2 F2 S2 cls od R3 g3 x => p H2 F2 S2 cls od R3 (g2.trans g3) x
      | ok r2 =>
        obtain ⟨env2, as⟩ := r2
        rw [e2] at p
        intro vs H2 Fz2 S2 U R3 g3 c3 ra fr
        refine p (v :: vs) H2 Fz2 S2 U R3 (g2.trans g3) (fun z => ?_) (.val ((rw1.sunk ed).grow g3) ra) (fr.back g2.there)
        rw [hq, Bool.and_eq_true] at z
        exact (c1 z.1).trans (c3 z.2)
/-- a place -/
theorem pas_io {x : Str} {j : Nat} {pos : Pos} {es : List Expr} {irs : List IE} (hN : X.N[j]? = some x) (hv : Vis X.env.scope x) (hd : (x == ("__debug__" : Str)) = false) (hcd : (x == ("__classdict__" : Str)) = false) (hs : PA X es (tAs B X.K F Wx irs)) :
    PA X (.Name x pos :: es) (tAs B X.K F Wx (.io j :: irs)) := by
  refine PA.imp (pa_cons (pe_var (pos := pos) hN hv hd hcd) hs rfl) fun σ H Q ⟨Fz, S, env, R, p⟩ => ?_
  have hq : IE.quiets (.io j :: irs) = false := by rw [IE.quiets, IE.quiet]; rfl
  rw [evArgs] at p
  simp only [IE.ark] at p
  rcases get_cases env j with ⟨w, eg, ei⟩ | eg
  · rw [eg] at p
    obtain ⟨v, ev, _⟩ := R.rep j w ei
    refine ⟨v, ev, Fz, S, env, R, ?_⟩
    have p : PAs B X.K H Fz S σ (IE.quiets (.io j :: irs)) Q Wx ((evArgs F irs env).bind fun q => .ok (q.1, .slot j :: q.2)) := p
    cases e2 : evArgs F irs env with
    | stuck => rw [e2] at p; exact False.elim p
    | exc c d e => rw [e2] at p; exact p
    | ok r2 =>
      obtain ⟨env2, as⟩ := r2
      rw [e2] at p
      intro vs H2 Fz2 S2 U R3 g3 c3 ra fr
      exact p (v :: vs) H2 Fz2 S2 U R3 g3 (fun z => by rw [hq] at z; cases z) (.slot ev ra) fr
  · rw [eg] at p; exact False.elim p
/-- a value of nobody -/
theorem pas_iot {e : Expr} {es : List Expr} {ir : IE} {irs : List IE} (h : SEx X B F Wx e ir) (hs : PA X es (tAs B X.K F Wx irs)) : PA X (e :: es) (tAs B X.K F Wx (.iot ir :: irs)) := by
  refine PA.imp (pa_cons (h.se .val (by decide)) hs (h.ns es X.env)) fun σ H Q ⟨Fz, S, env, R, p⟩ => ?_
  refine ⟨Fz, S, env, R, ?_⟩
  have hq : IE.quiets (.iot ir :: irs) = false := by rw [IE.quiets, IE.quiet]; rfl
  have ev : evX F (.iot ir) .val env = evX F ir .val env := by simp only [evX]
  rw [evArgs] at p
  simp only [IE.ark] at p
  rw [ev] at p
  cases e1 : evX F ir .val env with
  | stuck => rw [e1] at p; exact False.elim p
  | exc c d e => rw [e1] at p; exact p
  | ok r =>
    obtain ⟨env1, w⟩ := r
    rw [e1] at p
    intro v H1 Fz1 S1 R1 g1 c1 ⟨T, rw1, fr1⟩
    refine ⟨Fz1, S1, env1, R1, ?_⟩
    have p : PAs B X.K H Fz S σ (IE.quiets (.iot ir :: irs)) Q Wx ((evArgs F irs env1).bind fun q => .ok (q.1, .tmp w :: q.2)) := p
    cases e2 : evArgs F irs env1 with
    | stuck => rw [e2] at p; exact False.elim p
    | exc c d e => rw [e2] at p; exact fun H2 F2 S2 cls od R3 g3 x => p H2 F2 S2 cls od R3 (g1.trans g3) x
    | ok r2 =>
      obtain ⟨env2, as⟩ := r2
      rw [e2] at p
      intro vs H2 Fz2 S2 U R3 g3 c3 ra fr
      have fr1' := fr1.grow rw1.there g3
      have rw1' := rw1.grow g3 fr1
      refine p (v :: vs) H2 Fz2 S2 (T ++ U) R3 (g1.trans g3) (fun z => by rw [hq] at z; cases z) (.tmp rw1' ra) (fr1'.app fr rw1.there g1.there)
end
end TA

set_option Elab.async false
set_option linter.all false
set_option maxRecDepth 100000
/-! TaCall2: behind a call; the rule of a call. -/
namespace TA
open PySem PySem.Spec PyProof.Rows L2
def Arg.io : Arg → Bool
  | .val _ => false
  | _ => true
def IE.ioB (e : IE) : Bool := match e.ark with
  | .val => false
  | _ => true
def posOf : Nat → List Bool → List Nat
  | _, [] => []
  | k, true :: bs => k :: posOf (k + 1) bs
  | k, false :: bs => posOf (k + 1) bs
def ioVs {α : Type} : List Arg → List α → List α
  | .val _ :: as, _ :: vs => ioVs as vs
  | _ :: as, v :: vs => v :: ioVs as vs
  | _, _ => []
inductive Jv (σ : L2.St) : List (Option Nat) → List V → Prop
  | nil : Jv σ [] []
  | some {j : Nat} {v : V} {js : List (Option Nat)} {vs : List V} : σ[j]? = some (some v) → Jv σ js vs → Jv σ (some j :: js) (v :: vs)
  | none {v : V} {js : List (Option Nat)} {vs : List V} : Jv σ js vs → Jv σ (none :: js) (v :: vs)
/-- what the places own -/
inductive Jt (S : Own) : List (Option Nat) → List (List Addr) → Prop
  | nil : Jt S [] []
  | some {j : Nat} {js : List (Option Nat)} {Ts : List (List Addr)} : Jt S js Ts → Jt S (some j :: js) (S j :: Ts)
  | none {T : List Addr} {js : List (Option Nat)} {Ts : List (List Addr)} : Jt S js Ts → Jt S (none :: js) (T :: Ts)
def dropS (S : Own) (js : List (Option Nat)) : Own := fun i => if some i ∈ js then [] else S i
section
variable {X : Cx} {B : Tb} {K : PySem.W.Frag} {F : Nat → List W → FRes} {Wx : WX} {H H' H0 H1 : Hp} {Fz Fz' Fz1 Fz0 : Addr → Prop} {S S' S1 S0 : Own} {σ : L2.St} {m : Md} {q q' : Bool} {Q Q' : VK} {env : Env} {pins : List (Addr × Obj)} {s : Shared}
theorem RepAs.len {vs : List V} {as : List Arg} {U : List Addr} (r : RepAs K H Fz σ vs as U) : vs.length = as.length := by induction r <;> simp_all
theorem RepAs.jv {vs : List V} {as : List Arg} {U : List Addr} (r : RepAs K H Fz σ vs as U) : Jv σ (argsJ as) (ioVs as vs) := by
  induction r with
  | nil => exact .nil
  | val _ _ ih => exact ih
  | slot e _ ih => exact .some e ih
  | tmp _ _ ih => exact .none ih
theorem pick_pos {α : Type} : ∀ {as : List Arg} {vs pre : List α}, vs.length = as.length → pickV (posOf pre.length (as.map Arg.io)) (pre ++ vs) = ioVs as vs
  | [], [], _, _ => rfl
  | [], _ :: _, _, h => nomatch h
  | _ :: _, [], _, h => nomatch h
  | a :: as, v :: vs, pre, h => by
    have ih := pick_pos (as := as) (vs := vs) (pre := pre ++ [v]) (by simpa using h)
    rw [List.length_append, List.length_singleton, List.append_assoc] at ih
    have e : (pre ++ v :: vs)[pre.length]? = some v := by simp
    cases a with
    | val d => exact ih
    | slot j =>
      simp only [List.map_cons, Arg.io, posOf, pickV, List.filterMap_cons, e, ioVs]
      exact congrArg (v :: ·) ih
    | tmp w =>
      simp only [List.map_cons, Arg.io, posOf, pickV, List.filterMap_cons, e, ioVs]
      exact congrArg (v :: ·) ih
theorem args_kinds : ∀ {irs : List IE} {env e : Env} {as : List Arg}, evArgs F irs env = .ok (e, as) → as.map Arg.io = irs.map IE.ioB
  | [], env, e, as, h => by rw [evArgs] at h; cases h; rfl
  | ir :: irs, env, e, as, h => by
    rw [evArgs] at h
    cases hk : ir.ark with
    | io j =>
      rw [hk] at h
      simp only at h
      cases e1 : env.get j with
      | stuck => rw [e1] at h; cases h
      | exc => rw [e1] at h; cases h
      | ok w =>
        rw [e1] at h
        simp only [Res.bind] at h
        cases e2 : evArgs F irs env with
        | stuck => rw [e2] at h; cases h
        | exc => rw [e2] at h; cases h
        | ok r =>
          obtain ⟨e', as'⟩ := r
          rw [e2] at h
          cases h
          simp only [List.map_cons, args_kinds e2, IE.ioB, hk, Arg.io]
    | iot =>
      rw [hk] at h
      simp only at h
      cases e1 : evX F ir .val env with
      | stuck => rw [e1] at h; cases h
      | exc => rw [e1] at h; cases h
      | ok w =>
        rw [e1] at h
        simp only [Res.bind] at h
        cases e2 : evArgs F irs w.1 with
        | stuck => rw [e2] at h; cases h
        | exc => rw [e2] at h; cases h
        | ok r =>
          obtain ⟨e', as'⟩ := r
          rw [e2] at h
          cases h
          simp only [List.map_cons, args_kinds e2, IE.ioB, hk, Arg.io]
    | val =>
      rw [hk] at h
      simp only at h
      cases e1 : evX F ir .val env with
      | stuck => rw [e1] at h; cases h
      | exc => rw [e1] at h; cases h
      | ok w =>
        rw [e1] at h
        simp only [Res.bind] at h
        cases e3 : w.2.toD with
        | none => rw [e3] at h; cases h
        | some d =>
          rw [e3] at h
          simp only [Res.of] at h
          cases e2 : evArgs F irs w.1 with
          | stuck => rw [e2] at h; cases h
          | exc => rw [e2] at h; cases h
          | ok r =>
            obtain ⟨e', as'⟩ := r
            rw [e2] at h
            cases h
            simp only [List.map_cons, args_kinds e2, IE.ioB, hk, Arg.io]
/-- the arguments as working values -/
theorem RepAs.ws {vs : List V} {as : List Arg} {U : List Addr} (r : RepAs K H Fz σ vs as U) (R : Rel K H Fz S σ env) : ∀ {ws : List W}, argsW env as = some ws → nodupB (argsJ as) = true → Fresh H0 H Fz S U →
    ∃ Ts : List (List Addr), RepWl K H Fz vs ws Ts ∧ Ts.flatten.Nodup ∧ (∀ a ∈ Ts.flatten, (∃ j, some j ∈ argsJ as ∧ a ∈ S j) ∨ a ∈ U) ∧ Ts.length = as.length ∧ Jt S (argsJ as) (ioVs as Ts) ∧ ∀ i : Nat, (as.map Arg.io)[i]? = some false → Ts[i]? = some [] := by
  induction r with
  | nil => intro ws h _ _; cases h; exact ⟨[], .nil, (List.nodup_nil : ([] : List Addr).Nodup), (fun a h => nomatch h), rfl, (Jt.nil : Jt S [] []), fun i h => by simp at h⟩
  | @val v d vs as U r _ ih =>
    intro ws h hn fr
    rw [argsW] at h
    obtain ⟨ws', e, rfl⟩ := Option.map_eq_some_iff.mp h
    obtain ⟨Ts, a, b, c, l, t, z⟩ := ih e hn fr
    exact ⟨[] :: Ts, .cons (.val r) a, b, c, congrArg (· + 1) l, t, fun i h => by
      cases i with
      | zero => rfl
      | succ i => exact z i (by simpa using h)⟩
  | @slot v j vs as U ev _ ih =>
    intro ws h hn fr
    rw [argsW] at h
    split at h
    · rename_i w ew
      obtain ⟨ws', e, rfl⟩ := Option.map_eq_some_iff.mp h
      rw [argsJ, nodupB, Bool.and_eq_true] at hn
      obtain ⟨Ts, a, b, c, l, t, z⟩ := ih e hn.2 fr
      obtain ⟨v', ev', rw'⟩ := R.rep j w ew
      rw [ev] at ev'
      cases ev'
      refine ⟨S j :: Ts, .cons rw' a, ?_, fun x hx => ?_, congrArg (· + 1) l, .some t, fun i h => by
        cases i with
        | zero => simp [Arg.io] at h
        | succ i => exact z i (by simpa using h)⟩
      · rw [List.flatten_cons]
        refine List.nodup_append.mpr ⟨R.well.nod j, b, fun x hx y hy z => ?_⟩
        subst z
        rcases c x hy with ⟨i, hi, hs⟩ | hu
        · have := R.well.dis j i x hx hs
          subst this
          have hc := hn.1
          rw [List.contains_iff_mem.mpr hi] at hc
          cases hc
        · exact (fr.2 x hu).2.2 j hx
      · rw [List.flatten_cons] at hx
        rcases List.mem_append.mp hx with hx | hx
        · exact .inl ⟨j, List.mem_cons_self .., hx⟩
        · rcases c x hx with ⟨i, hi, hs⟩ | hu
          · exact .inl ⟨i, List.mem_cons_of_mem _ hi, hs⟩
          · exact .inr hu
    · cases h
  | @tmp v w T vs as U rw' _ ih =>
    intro ws h hn fr
    rw [argsW] at h
    obtain ⟨ws', e, rfl⟩ := Option.map_eq_some_iff.mp h
    have f := List.nodup_append.mp fr.1
    rw [argsJ, nodupB] at hn
    obtain ⟨Ts, a, b, c, l, t, z⟩ := ih e hn ⟨f.2.1, fun a h => fr.2 a (List.mem_append_right _ h)⟩
    refine ⟨T :: Ts, .cons rw' a, ?_, fun x hx => ?_, congrArg (· + 1) l, .none t, fun i h => by
      cases i with
      | zero => simp [Arg.io] at h
      | succ i => exact z i (by simpa using h)⟩
    · rw [List.flatten_cons]
      refine List.nodup_append.mpr ⟨f.1, b, fun x hx y hy z => ?_⟩
      subst z
      rcases c x hy with ⟨i, hi, hs⟩ | hu
      · exact (fr.2 x (List.mem_append_left _ hx)).2.2 i hs
      · exact f.2.2 x hx x hu rfl
    · rw [List.flatten_cons] at hx
      rcases List.mem_append.mp hx with hx | hx
      · exact .inr (List.mem_append_left _ hx)
      · rcases c x hx with ⟨i, hi, hs⟩ | hu
        · exact .inl ⟨i, List.mem_cons_of_mem _ hi, hs⟩
        · exact .inr (List.mem_append_right _ hu)
theorem drop_len : ∀ (js : List (Option Nat)) (env : Env), (env.drop js).length = env.length
  | [], _ => rfl
  | some j :: js, env => by rw [Env.drop, drop_len js, List.length_set]
  | none :: js, env => by rw [Env.drop, drop_len js]
theorem drop_get : ∀ {js : List (Option Nat)} {env : Env} {i : Nat} {w : W}, (env.drop js)[i]? = some (some w) → some i ∉ js ∧ env[i]? = some (some w)
  | [], _, _, _, h => ⟨(fun z => nomatch z), h⟩
  | some j :: js, env, i, w, h => by
    rw [Env.drop] at h
    obtain ⟨h1, h2⟩ := drop_get h
    have ne : i ≠ j := fun z => by
      subst z
      rw [List.getElem?_set] at h2
      split at h2
      · split at h2 <;> cases h2
      · exact absurd rfl ‹_›
    rw [List.getElem?_set_ne (Ne.symm ne)] at h2
    exact ⟨fun z => (List.mem_cons.mp z).elim (fun y => ne (Option.some.inj y)) h1, h2⟩
  | none :: js, env, i, w, h => by
    rw [Env.drop] at h
    obtain ⟨h1, h2⟩ := drop_get h
    exact ⟨fun z => (List.mem_cons.mp z).elim (fun y => nomatch y) h1, h2⟩
/-- behind the call, the in-out places forgotten -/
theorem Rel.call (R : Rel K H Fz S σ env) (g : Grow H0 Fz0 S0 H Fz S) {js : List (Option Nat)} {T U : List Addr} (hT : ∀ a ∈ T, (∃ j, some j ∈ js ∧ a ∈ S j) ∨ a ∈ U) (fr : Fresh H0 H Fz S U) (G : Grow H Fz (fun _ => T) H' Fz' (fun _ => [])) (hF : ∀ a, Fz' a → H' a ≠ none) :
    Rel K H' Fz' (dropS S js) σ (env.drop js) ∧ Grow H0 Fz0 S0 H' Fz' (dropS S js) := by
  have sub : ∀ {i a}, a ∈ dropS S js i → some i ∉ js ∧ a ∈ S i := fun {i a} h => by
    unfold dropS at h
    split at h
    · exact nomatch h
    · exact ⟨‹_›, h⟩
  have off : ∀ {i a}, a ∈ dropS S js i → a ∉ T := fun {i a} h ht => by
    obtain ⟨h1, h2⟩ := sub h
    rcases hT a ht with ⟨j, hj, hs⟩ | hu
    · exact h1 (R.well.dis i j a h2 hs ▸ hj)
    · exact (fr.2 a hu).2.2 i h2
  have old : ∀ a ∈ T, (∃ i, a ∈ S0 i) ∨ H0 a = none := fun a h => by
    rcases hT a h with ⟨j, hj, hs⟩ | hu
    · exact (g.own j a hs).imp (fun z => ⟨j, z⟩) id
    · exact .inr (fr.2 a hu).1
  have back : ∀ a, H a = none → H0 a = none := fun a h => by
    cases e : H0 a with
    | none => rfl
    | some o => exact absurd h (g.there a (by rw [e]; simp))
  refine ⟨⟨⟨hF, fun i a h => ⟨G.there a (R.well.own i a (sub h).2).1, fun f => ?_⟩, fun i k a h1 h2 => R.well.dis i k a (sub h1).2 (sub h2).2, fun i => ?_⟩, (drop_len js env).trans R.len, fun i w h => ?_⟩, ⟨fun a o e n f => ?_, fun a u f e => G.rd a u (f.imp (g.fz a) id) (g.rd a u f e), fun a f => G.fz a (g.fz a f), fun a f => ?_, fun i a h => g.own i a (sub h).2, fun a e => G.there a (g.there a e)⟩⟩
  · rcases G.new a f with z | z | ⟨_, z⟩
    · exact (R.well.own i a (sub h).2).2 z
    · exact (R.well.own i a (sub h).2).1 z
    · exact off h z
  · unfold dropS
    split
    · exact List.nodup_nil
    · exact R.well.nod i
  · obtain ⟨h1, h2⟩ := drop_get h
    obtain ⟨v, ev, r⟩ := R.rep i w h2
    have eS : dropS S js i = S i := if_neg h1
    rw [eS]
    refine ⟨v, ev, r.mono G.fz G.rd fun a ha o e => G.keep a o e (fun _ z => ?_) (R.well.own i a ha).2⟩
    exact off (i := i) (by rw [eS]; exact ha) z
  · have e1 := g.keep a o e n f
    refine G.keep a o e1 (fun _ z => ?_) fun z => ?_
    · rcases old a z with ⟨i, y⟩ | y
      · exact n i y
      · rw [y] at e; cases e
    · rcases g.new a z with y | y | ⟨i, y⟩
      · exact f y
      · rw [y] at e; cases e
      · exact n i y
  · rcases G.new a f with z | z | ⟨_, z⟩
    · exact g.new a z
    · exact .inr (.inl (back a z))
    · exact (old a z).elim (fun y => .inr (.inr y)) fun y => .inr (.inl y)
/-- the in-out places hold what the callee left -/
theorem Rel.outs {S0 : Own} {P : Addr → Prop} : ∀ {js : List (Option Nat)} {us : List V} {outs : List W} {Tos Ts : List (List Addr)} {env env' : Env} {S : Own}, Jv σ js us → Jt S0 js Ts → RepWl K H Fz us outs Tos → Paired (fun To Ti => ∀ a ∈ To, P a ∨ a ∈ Ti) Tos Ts → Rel K H Fz S σ env → Tos.flatten.Nodup →
    (∀ a ∈ Tos.flatten, ¬ Fz a ∧ ∀ i, a ∉ S i) → env.outs js outs = some env' → ∃ S', Rel K H Fz S' σ env' ∧ ∀ i a, a ∈ S' i → a ∈ S i ∨ (a ∈ Tos.flatten ∧ (P a ∨ a ∈ S0 i))
  | _, _, _, _, _, env, env', S, .nil, .nil, .nil, _, R, _, _, h => by
    rw [Env.outs] at h
    cases h
    exact ⟨S, R, fun _ _ z => .inl z⟩
  | _, _, _, _, _, env, env', S, .some (j := j) (v := v) e js, .some jt, .cons (T := T) (Ts := U) r rs, .cons pa ps, R, nd, hT, h => by
    rw [Env.outs] at h
    rw [List.flatten_cons] at nd hT
    have f := List.nodup_append.mp nd
    have R1 := R.set e r f.1 (fun a ha => (hT a (List.mem_append_left _ ha)).1) fun a ha i _ => (hT a (List.mem_append_left _ ha)).2 i
    obtain ⟨S', R', hs⟩ := Rel.outs js jt rs ps R1 f.2.1 (fun a ha => ⟨(hT a (List.mem_append_right _ ha)).1, fun i z => by
      by_cases ei : i = j
      · subst ei
        rw [setO_same] at z
        exact f.2.2 a z a ha rfl
      · rw [setO_ne ei] at z
        exact (hT a (List.mem_append_right _ ha)).2 i z⟩) h
    refine ⟨S', R', fun i a z => ?_⟩
    rw [List.flatten_cons]
    rcases hs i a z with z | z
    · by_cases ei : i = j
      · subst ei
        rw [setO_same] at z
        exact .inr ⟨List.mem_append_left _ z, pa a z⟩
      · rw [setO_ne ei] at z
        exact .inl z
    · exact .inr ⟨List.mem_append_right _ z.1, z.2⟩
  | _, _, _, _, _, env, env', S, .none js, .none jt, .cons (T := T) (Ts := U) r rs, .cons pa ps, R, nd, hT, h => by
    rw [Env.outs] at h
    rw [List.flatten_cons] at nd hT
    have f := List.nodup_append.mp nd
    obtain ⟨S', R', hs⟩ := Rel.outs js jt rs ps R f.2.1 (fun a ha => hT a (List.mem_append_right _ ha)) h
    refine ⟨S', R', fun i a z => (hs i a z).imp id fun z => ?_⟩
    rw [List.flatten_cons]
    exact ⟨List.mem_append_right _ z.1, z.2⟩
theorem RepAs.calm {vs : List V} {as : List Arg} {U : List Addr} (r : RepAs K H Fz σ vs as U) : (as.map Arg.io).all (!·) = true → argsJ as = [] ∧ U = [] := by
  induction r with
  | nil => exact fun _ => ⟨rfl, rfl⟩
  | val _ _ ih => exact fun h => ih (by simpa [Arg.io] using h)
  | slot _ _ ih => exact fun h => by simp [Arg.io] at h
  | tmp _ _ ih => exact fun h => by simp [Arg.io] at h
theorem io_sub {α : Type} : ∀ (as : List Arg) (Ts : List α), ∀ T ∈ ioVs as Ts, T ∈ Ts
  | [], _, _, h => by rw [ioVs] at h <;> first | exact nomatch h | (intros; contradiction)
  | .val _ :: as, [], _, h => by simp [ioVs] at h
  | .slot _ :: as, [], _, h => by simp [ioVs] at h
  | .tmp _ :: as, [], _, h => by simp [ioVs] at h
  | .val _ :: as, T :: Ts, U, h => List.mem_cons_of_mem _ (io_sub as Ts U (by simpa [ioVs] using h))
  | .slot _ :: as, T :: Ts, U, h => by
    simp only [ioVs, List.mem_cons] at h
    exact h.elim (fun e => e ▸ List.mem_cons_self ..) fun h => List.mem_cons_of_mem _ (io_sub as Ts U h)
  | .tmp _ :: as, T :: Ts, U, h => by
    simp only [ioVs, List.mem_cons] at h
    exact h.elim (fun e => e ▸ List.mem_cons_self ..) fun h => List.mem_cons_of_mem _ (io_sub as Ts U h)
theorem paired_mem {P : Addr → Prop} : ∀ {Tos Ts : List (List Addr)}, Paired (fun To Ti => ∀ a ∈ To, P a ∨ a ∈ Ti) Tos Ts → ∀ a ∈ Tos.flatten, P a ∨ a ∈ Ts.flatten
  | _, _, .nil, a, h => nomatch h
  | _, _, .cons p ps, a, h => by
    rw [List.flatten_cons] at h ⊢
    rcases List.mem_append.mp h with h | h
    · exact (p a h).imp id fun z => List.mem_append_left _ z
    · exact (paired_mem ps a h).imp id fun z => List.mem_append_right _ z
theorem flat_sub {Ts Us : List (List Addr)} (h : ∀ T ∈ Ts, T ∈ Us) : ∀ a ∈ Ts.flatten, a ∈ Us.flatten := fun a ha => by
  obtain ⟨T, h1, h2⟩ := List.mem_flatten.mp ha
  exact List.mem_flatten.mpr ⟨T, h T h1, h2⟩
theorem posOf_not : ∀ (bs : List Bool) (n i : Nat), i < bs.length → n + i ∉ posOf n bs → bs[i]? = some false
  | [], _, _, h, _ => by simp at h
  | b :: bs, n, 0, _, h => by
    cases b with
    | false => rfl
    | true => exact absurd (by rw [posOf]; exact List.mem_cons_self ..) h
  | b :: bs, n, i + 1, hl, h => by
    rw [List.getElem?_cons_succ]
    refine posOf_not bs (n + 1) i (by simpa using hl) fun z => h ?_
    have e : n + (i + 1) = n + 1 + i := by omega
    rw [e]
    cases b with
    | false => rw [posOf]; exact z
    | true => rw [posOf]; exact List.mem_cons_of_mem _ z
/-- the callee's promise serves the caller -/
theorem call_ans {f : Nat} {np : Nat} {ios : List Nat} {vs : List V} {as : List Arg} {U : List Addr} (R : Rel K H Fz S σ env) (g : Grow H0 Fz0 S0 H Fz S) (ra : RepAs K H Fz σ vs as U) (fr : Fresh H0 H Fz S U) (hio : posOf 0 (as.map Arg.io) = ios) (hn : as.length = np)
    (hq : q = true → (as.map Arg.io).all (!·) = true ∧ Calm H0 H) (p : PX B K H0 Fz0 S0 σ .val q Q Wx (callRes F f as env)) : spF B K np ios (F f) vs H Q (WE Wx σ) := by
  refine ⟨ra.len.trans hn, ?_⟩
  unfold callRes at p
  cases eW : argsW env as with
  | none => rw [eW] at p; exact False.elim p
  | some ws =>
    rw [eW] at p
    simp only at p
    split at p
    · rename_i nd
      obtain ⟨Ts, rT, nT, hT, lT, jT, zT⟩ := ra.ws R eW nd fr
      generalize eT : Ts.flatten = T at hT nT
      refine ⟨Fz, ws, Ts, rT, by rw [eT]; exact nT, fun a ha z => ?_, R.well.fz, fun i hi ni => zT i (posOf_not _ 0 i (by rw [List.length_map, hn]; exact hi) (by rw [Nat.zero_add, hio]; exact ni)), ?_⟩
      · rw [eT] at ha
        rcases hT a ha with ⟨j, _, hs⟩ | hu
        · exact (R.well.own j a hs).2 z
        · exact (fr.2 a hu).2.1 z
      · have back : ∀ a, H a = none → H0 a = none := fun a h => by
          cases e : H0 a with
          | none => rfl
          | some o => exact absurd h (g.there a (by rw [e]; simp))
        cases eF : F f ws with
        | stuck => rw [eF] at p; exact False.elim p
        | exc c d =>
          rw [eF] at p
          intro H' Fz' cls od G hF x
          rw [eT] at G
          obtain ⟨R1, g1⟩ := R.call g hT fr G hF
          exact p H' Fz' _ cls od R1 g1 x
        | ret r outs =>
          rw [eF] at p
          simp only at p
          intro v H' Fz' Tr Tos rr ro G hF nRO hTr hTo pT
          rw [eT] at G
          obtain ⟨R1, g1⟩ := R.call g hT fr G hF
          cases eO : (env.drop (argsJ as)).outs (argsJ as) outs with
          | none => rw [eO] at p; exact False.elim p
          | some env' =>
            rw [eO] at p
            have nn := List.nodup_append.mp nRO
            have pk : pickV ios vs = ioVs as vs := by
              rw [← hio]
              exact pick_pos (pre := []) ra.len
            rw [pk] at ro
            have pk2 : pickV ios Ts = ioVs as Ts := by
              rw [← hio]
              exact pick_pos (pre := []) lT
            rw [pk2] at pT
            have hT0 : ∀ a ∈ Tos.flatten, H a = none ∨ a ∈ T := fun a ha => (paired_mem pT a ha).imp id fun z => eT ▸ flat_sub (io_sub as Ts) a z
            have offS : ∀ a, H a = none → ∀ i, a ∉ dropS S (argsJ as) i := fun a h i z => by
              unfold dropS at z
              split at z
              · exact nomatch z
              · exact (R.well.own i a z).1 h
            have offT : ∀ a ∈ Tos.flatten, ∀ i, a ∉ dropS S (argsJ as) i := fun a ha i z => by
              rcases hT0 a ha with y | y
              · exact offS a y i z
              · unfold dropS at z
                split at z
                · exact nomatch z
                · rename_i hni
                  rcases hT a y with ⟨j, hj, hs⟩ | hu
                  · exact hni (R.well.dis i j a z hs ▸ hj)
                  · exact (fr.2 a hu).2.2 i z
            obtain ⟨S', R2, hs⟩ := Rel.outs ra.jv jT ro pT R1 nn.2.1 (fun a ha => ⟨hTo a ha, offT a ha⟩) eO
            have g2 : Grow H0 Fz0 S0 H' Fz' S' := ⟨g1.keep, g1.rd, g1.fz, g1.new, fun i a z => by
              rcases hs i a z with y | ⟨_, y | y⟩
              · exact g1.own i a y
              · exact .inr (back a y)
              · exact g.own i a y, g1.there⟩
            refine p v H' Fz' S' R2 g2 (fun z => ?_) ⟨Tr, rr, nn.1, fun a ha => ⟨back a (hTr a ha).1, (hTr a ha).2, fun i z => ?_⟩⟩
            · obtain ⟨hv, c0⟩ := hq z
              obtain ⟨e1, e2⟩ := ra.calm hv
              refine c0.trans fun a u ru => ?_
              have nT : a ∉ T := fun h => by
                rcases hT a h with ⟨j, hj, _⟩ | hu
                · rw [e1] at hj; exact nomatch hj
                · rw [e2] at hu; exact nomatch hu
              by_cases hf : Fz a
              · exact G.rd a u (.inl hf) ru
              · have kp : ∀ o, H a = some o → H' a = some o := fun o e => G.keep a o e (fun _ => nT) hf
                exact ⟨ru.1.imp (kp _) fun ⟨ob, e⟩ => ⟨ob, kp _ e⟩, fun e => kp _ (ru.2 e)⟩
            rcases hs i a z with y | y
            · exact offS a (hTr a ha).1 i y
            · exact nn.2.2 a ha a y.1 rfl
    · exact False.elim p
end
end TA

set_option Elab.async false
set_option linter.all false
set_option maxRecDepth 100000
/-! TaCall3: the rule of a call; tests. -/
namespace TA
open PySem PySem.Spec PyProof.Rows L2
/-- a def that may be called by its name -/
structure FnAt (X : Cx) (B : Tb) (F : Nat → List W → FRes) (f : Nat) (x : Str) (np : Nat) (ios : List Nat) : Prop where
  ex : ∃ (k : Nat) (fa : Addr) (fd : FuncData) (ps : List Str), FnOk X.prog X.w X.K X.mg X.base (L2.CX X.prog X.w) k fa fd ps (spF B X.K np ios (F f)) ∧ Room k X.A ∧ X.mg x = some (.ref fa) ∧ PySem.W.keepIn X.K (.ref fa) = true ∧ Binds X.K fd ps []
section
variable {X : Cx} {B : Tb} {K : PySem.W.Frag} {F : Nat → List W → FRes} {Wx : WX} {H H' H0 H1 : Hp} {Fz Fz' Fz1 Fz0 : Addr → Prop} {S S' S1 S0 : Own} {σ : L2.St} {m : Md} {q q' : Bool} {Q Q' : VK} {env : Env} {pins : List (Addr × Obj)} {s : Shared}
theorem NoStar.all : ∀ {es : List Expr}, (∀ e ∈ es, NoStar e) → ∀ pos env, (backTo pos (starEach es env)).any (·.1) = false
  | [], _, _, _ => rfl
  | e :: es, h, pos, env => by
    rw [h e (List.mem_cons_self ..) es env]
    show (false || (backTo pos (starEach es env)).any (·.1)) = false
    rw [NoStar.all fun e m => h e (List.mem_cons_of_mem _ m)]
    rfl
theorem io_loud {ir : IE} (h : IE.quiet ir = true) : ir.ioB = false := by
  cases ir <;> first | rfl | (rw [IE.quiet] at h; cases h)
theorem ios_loud : ∀ {irs : List IE}, IE.quiets irs = true → (irs.map IE.ioB).all (!·) = true
  | [], _ => rfl
  | ir :: irs, h => by
    rw [IE.quiets, Bool.and_eq_true] at h
    rw [List.map_cons, List.all_cons, io_loud h.1, ios_loud h.2]
    rfl
theorem se_call {f : Nat} {x : Str} {np : Nat} {ios : List Nat} {e : Expr} {es : List Expr} {irs : List IE} {p pos : Pos} (tk : Takes X Wx) (fn : FnAt X B F f x np ios) (hg : Gl X x) (hd : (x == ("__debug__" : Str)) = false) (ha : PA X (e :: es) (tAs B X.K F Wx irs)) (ns : ∀ z ∈ e :: es, NoStar z)
    (hio : posOf 0 (irs.map IE.ioB) = ios) (hn : irs.length = np) : SEx X B F Wx (.Call (.Name x p) (e :: es) [] pos) (.call f irs) := by
  obtain ⟨k, fa, fd, ps, ok, hr, hm, hk, hb⟩ := fn.ex
  have hp := pe_callS (E := WE Wx) (p := p) (pos := pos) ok hr hg hm hk hb (fun σ => passAt tk σ) ha hd (ns e (List.mem_cons_self ..) es X.env) (NoStar.all (fun z m => ns z (List.mem_cons_of_mem _ m)) pos X.env)
  refine ⟨SE.core (core := fun env => (evArgs F irs env).bind fun r => callRes F f r.2 r.1) (PE.imp hp fun σ H Q ⟨Fz, S, env, R, p⟩ => ?_) (fun m env hm => by cases m <;> simp only [evX]), fun _ _ => rfl⟩
  refine ⟨Fz, S, env, R, ?_⟩
  have eq : IE.quiet (.call f irs) = IE.quiets irs := by rw [IE.quiet]
  dsimp only at p
  rw [eq] at p
  cases eA : evArgs F irs env with
  | stuck => rw [eA] at p; exact False.elim p
  | exc c d e => rw [eA] at p; exact p
  | ok r =>
    obtain ⟨env1, as⟩ := r
    rw [eA] at p
    intro vs H' Fz' S' U R' g c ra fr
    have kd := args_kinds eA
    exact call_ans R' g ra fr (by rw [kd]; exact hio) (by rw [← hn, ← List.length_map (f := IE.ioB), ← kd, List.length_map]) (fun z => ⟨by rw [kd]; exact ios_loud z, c z⟩) p
end
end TA

set_option Elab.async false
set_option linter.all false
set_option maxRecDepth 100000
/-! TaTst: tests. -/
namespace TA
open PySem PySem.Spec PyProof.Rows L2
def PB (B : Tb) (K : PySem.W.Frag) (H : Hp) (Fz : Addr → Prop) (S : Own) (σ : L2.St) (q : Bool) (Q : Bool → Hp → Prop) (Wx : WX) : Res (Env × W) → Prop
  | .stuck => False
  | .ok r => ∀ b H' Fz' S', Rel K H' Fz' S' σ r.1 → Grow H Fz S H' Fz' S' → (q = true → Calm H H') → r.2 = .val (.bool b) → Q b H'
  | .exc c d e => ∀ H' Fz' S' cls od, Rel K H' Fz' S' σ e → Grow H Fz S H' Fz' S' → ExcAt B K H' Fz' c d cls od → Wx cls od σ H'
def tTs (B : Tb) (K : PySem.W.Frag) (F : Nat → List W → FRes) (Wx : WX) (ir : IE) : TT := fun σ H Q =>
  ∃ Fz S env, Rel K H Fz S σ env ∧ PB B K H Fz S σ (IE.quiet ir) Q Wx (evX F ir .test env)
section
variable {X : Cx} {B : Tb} {K : PySem.W.Frag} {F : Nat → List W → FRes} {Wx : WX} {H H' H0 H1 : Hp} {Fz Fz' Fz1 Fz0 : Addr → Prop} {S S' S1 S0 : Own} {σ : L2.St} {m : Md} {q q' : Bool} {Q Q' : VK} {env : Env} {pins : List (Addr × Obj)} {s : Shared} {QB QB' : Bool → Hp → Prop}
theorem PT.imp {e : Expr} {t t' : TT} (h : PT X e t) (i : ∀ σ H Q, t' σ H Q → t σ H Q) : PT X e t' := ⟨fun pins s σ H Q I x => h.run pins s σ H Q I (i σ H Q x)⟩
theorem PW.imp {e : Expr} {t t' : TT} (h : PW X e t) (i : ∀ σ H Q, t' σ H Q → t σ H Q) : PW X e t' := ⟨fun wh pins s σ H Q I x => h.run wh pins s σ H Q I (i σ H Q x)⟩
theorem fin_test_peek (r : Res (Env × W)) : Md.fin .test r = Md.fin .test (Md.fin .peek r) := by
  cases r with
  | stuck => rfl
  | exc => rfl
  | ok r =>
    obtain ⟨e, w⟩ := r
    cases h : w.toD with
    | none => simp [Md.fin, Res.map, Res.bind, h, Res.of]
    | some d => simp [Md.fin, Res.map, Res.bind, h, Res.of, W.toD]
def IE.logic : IE → Bool
  | .and .. | .or .. | .not _ | .io _ | .iot _ | .no => true
  | _ => false
theorem ev_test {ir : IE} (h : ir.logic = false) (env : Env) : evX F ir .test env = Md.fin .test (evX F ir .peek env) := by
  cases ir <;> first | (simp only [evX]; exact fin_test_peek _) | exact Bool.noConfusion h
theorem truth_ok {v : V} {d : D} {k : Bool} (r : RepP K H Fz v d) (e : truthD d = some k) : TruV K v H k := by
  obtain ⟨Fz', rd⟩ := r.d
  cases rd with
  | non => cases e; rfl
  | bl => cases e; rfl
  | int => cases e; rfl
  | str => cases e
  | lst f rs => cases e; exact .inl ⟨_, f.sq, by cases rs <;> rfl⟩
  | tup f rs => cases e; exact .inr (.inl ⟨_, f.sq, by cases rs <;> rfl⟩)
  | dK => cases e
  | dT => cases e
/-- any other expression -/
theorem st_truth {e : Expr} {ir : IE} (h : SEx X B F Wx e ir) (hl : ir.logic = false) (he : ∀ whole, isTrue e X.env whole = (do let v ← whole; standAt e.pos; holding [v] (truthy v))) : PT X e (tTs B X.K F Wx ir) := by
  refine PT.imp (pt_truth (h.se .peek (by decide)) he) fun σ H Q ⟨Fz, S, env, R, p⟩ => ⟨Fz, S, env, R, ?_⟩
  rw [ev_test hl] at p
  cases ev : evX F ir .peek env with
  | stuck => rw [ev] at p; exact p
  | exc c d e => rw [ev] at p; exact p
  | ok r =>
    obtain ⟨e, w⟩ := r
    rw [ev] at p
    intro v H' Fz' S' R' g c ⟨d, ew, rp⟩
    subst ew
    cases ek : truthD d with
    | none =>
      simp only [Md.fin, Res.map, Res.bind, W.toD, Option.bind_some, ek, Option.map_none, Res.of] at p
      exact False.elim p
    | some k =>
      simp only [Md.fin, Res.map, Res.bind, W.toD, Option.bind_some, ek, Option.map_some, Res.of] at p
      exact ⟨k, truth_ok rp ek, p k H' Fz' S' R' g c rfl⟩
/-- a bool, from a test -/
theorem PB.px {core : Res (Env × W)} (hd : ∀ e w, core = .ok (e, w) → ∃ b, w = .val (.bool b)) (p : PB B K H Fz S σ q QB Wx (Md.fin .test core)) : PX B K H Fz S σ .val q (fun x H' => ∃ k, x = .bl k ∧ QB k H') Wx core := by
  cases core with
  | stuck => exact p
  | exc c d e => exact p
  | ok r =>
    obtain ⟨e, w⟩ := r
    obtain ⟨b, rfl⟩ := hd e w rfl
    intro v H' Fz' S' R' g c ⟨T, rw', fr⟩
    cases rw' with
    | val rd => exact ⟨b, rd.bl_inv, p b H' Fz' S' R' g c rfl⟩
theorem peekCo_bool {ia ib : IE} {op : D → D → Option W} (hb : ∀ dx dy w, op dx dy = some w → ∃ b, w = .val (.bool b)) {env e : Env} {w : W} (h : peekCo F ia ib op env = .ok (e, w)) : ∃ b, w = .val (.bool b) := by
  unfold peekCo at h
  cases e1 : evX F ia (md1 (IE.quiet ib) .peek) env with
  | stuck => rw [e1] at h; cases h
  | exc => rw [e1] at h; cases h
  | ok r =>
    rw [e1] at h
    simp only [Res.bind] at h
    cases e2 : r.2.toD with
    | none => rw [e2] at h; cases h
    | some x =>
      rw [e2] at h
      simp only [Res.of, Res.bind] at h
      cases e3 : evX F ib .peek r.1 with
      | stuck => rw [e3] at h; cases h
      | exc => rw [e3] at h; cases h
      | ok q =>
        rw [e3] at h
        simp only at h
        cases e4 : q.2.toD with
        | none => rw [e4] at h; cases h
        | some y =>
          rw [e4] at h
          simp only at h
          cases e5 : op x y with
          | none => rw [e5] at h; cases h
          | some w' => rw [e5] at h; cases h; exact hb _ _ _ e5
theorem st_peek2 {e : Expr} {ia ib ir : IE} {r : R2} {op : D → D → Option W} (hr : PT X e (tTest (tOp r (tX B X.K F Wx ia (md1 (IE.quiet ib) .peek)) (tX B X.K F Wx ib .peek))))
    (hev : ∀ env, evX F ir .test env = Md.fin .test (peekCo F ia ib op env))
    (hq : IE.quiet ir = true → IE.quiet ia = true ∧ IE.quiet ib = true)
    (ans : ∀ (x y : V) (dx dy : D) (w : W) (H : Hp) (Fz Fz' : Addr → Prop) (Q : VK), RepD X.K H Fz x dx → RepD X.K H Fz' y dy → op dx dy = some w → (∀ b, w = .val (.bool b) → Q (.bl b) H) → r x y H Q)
    (hb : ∀ dx dy w, op dx dy = some w → ∃ b, w = .val (.bool b)) : PT X e (tTs B X.K F Wx ir) :=
  PT.imp hr fun σ H Q ⟨Fz, S, env, R, p⟩ => peek2_imp hq ans hb ⟨Fz, S, env, R, by
    rw [hev] at p
    exact p.px fun _ _ => peekCo_bool hb⟩
theorem cmpW_bool {o : COp} (dx dy : D) (w : W) (e : cmpW o dx dy = some w) : ∃ b, w = .val (.bool b) := by
  obtain ⟨k, ek, rfl⟩ := Option.map_eq_some_iff.mp e
  exact ⟨k, rfl⟩
theorem st_cmp {o : COp} {op : CmpOp} {r : R2} {a b : Expr} {ia ib : IE} {pos : Pos} (ho : OpR X (compareOp op) r) (ha : SEx X B F Wx a ia) (hb : SEx X B F Wx b ib) (hm : behindInMarks op b = false) (ans : AnsC X r o) : PT X (.Compare a [op] [b] pos) (tTs B X.K F Wx (.cmp o ia ib)) :=
  st_peek2 (op := cmpW o) (pt_cmpR ho (ha.se _ (by cases IE.quiet ib <;> decide)) (hb.se .peek (by decide)) hm) (fun env => by simp only [evX])
    (fun z => by rw [IE.quiet, Bool.and_eq_true] at z; exact z)
    (fun x y dx dy w H Fz Fz' Q rx ry e hQ => by
      obtain ⟨k, ek, rfl⟩ := Option.map_eq_some_iff.mp e
      exact ans x y dx dy k H Fz Fz' Q rx ry ek (hQ k rfl)) cmpW_bool
theorem chnCo_bool {o o' : COp} {ia ib ic : IE} {env e : Env} {w : W} (h : chnCo F o o' ia ib ic env = .ok (e, w)) : ∃ b, w = .val (.bool b) := by
  unfold chnCo at h
  cases e1 : evX F ia .val env with
  | stuck => rw [e1] at h; cases h
  | exc => rw [e1] at h; cases h
  | ok r =>
    rw [e1] at h
    simp only [Res.bind] at h
    cases e2 : r.2.toD with
    | none => rw [e2] at h; cases h
    | some x =>
      rw [e2] at h
      simp only [Res.of, Res.bind] at h
      cases e3 : evX F ib .val r.1 with
      | stuck => rw [e3] at h; cases h
      | exc => rw [e3] at h; cases h
      | ok q =>
        rw [e3] at h
        simp only at h
        cases e4 : q.2.toD with
        | none => rw [e4] at h; cases h
        | some y =>
          rw [e4] at h
          simp only at h
          obtain ⟨e', b, h⟩ := bool_val h
          cases b with
          | false => cases h; exact ⟨_, rfl⟩
          | true =>
            rw [if_pos rfl] at h
            cases e5 : evX F ic .val e' with
            | stuck => rw [e5] at h; cases h
            | exc => rw [e5] at h; cases h
            | ok p =>
              rw [e5] at h
              simp only [Res.bind] at h
              cases e6 : p.2.toD with
              | none => rw [e6] at h; cases h
              | some z =>
                rw [e6] at h
                simp only [Res.of, Res.bind] at h
                cases e7 : cmpW o' y z with
                | none => rw [e7] at h; cases h
                | some w' => rw [e7] at h; cases h; exact cmpW_bool _ _ _ e7
theorem st_chn {o o' : COp} {op op' : CmpOp} {r r' : R2} {a b c : Expr} {ia ib ic : IE} {pos : Pos} (ho : OpR X (compareOp op) r) (ho' : OpR X (compareOp op') r') (ha : SEx X B F Wx a ia) (hb : SEx X B F Wx b ib) (hc : SEx X B F Wx c ic) (hm : lastMarks [op, op'] [b, c] = false)
    (ans : AnsC X r o) (ans' : AnsC X r' o') : PT X (.Compare a [op, op'] [b, c] pos) (tTs B X.K F Wx (.chn o o' ia ib ic)) :=
  PT.imp (pt_chain ho ho' (ha.se .val (by decide)) (hb.se .val (by decide)) (hc.se .val (by decide)) hm) fun σ H Q ⟨Fz, S, env, R, p⟩ => chn_imp chn_quiet ans ans' ⟨Fz, S, env, R, by
    have e : evX F (.chn o o' ia ib ic) .test env = Md.fin .test (chnCo F o o' ia ib ic env) := by simp only [evX]
    rw [e] at p
    exact p.px fun _ _ => chnCo_bool⟩
/-- a part of a test -/
theorem PB.bind {r : Res (Env × W)} {f : Env → Bool → Res (Env × W)} {q1 : Bool} (h : PB B K H0 Fz0 S0 σ q QB Wx (r.bool f)) (g0 : Grow H0 Fz0 S0 H Fz S) (c0 : q = true → Calm H0 H) (hq : q = true → q1 = true)
    (k : ∀ e b, r = .ok (e, .val (.bool b)) → PB B K H0 Fz0 S0 σ q QB Wx (f e b) → ∀ H' Fz' S', Rel K H' Fz' S' σ e → Grow H Fz S H' Fz' S' → Grow H0 Fz0 S0 H' Fz' S' → (q1 = true → Calm H H') → (q = true → Calm H0 H') → QB' b H') :
    PB B K H Fz S σ q1 QB' Wx r := by
  rcases bool_cases (r := r) (f := f) with ⟨e, b, e1, e2⟩ | e1 | ⟨c, d, e, e1, e2⟩
  · rw [e2] at h
    subst e1
    intro b' H' Fz' S' R g c eb
    cases eb
    exact k e _ rfl h H' Fz' S' R g (g0.trans g) c (fun z => (c0 z).trans (c (hq z)))
  · rw [e1] at h; exact False.elim h
  · rw [e2] at h
    subst e1
    exact fun H' Fz' S' cls od R g x => h H' Fz' S' cls od R (g0.trans g) x
theorem st_and {a b : Expr} {rest : List Expr} {ia ib : IE} {pos : Pos} (ha : PT X a (tTs B X.K F Wx ia)) (hb : PW X (.BoolOp .And (b :: rest) pos) (tTs B X.K F Wx ib)) : PW X (.BoolOp .And (a :: b :: rest) pos) (tTs B X.K F Wx (.and ia ib)) := by
  have eq : IE.quiet (.and ia ib) = (IE.quiet ia && IE.quiet ib) := by rw [IE.quiet]
  refine PW.imp (pw_and ha hb) fun σ H Q ⟨Fz, S, env, R, p⟩ => ⟨Fz, S, env, R, ?_⟩
  have e : evX F (.and ia ib) .test env = (evX F ia .test env).bool fun e k => if k then evX F ib .test e else .ok (e, .val (.bool false)) := by simp only [evX]
  rw [e] at p
  refine p.bind (Grow.refl _ _ _) (fun _ => Calm.refl _) (fun z => (quiet2 eq z).1) fun e1 k ev p1 H1 Fz1 S1 R1 g1 g1' c1 c1' => ?_
  cases k with
  | false => exact p1 false H1 Fz1 S1 R1 g1' c1' rfl
  | true =>
    rw [if_pos rfl] at p1 ⊢
    refine ⟨Fz1, S1, e1, R1, ?_⟩
    cases ev2 : evX F ib .test e1 with
    | stuck => rw [ev2] at p1; exact p1
    | exc c d e => rw [ev2] at p1; exact fun H' Fz' S' cls od R g x => p1 H' Fz' S' cls od R (g1'.trans g) x
    | ok r => rw [ev2] at p1; exact fun b' H' Fz' S' R g c eb => p1 b' H' Fz' S' R (g1'.trans g) (fun z => (c1' z).trans (c (quiet2 eq z).2)) eb
theorem st_or {a b : Expr} {rest : List Expr} {ia ib : IE} {pos : Pos} (ha : PT X a (tTs B X.K F Wx ia)) (hb : PW X (.BoolOp .Or (b :: rest) pos) (tTs B X.K F Wx ib)) : PW X (.BoolOp .Or (a :: b :: rest) pos) (tTs B X.K F Wx (.or ia ib)) := by
  have eq : IE.quiet (.or ia ib) = (IE.quiet ia && IE.quiet ib) := by rw [IE.quiet]
  refine PW.imp (pw_or ha hb) fun σ H Q ⟨Fz, S, env, R, p⟩ => ⟨Fz, S, env, R, ?_⟩
  have e : evX F (.or ia ib) .test env = (evX F ia .test env).bool fun e k => if k then .ok (e, .val (.bool true)) else evX F ib .test e := by simp only [evX]
  rw [e] at p
  refine p.bind (Grow.refl _ _ _) (fun _ => Calm.refl _) (fun z => (quiet2 eq z).1) fun e1 k ev p1 H1 Fz1 S1 R1 g1 g1' c1 c1' => ?_
  cases k with
  | true => exact p1 true H1 Fz1 S1 R1 g1' c1' rfl
  | false =>
    rw [if_neg Bool.false_ne_true] at p1 ⊢
    refine ⟨Fz1, S1, e1, R1, ?_⟩
    cases ev2 : evX F ib .test e1 with
    | stuck => rw [ev2] at p1; exact p1
    | exc c d e => rw [ev2] at p1; exact fun H' Fz' S' cls od R g x => p1 H' Fz' S' cls od R (g1'.trans g) x
    | ok r => rw [ev2] at p1; exact fun b' H' Fz' S' R g c eb => p1 b' H' Fz' S' R (g1'.trans g) (fun z => (c1' z).trans (c (quiet2 eq z).2)) eb
theorem st_not {a : Expr} {ia : IE} {pos : Pos} (ha : PT X a (tTs B X.K F Wx ia)) : PT X (.UnaryOp .Not a pos) (tTs B X.K F Wx (.not ia)) := by
  have eq : IE.quiet (.not ia) = IE.quiet ia := by rw [IE.quiet]
  refine PT.imp (pt_not ha) fun σ H Q ⟨Fz, S, env, R, p⟩ => ⟨Fz, S, env, R, ?_⟩
  have e : evX F (.not ia) .test env = (evX F ia .test env).bool fun e k => .ok (e, .val (.bool !k)) := by simp only [evX]
  rw [e] at p
  exact p.bind (Grow.refl _ _ _) (fun _ => Calm.refl _) (fun z => eq ▸ z) fun e1 k ev p1 H1 Fz1 S1 R1 g1 g1' c1 c1' => p1 _ H1 Fz1 S1 R1 g1' c1' rfl
end
end TA

set_option Elab.async false
set_option linter.all false
set_option maxRecDepth 100000
/-! TaStm: statements. -/
namespace TA
open PySem PySem.Spec PyProof.Rows L2
/-- the in-out names hold what they held -/
def Kp (ios : List Nat) (σ σ' : L2.St) : Prop := ∀ j ∈ ios, σ'[j]? = σ[j]?
theorem Kp.refl {ios : List Nat} {σ : L2.St} : Kp ios σ σ := fun _ _ => rfl
theorem Kp.trans {ios : List Nat} {σ σ' σ2 : L2.St} (a : Kp ios σ σ') (b : Kp ios σ' σ2) : Kp ios σ σ2 := fun j h => (b j h).trans (a j h)
theorem Kp.set {ios : List Nat} {σ σ' : L2.St} {i : Nat} {x : Option V} (a : Kp ios σ σ') (h : ios.contains i = false) : Kp ios σ (σ'.set i x) := fun j hj => by
  have ne : i ≠ j := fun e => by
    subst e
    rw [List.contains_iff_mem.mpr hj] at h
    cases h
  rw [List.getElem?_set_ne ne]
  exact a j hj
/-- what is wanted behind a statement, by the evaluator's answer; H, Fz, S: ahead of it -/
def PSt (B : Tb) (K : PySem.W.Frag) (H : Hp) (Fz : Addr → Prop) (S : Own) (σ : L2.St) (ios : List Nat) (D : Ends) (Wx : WX) : Out → Prop
  | .stuck => False
  | .next e => ∀ σ' H' Fz' S', Kp ios σ σ' → Rel K H' Fz' S' σ' e → Grow H Fz S H' Fz' S' → D.nx σ' H'
  | .brk e => ∀ σ' H' Fz' S', Kp ios σ σ' → Rel K H' Fz' S' σ' e → Grow H Fz S H' Fz' S' → D.bk σ' H'
  | .cont e => ∀ σ' H' Fz' S', Kp ios σ σ' → Rel K H' Fz' S' σ' e → Grow H Fz S H' Fz' S' → D.ct σ' H'
  | .ret w e => ∀ v σ' H' Fz' S' T, Kp ios σ σ' → Rel K H' Fz' S' σ' e → Grow H Fz S H' Fz' S' → RepW K H' Fz' v w T → T.Nodup → (∀ a ∈ T, ¬ Fz' a ∧ (H a = none ∨ ∃ j, j ∉ ios ∧ a ∈ S j) ∧ ∀ j ∈ ios, a ∉ S' j) → D.rt v H'
  | .exc c d e => ∀ σ' H' Fz' S' cls od, Kp ios σ σ' → Rel K H' Fz' S' σ' e → Grow H Fz S H' Fz' S' → ExcAt B K H' Fz' c d cls od → Wx cls od σ' H'
def tSt (B : Tb) (K : PySem.W.Frag) (F : Nat → List W → FRes) (sub : Subs) (fu : Nat) (ios : List Nat) (Wx : WX) (s : IS) : TS := fun D σ H =>
  ∃ Fz S env, Rel K H Fz S σ env ∧ PSt B K H Fz S σ ios D Wx (evS F sub fu ios s env)
def tSs (B : Tb) (K : PySem.W.Frag) (F : Nat → List W → FRes) (sub : Subs) (fu : Nat) (ios : List Nat) (Wx : WX) (ss : List IS) : TS := fun D σ H =>
  ∃ Fz S env, Rel K H Fz S σ env ∧ PSt B K H Fz S σ ios D Wx (evSs F sub fu ios ss env)
section
variable {X : Cx} {B : Tb} {K : PySem.W.Frag} {F : Nat → List W → FRes} {sub : Subs} {fu : Nat} {ios : List Nat} {Wx : WX} {H H' H0 H1 : Hp} {Fz Fz' Fz1 Fz0 : Addr → Prop} {S S' S1 S0 : Own} {σ : L2.St} {m : Md} {q q' : Bool} {Q Q' : VK} {env : Env} {D : Ends}
theorem PS.imp {st : Stmt} {t t' : TS} (h : PS X st t) (i : ∀ D σ H, t' D σ H → t D σ H) : PS X st t' := ⟨fun pins s σ H D I x => h.run pins s σ H D I (i D σ H x)⟩
theorem PSs.imp {st : List Stmt} {t t' : TS} (h : PSs X st t) (i : ∀ D σ H, t' D σ H → t D σ H) : PSs X st t' := ⟨fun pins s σ H D I x => h.run pins s σ H D I (i D σ H x)⟩
theorem PSt.shift {o : Out} {σ1 : L2.St} (kp : Kp ios σ σ1) (g : Grow H Fz S H1 Fz1 S1) (p : PSt B K H Fz S σ ios D Wx o) : PSt B K H1 Fz1 S1 σ1 ios D Wx o := by
  cases o with
  | stuck => exact p
  | next e => exact fun σ' H' Fz' S' k R g' => p σ' H' Fz' S' (kp.trans k) R (g.trans g')
  | brk e => exact fun σ' H' Fz' S' k R g' => p σ' H' Fz' S' (kp.trans k) R (g.trans g')
  | cont e => exact fun σ' H' Fz' S' k R g' => p σ' H' Fz' S' (kp.trans k) R (g.trans g')
  | exc c d e => exact fun σ' H' Fz' S' cls od k R g' => p σ' H' Fz' S' cls od (kp.trans k) R (g.trans g')
  | ret w e =>
    refine fun v σ' H' Fz' S' T k R g' r nd h => p v σ' H' Fz' S' T (kp.trans k) R (g.trans g') r nd fun a ha => ⟨(h a ha).1, ?_, (h a ha).2.2⟩
    have back : ∀ a, H1 a = none → H a = none := fun a h => by
      cases e : H a with
      | none => rfl
      | some o => exact absurd h (g.there a (by rw [e]; simp))
    rcases (h a ha).2.1 with z | ⟨j, hj, z⟩
    · exact .inl (back a z)
    · rcases g.own j a z with y | y
      · exact .inr ⟨j, hj, y⟩
      · exact .inl y
/-- an expression within a statement -/
theorem PSt.x {r : Res (Env × W)} {f : Env × W → Out} {q1 : Bool} (p : PSt B K H Fz S σ ios D Wx (Out.of r f))
    (k : ∀ e w, r = .ok (e, w) → PSt B K H Fz S σ ios D Wx (f (e, w)) → ∀ v H' Fz' S' T, Rel K H' Fz' S' σ e → Grow H Fz S H' Fz' S' → RepW K H' Fz' v w T → Fresh H H' Fz' S' T → Q v H') : PX B K H Fz S σ .val q1 Q Wx r := by
  cases r with
  | stuck => exact p
  | exc c d e => exact fun H' Fz' S' cls od R g x => p σ H' Fz' S' cls od Kp.refl R g x
  | ok r =>
    obtain ⟨e, w⟩ := r
    exact fun v H' Fz' S' R g c ⟨T, rw', fr⟩ => k e w rfl p v H' Fz' S' T R g rw' fr
theorem PSt.t {r : Res (Env × W)} {f : Env × Bool → Out} {q1 : Bool} {QB : Bool → Hp → Prop} (p : PSt B K H Fz S σ ios D Wx (Out.of (r.bind fun q => match q.2 with
  | .val (.bool b) => .ok (q.1, b)
  | _ => .stuck) f))
    (k : ∀ e b, r = .ok (e, .val (.bool b)) → PSt B K H Fz S σ ios D Wx (f (e, b)) → ∀ H' Fz' S', Rel K H' Fz' S' σ e → Grow H Fz S H' Fz' S' → QB b H') : PB B K H Fz S σ q1 QB Wx r := by
  cases r with
  | stuck => exact p
  | exc c d e => exact fun H' Fz' S' cls od R g x => p σ H' Fz' S' cls od Kp.refl R g x
  | ok r =>
    obtain ⟨e, w⟩ := r
    intro b H' Fz' S' R g c ew
    dsimp only at ew
    subst ew
    exact k e b rfl p H' Fz' S' R g
/-- a name is set -/
theorem Rel.asg (R : Rel K H Fz S σ env) {i : Nat} {v : V} {w : W} {T : List Addr} (r : RepW K H Fz v w T) (nd : T.Nodup) (nf : ∀ a ∈ T, ¬ Fz a ∧ ∀ j, j ≠ i → a ∉ S j) : Rel K H Fz (setO S i T) (σ.set i (some v)) (env.set i (some w)) where
  well := by
    refine ⟨R.well.fz, fun j a h => ?_, fun j k a h1 h2 => ?_, fun j => ?_⟩
    · by_cases e : j = i
      · subst e
        rw [setO_same] at h
        exact ⟨r.there a h, (nf a h).1⟩
      · rw [setO_ne e] at h
        exact R.well.own j a h
    · by_cases e1 : j = i <;> by_cases e2 : k = i
      · omega
      · subst e1
        rw [setO_same] at h1
        rw [setO_ne e2] at h2
        exact absurd h2 ((nf a h1).2 k e2)
      · subst e2
        rw [setO_same] at h2
        rw [setO_ne e1] at h1
        exact absurd h1 ((nf a h2).2 j e1)
      · rw [setO_ne e1] at h1
        rw [setO_ne e2] at h2
        exact R.well.dis j k a h1 h2
    · by_cases e : j = i
      · subst e
        rw [setO_same]
        exact nd
      · rw [setO_ne e]
        exact R.well.nod j
  len := by rw [List.length_set, List.length_set]; exact R.len
  rep := fun j w' h => by
    by_cases e : j = i
    · subst e
      rw [setO_same]
      have lt : j < env.length := by
        have := (List.getElem?_eq_some_iff.mp h).1
        rwa [List.length_set] at this
      rw [List.getElem?_set_self lt] at h
      cases h
      exact ⟨v, List.getElem?_set_self (by rw [← R.len]; exact lt), r⟩
    · rw [setO_ne e]
      rw [List.getElem?_set_ne (Ne.symm e)] at h
      obtain ⟨v', e', r'⟩ := R.rep j w' h
      exact ⟨v', by rw [List.getElem?_set_ne (Ne.symm e)]; exact e', r'⟩
theorem Rel.asgN (R : Rel K H Fz S σ env) (g : Grow H0 Fz0 S0 H Fz S) {i : Nat} {v : V} {w : W} {T : List Addr} (r : RepW K H Fz v w T) (fr : Fresh H0 H Fz S T) : Rel K H Fz (setO S i T) (σ.set i (some v)) (env.set i (some w)) ∧ Grow H0 Fz0 S0 H Fz (setO S i T) :=
  ⟨R.asg r fr.1 fun a h => ⟨(fr.2 a h).2.1, fun j _ => (fr.2 a h).2.2 j⟩, ⟨g.keep, g.rd, g.fz, g.new, fun j a h => by
    by_cases e : j = i
    · subst e
      rw [setO_same] at h
      exact .inr (fr.2 a h).1
    · rw [setO_ne e] at h
      exact g.own j a h, g.there⟩⟩
/-! ### the rules -/
theorem ss_nil : PSs X [] (tSs B X.K F sub fu ios Wx []) := PSs.imp pss_nil fun D σ H ⟨Fz, S, env, R, p⟩ => by
  rw [evSs] at p
  exact p σ H Fz S Kp.refl R (Grow.refl _ _ _)
theorem ss_cons {st : Stmt} {rest : List Stmt} {s : IS} {ss : List IS} (h : PS X st (tSt B X.K F sub fu ios Wx s)) (hs : PSs X rest (tSs B X.K F sub fu ios Wx ss)) : PSs X (st :: rest) (tSs B X.K F sub fu ios Wx (s :: ss)) := by
  refine PSs.imp (pss_cons h hs) fun D σ H ⟨Fz, S, env, R, p⟩ => ⟨Fz, S, env, R, ?_⟩
  rw [evSs] at p
  cases ev : evS F sub fu ios s env with
  | next e =>
    rw [ev] at p
    exact fun σ' H' Fz' S' kp R' g => ⟨Fz', S', e, R', PSt.shift kp g p⟩
  | stuck => rw [ev] at p; exact p
  | brk e => rw [ev] at p; exact p
  | cont e => rw [ev] at p; exact p
  | ret w e => rw [ev] at p; exact p
  | exc c d e => rw [ev] at p; exact p
theorem ss_pass {pos : Pos} : PS X (.Pass pos) (tSt B X.K F sub fu ios Wx .pass) := PS.imp ps_pass fun D σ H ⟨Fz, S, env, R, p⟩ => by
  rw [evS] at p
  exact p σ H Fz S Kp.refl R (Grow.refl _ _ _)
theorem ss_brk {pos : Pos} : PS X (.Break pos) (tSt B X.K F sub fu ios Wx .brk) := PS.imp ps_break fun D σ H ⟨Fz, S, env, R, p⟩ => by
  rw [evS] at p
  exact p σ H Fz S Kp.refl R (Grow.refl _ _ _)
theorem ss_cont {pos : Pos} : PS X (.Continue pos) (tSt B X.K F sub fu ios Wx .cont) := PS.imp ps_continue fun D σ H ⟨Fz, S, env, R, p⟩ => by
  rw [evS] at p
  exact p σ H Fz S Kp.refl R (Grow.refl _ _ _)
theorem ss_doc {x : Str} {j : Nat} {pos pos' : Pos} : PS X (.Expr (.Constant (.str x) j pos) pos') (tSt B X.K F sub fu ios Wx .pass) := PS.imp ps_doc fun D σ H ⟨Fz, S, env, R, p⟩ => by
  rw [evS] at p
  exact p σ H Fz S Kp.refl R (Grow.refl _ _ _)
theorem ss_expr {e : Expr} {ir : IE} {pos : Pos} (h : SEx X B F Wx e ir) (hs : swapsWith e none pos.line X.env = pure false) : PS X (.Expr e pos) (tSt B X.K F sub fu ios Wx (.ex ir)) :=
  PS.imp (ps_expr (h.se .val (by decide)) hs) fun D σ H ⟨Fz, S, env, R, p⟩ => ⟨Fz, S, env, R, by
    rw [evS] at p
    exact p.x fun e w ev p1 v H' Fz' S' T R' g r fr => p1 σ H' Fz' S' Kp.refl R' g⟩
theorem ss_if {c : Expr} {a b : List Stmt} {ic : IE} {sa sb : List IS} {pos : Pos} (hc : PT X c (tTs B X.K F Wx ic)) (ha : PSs X a (tSs B X.K F sub fu ios Wx sa)) (hb : PSs X b (tSs B X.K F sub fu ios Wx sb)) : PS X (.If c a b pos) (tSt B X.K F sub fu ios Wx (.ifS ic sa sb)) :=
  PS.imp (ps_if hc ha hb) fun D σ H ⟨Fz, S, env, R, p⟩ => ⟨Fz, S, env, R, by
    rw [evS, evT] at p
    refine p.t fun e b ev p1 H' Fz' S' R' g => ?_
    cases b with
    | true => exact ⟨Fz', S', e, R', PSt.shift Kp.refl g p1⟩
    | false => exact ⟨Fz', S', e, R', PSt.shift Kp.refl g p1⟩⟩
theorem ss_retN {pos : Pos} : PS X (.Return none pos) (tSt B X.K F sub fu ios Wx .retN) := PS.imp ps_retN fun D σ H ⟨Fz, S, env, R, p⟩ => by
  rw [evS] at p
  exact p .non σ H Fz S [] Kp.refl R (Grow.refl _ _ _) (.val .non) List.nodup_nil fun a h => nomatch h
theorem ss_ret {e : Expr} {ir : IE} {pos : Pos} (h : SEx X B F Wx e ir) (hr : ∀ env, retR F ios ir env = evX F ir .val env) : PS X (.Return (some e) pos) (tSt B X.K F sub fu ios Wx (.ret ir)) :=
  PS.imp (ps_ret (h.se .val (by decide))) fun D σ H ⟨Fz, S, env, R, p⟩ => ⟨Fz, S, env, R, by
    rw [evS, hr] at p
    exact p.x fun e w ev p1 v H' Fz' S' T R' g r fr => p1 v σ H' Fz' S' T Kp.refl R' g r fr.1 fun a ha => ⟨(fr.2 a ha).2.1, .inl (fr.2 a ha).1, fun j _ => (fr.2 a ha).2.2 j⟩⟩
/-- a local name's value goes to the caller -/
theorem ss_retL {x : Str} {i : Nat} {p1 pos : Pos} (hN : X.N[i]? = some x) (hv : Vis X.env.scope x) (hd : (x == ("__debug__" : Str)) = false) (hcd : (x == ("__classdict__" : Str)) = false) (hi : ios.contains i = false) : PS X (.Return (some (.Name x p1)) pos) (tSt B X.K F sub fu ios Wx (.ret (.loc i))) :=
  PS.imp (ps_ret (pe_var hN hv hd hcd)) fun D σ H ⟨Fz, S, env, R, p⟩ => by
    rw [evS, retR, hi, if_neg Bool.false_ne_true] at p
    rcases get_cases env i with ⟨w, eg, ei⟩ | eg
    · rw [eg] at p
      obtain ⟨v, ev, r⟩ := R.rep i w ei
      have ni : i ∉ ios := fun z => by
        rw [List.contains_iff_mem.mpr z] at hi
        cases hi
      exact ⟨v, ev, p v σ H Fz S (S i) Kp.refl R (Grow.refl _ _ _) r (R.well.nod i) fun a ha => ⟨(R.well.own i a ha).2, .inr ⟨i, ni, ha⟩, fun j hj z => ni (R.well.dis j i a z ha ▸ hj)⟩⟩
    · rw [eg] at p; exact False.elim p
theorem ss_asg {i : Nat} {x : Str} {e : Expr} {ir : IE} {pos' pos : Pos} (hio : ios.contains i = false) (hN : X.N.Nodup) (hi : X.N[i]? = some x) (hx : Loc X.env.scope x) (h : SEx X B F Wx e ir) (hs : swapsWith e (some (.Name x pos')) pos.line X.env = pure false) (hf : X.fn x = true ∨ X.env.scope.names.lookup x = some .local) :
    PS X (.Assign [.Name x pos'] e pos) (tSt B X.K F sub fu ios Wx (.asg i ir)) :=
  PS.imp (ps_set hN hi hx (h.se .val (by decide)) hs hf) fun D σ H ⟨Fz, S, env, R, p⟩ => ⟨Fz, S, env, R, by
    rw [evS] at p
    refine p.x fun e w ev p1 v H' Fz' S' T R' g r fr => ?_
    obtain ⟨R2, g2⟩ := R'.asgN g (i := i) r fr
    exact p1 _ H' Fz' _ (Kp.refl.set hio) R2 g2⟩
end
end TA

set_option Elab.async false
set_option linter.all false
set_option maxRecDepth 100000
/-! TaFor: targets, unpacking, for loops. -/
namespace TA
open PySem PySem.Spec PyProof.Rows L2
/-- a local name of the def -/
structure Nam (X : Cx) (i : Nat) (x : Str) : Prop where
  at_ : X.N[i]? = some x
  loc : Loc X.env.scope x
  fn : X.fn x = true ∨ X.env.scope.names.lookup x = some .local
inductive NmEs (X : Cx) : List Expr → List Nat → Prop
  | nil : NmEs X [] []
  | cons {x : Str} {p : Pos} {i : Nat} {es : List Expr} {is : List Nat} : Nam X i x → NmEs X es is → NmEs X (.Name x p :: es) (i :: is)
/-- but for some names the same -/
def Sames (is : List Nat) (σ σ' : L2.St) : Prop := ∀ vs, (∀ i ∈ is, i ∈ vs) → L2.wipe σ' vs = L2.wipe σ vs
theorem wipe_set {σ : L2.St} {i : Nat} {x : Option V} : ∀ vs : List Nat, L2.wipe (σ.set i x) vs = if i ∈ vs then L2.wipe σ vs else (L2.wipe σ vs).set i x
  | [] => by rw [if_neg (by simp)]; rfl
  | v :: vs => by
    show (L2.wipe (σ.set i x) vs).set v none = if i ∈ v :: vs then (L2.wipe σ vs).set v none else ((L2.wipe σ vs).set v none).set i x
    rw [wipe_set vs]
    by_cases h : i ∈ vs
    · rw [if_pos h, if_pos (List.mem_cons_of_mem _ h)]
    · rw [if_neg h]
      by_cases e : i = v
      · subst e
        rw [if_pos (List.mem_cons_self ..), List.set_set]
      · rw [if_neg (fun z => (List.mem_cons.mp z).elim e h), List.set_comm _ _ e]
theorem Sames.cons {i : Nat} {is : List Nat} {σ σ' : L2.St} {x : Option V} (h : Sames is (σ.set i x) σ') : Sames (i :: is) σ σ' := fun vs k => by
  rw [h vs fun j hj => k j (List.mem_cons_of_mem _ hj), wipe_set, if_pos (k i (List.mem_cons_self ..))]
theorem Sames.kp {is ios : List Nat} {σ σ' : L2.St} (h : Sames is σ σ') (hd : ∀ i ∈ is, ios.contains i = false) : Kp ios σ σ' := fun j hj => by
  have nj : j ∉ is := fun z => by
    have := hd j z
    rw [List.contains_iff_mem.mpr hj] at this
    cases this
  have e : (L2.wipe σ' is)[j]? = (L2.wipe σ is)[j]? := by rw [h is fun _ z => z]
  have at_ : ∀ (vs : List Nat) (τ : L2.St), j ∉ vs → (L2.wipe τ vs)[j]? = τ[j]? := fun vs => by
    induction vs with
    | nil => intro τ _; rfl
    | cons v vs ih =>
      intro τ hv
      show ((L2.wipe τ vs).set v none)[j]? = _
      rw [List.getElem?_set_ne (fun z => hv (by rw [z]; exact List.mem_cons_self ..)), ih τ fun z => hv (List.mem_cons_of_mem _ z)]
  rwa [at_ is σ' nj, at_ is σ nj] at e
theorem Sames.refl {is : List Nat} {σ : L2.St} : Sames is σ σ := fun _ _ => rfl
def gNs : List Nat → TGs
  | [] => gNil
  | i :: is => gCons (gName i) (gNs is)
section
variable {X : Cx} {B : Tb} {K : PySem.W.Frag} {F : Nat → List W → FRes} {sub : Subs} {fu : Nat} {ios : List Nat} {Wx : WX} {H H' H0 H1 : Hp} {Fz Fz' Fz1 Fz0 : Addr → Prop} {S S' S1 S0 : Own} {σ : L2.St} {m : Md} {q q' : Bool} {Q Q' : VK} {env : Env} {D : Ends}
theorem NmEs.pgs (hN : X.N.Nodup) : ∀ {es : List Expr} {is : List Nat}, NmEs X es is → PGs X es (gNs is)
  | _, _, .nil => pgs_nil
  | _, _, .cons n h => pgs_cons (pg_name hN n.at_ n.loc n.fn) (h.pgs hN)
theorem NmEs.len : ∀ {es : List Expr} {is : List Nat}, NmEs X es is → (assignEach es X.env).length = is.length
  | _, _, .nil => rfl
  | _, _, .cons n h => congrArg (· + 1) h.len
theorem NmEs.nostar : ∀ {es : List Expr} {is : List Nat}, NmEs X es is → ∀ z ∈ assignEach es X.env, z.1 = false
  | _, _, .nil, z, h => nomatch h
  | _, _, .cons n h, z, hz => by
    rcases List.mem_cons.mp hz with rfl | hz
    · rfl
    · exact h.nostar z hz
theorem NmEs.find {es : List Expr} {is : List Nat} (h : NmEs X es is) : (assignEach es X.env).findIdx? (·.1) = none := by
  rw [List.findIdx?_eq_none_iff]
  exact fun z hz => by rw [h.nostar z hz]
/-- names are set, one by one -/
theorem put_run : ∀ {is : List Nat} {vs : List V} {ds : List TA.D} {env env' : Env} {S : Own} {σ : L2.St} {Q : L2.St → Hp → Prop}, RepDs K H Fz vs ds → Rel K H Fz S σ env → Grow H0 Fz0 S0 H Fz S → Env.putT is ds env = some env' →
    (∀ σ' S', Sames is σ σ' → Rel K H Fz S' σ' env' → Grow H0 Fz0 S0 H Fz S' → Q σ' H) → gNs is vs σ H Q
  | [], _, _, env, env', S, σ, Q, .nil, R, g, h, k => by
    rw [Env.putT] at h
    cases h
    exact ⟨rfl, k σ S Sames.refl R g⟩
  | [], _, _, env, env', S, σ, Q, .cons _ _, R, g, h, k => by simp [Env.putT] at h
  | _ :: _, _, _, env, env', S, σ, Q, .nil, R, g, h, k => by simp [Env.putT] at h
  | i :: is, _, _, env, env', S, σ, Q, .cons (v := v) r rs, R, g, h, k => by
    rw [Env.putT] at h
    obtain ⟨R2, g2⟩ := R.asgN g (i := i) (v := v) (.val r) Fresh.nil
    exact ⟨_, _, rfl, put_run rs R2 g2 h fun σ' S' sm => k σ' S' sm.cons⟩
/-- a target that takes data -/
structure Tgt (X : Cx) (K : PySem.W.Frag) (tg : Expr) (is : List Nat) (tup : Bool) (g : TG) : Prop where
  pg : PG X tg g
  run : ∀ {H0 H : Hp} {Fz0 Fz : Addr → Prop} {S0 S : Own} {v : V} {d : TA.D} {env env' : Env} {σ : L2.St} {Q : L2.St → Hp → Prop}, RepD K H Fz v d → Rel K H Fz S σ env → Grow H0 Fz0 S0 H Fz S → env.target is tup d = some env' →
    (∀ σ' S', Sames is σ σ' → Rel K H Fz S' σ' env' → Grow H0 Fz0 S0 H Fz S' → Q σ' H) → g v σ H Q
theorem tgt_name {i : Nat} {x : Str} {p : Pos} (hN : X.N.Nodup) (n : Nam X i x) : Tgt X K (.Name x p) [i] false (gName i) :=
  ⟨pg_name hN n.at_ n.loc n.fn, fun {H0 H Fz0 Fz S0 S v d env env' σ Q} r R g h k => by
    unfold Env.target at h
    rw [if_neg Bool.false_ne_true, Env.putT, Env.putT] at h
    cases h
    obtain ⟨R2, g2⟩ := R.asgN g (i := i) (v := v) (.val r) Fresh.nil
    exact k _ _ (Sames.cons Sames.refl) R2 g2⟩
theorem PG.or {tg : Expr} {t u : TG} (a : PG X tg t) (b : PG X tg u) : PG X tg (fun v σ H Q => t v σ H Q ∨ u v σ H Q) := ⟨fun pins s σ H v w Q I r h => h.elim (a.run pins s σ H v w Q I r) (b.run pins s σ H v w Q I r)⟩
abbrev gRow (K : PySem.W.Frag) (is : List Nat) : TG := fun v σ H Q => gTup K is.length (gNs is) v σ H Q ∨ gLst K is.length (gNs is) v σ H Q
theorem putT_len : ∀ {is : List Nat} {ds : List TA.D} {env env' : Env}, Env.putT is ds env = some env' → ds.length = is.length
  | [], [], _, _, _ => rfl
  | [], _ :: _, _, _, h => by simp [Env.putT] at h
  | _ :: _, [], _, _, h => by simp [Env.putT] at h
  | i :: is, d :: ds, _, _, h => by
    rw [Env.putT] at h
    exact congrArg (· + 1) (putT_len h)
theorem row_run {is : List Nat} {v : V} {d : TA.D} {ds : List TA.D} {env' : Env} {Q : L2.St → Hp → Prop} (r : RepD K H Fz v d) (hd : d = .tuple ds ∨ d = .list ds) (R : Rel K H Fz S σ env) (g : Grow H0 Fz0 S0 H Fz S) (h : Env.putT is ds env = some env')
    (k : ∀ σ' S', Sames is σ σ' → Rel K H Fz S' σ' env' → Grow H0 Fz0 S0 H Fz S' → Q σ' H) : gRow K is v σ H Q := by
  rcases hd with rfl | rfl
  · obtain ⟨a, vs, rfl, f, rs⟩ := r.tup_inv
    exact .inl ⟨a, vs, rfl, f.sq, rs.len.trans (putT_len h), put_run rs R g h k⟩
  · obtain ⟨a, vs, rfl, f, rs⟩ := r.lst_inv
    exact .inr ⟨a, vs, rfl, f.sq, rs.len.trans (putT_len h), put_run rs R g h k⟩
theorem tgt_row {es : List Expr} {is : List Nat} {k : Nat} {p : Pos} (hc : X.calm = true) (hN : X.N.Nodup) (n : NmEs X es is) : Tgt X X.K (.Tuple es k p) is true (gRow X.K is) :=
  ⟨PG.or (pg_tup hc (n.pgs hN) n.len n.find) (pg_lst hc (n.pgs hN) n.len n.find), fun {H0 H Fz0 Fz S0 S v d env env' σ Q} r R g h k => by
    unfold Env.target at h
    rw [if_pos rfl] at h
    cases d with
    | tuple ds => exact row_run r (.inl rfl) R g h k
    | list ds => exact row_run r (.inr rfl) R g h k
    | _ => cases h⟩
/-- a, b, .. = e -/
theorem ss_asgT {es : List Expr} {is : List Nat} {e : Expr} {ir : IE} {k : Nat} {p pos : Pos} (hio : ∀ i ∈ is, ios.contains i = false) (hc : X.calm = true) (hN : X.N.Nodup) (n : NmEs X es is) (h : SEx X B F Wx e ir) (hs : swapsWithSole [.Tuple es k p] e pos.line X.env = pure false) (hw : swappedStores [.Tuple es k p] e X.env = pure none) :
    PS X (.Assign [.Tuple es k p] e pos) (tSt B X.K F sub fu ios Wx (.asgT is ir)) :=
  PS.imp (ps_asg (h.se .val (by decide)) (tgt_row hc hN n).pg hs hw) fun D σ H ⟨Fz, S, env, R, p⟩ => ⟨Fz, S, env, R, by
    rw [evS] at p
    refine p.x fun e w ev p1 v H' Fz' S' T R' g r fr => ?_
    cases eu : unpackW w with
    | none => simp only [eu, Option.bind_none, Res.of] at p1; exact False.elim p1
    | some ds =>
      simp only [eu, Option.bind_some] at p1
      cases ep : Env.putT is ds e with
      | none => rw [ep] at p1; exact False.elim p1
      | some e2 =>
        rw [ep] at p1
        unfold unpackW at eu
        obtain ⟨d, ed, eu⟩ := Option.bind_eq_some_iff.mp eu
        obtain ⟨R2, g2⟩ := R'.sink g fr r.there
        refine row_run (r.sunk ed) (ds := ds) ?_ R2 g2 ep fun σ' S2 sm R3 g3 => p1 σ' H' _ S2 (sm.kp hio) R3 g3
        cases d with
        | tuple es => cases eu; exact .inl rfl
        | list es => cases eu; exact .inr rfl
        | _ => cases eu⟩
/-! ### for -/
/-- what an iterator yields while frozen data stand -/
def ItOf (K : PySem.W.Frag) (J : It) (H : Hp) (Fz : Addr → Prop) (ds : List TA.D) : Prop := ∀ (H' : Hp) (Fz' : Addr → Prop), (∀ a, Fz a → Fz' a) → (∀ a u, Fx Fz a u → Rt H a u → Rt H' a u) →
  (∀ i d, ds[i]? = some d → J.go i H' ∧ ∀ y H'', J.yld i H' y H'' → H'' = H' ∧ RepD K H' Fz' y d) ∧ ∀ i, ds.length ≤ i → J.stop i H'
abbrev forB (F : Nat → List W → FRes) (sub : Subs) (fu : Nat) (ios : List Nat) (is : List Nat) (tup : Bool) (body : List IS) : TA.D → Env → Out := fun d e => Out.of (Res.of (e.target is tup d)) fun e1 => evSs F sub fu ios body e1
theorem for_run {J : It} {ds : List TA.D} {is : List Nat} {tup : Bool} {body : List IS} {tg : Expr} {g : TG} (ok : ItOf K J H Fz ds) (R : Rel K H Fz S σ env) (tgt : Tgt X K tg is tup g) (hio : ∀ i ∈ is, ios.contains i = false)
    (p : PSt B K H Fz S σ ios D Wx (forL (forB F sub fu ios is tup body) ds env)) :
    ∃ W : Nat → Nat → L2.St → Hp → Prop, (∃ m, W 0 m σ H) ∧ ∀ i m σ H, W i m σ H →
      (J.stop i H ∧ D.nx σ H) ∨ (J.go i H ∧ ∃ N : L2.St → Hp → Prop, (∀ σ' H', N σ' H' → ∃ m', m' < m ∧ W (i + 1) m' σ' H') ∧ ∀ x H', J.yld i H x H' → g x σ H' fun σ2 H2 => tSs B K F sub fu ios Wx body { D with nx := N, ct := N, bk := D.nx } σ2 H2) := by
  let P : Nat → L2.St → Hp → Prop := fun i σ' H' => ∃ Fz' S' env', Kp ios σ σ' ∧ Rel K H' Fz' S' σ' env' ∧ Grow H Fz S H' Fz' S' ∧ PSt B K H' Fz' S' σ' ios D Wx (forL (forB F sub fu ios is tup body) (ds.drop i) env')
  refine ⟨fun i m σ' H' => m = ds.length - i ∧ i ≤ ds.length ∧ P i σ' H', ⟨ds.length, by simp, Nat.zero_le _, Fz, S, env, Kp.refl, R, Grow.refl _ _ _, p⟩, ?_⟩
  rintro i m σ' H' ⟨rfl, hi, Fz', S', env', k0, R', g', p'⟩
  obtain ⟨o1, o2⟩ := ok H' Fz' g'.fz g'.rd
  by_cases hlt : i < ds.length
  · refine .inr ?_
    obtain ⟨d, ed⟩ : ∃ d, ds[i]? = some d := ⟨_, List.getElem?_eq_getElem hlt⟩
    obtain ⟨go, yl⟩ := o1 i d ed
    have hd : ds.drop i = d :: ds.drop (i + 1) := by
      obtain ⟨hl, e⟩ := List.getElem?_eq_some_iff.mp ed
      rw [List.drop_eq_getElem_cons hl, e]
    rw [hd, forL] at p'
    refine ⟨go, P (i + 1), fun σ2 H2 h2 => ⟨ds.length - (i + 1), by omega, rfl, hlt, h2⟩, fun x H'' hy => ?_⟩
    obtain ⟨rfl, rd⟩ := yl x H'' hy
    cases et : env'.target is tup d with
    | none =>
      have : forB F sub fu ios is tup body d env' = .stuck := by simp only [forB, et, Res.of, Out.of]
      rw [this] at p'
      exact False.elim p'
    | some e1 =>
      have eb : forB F sub fu ios is tup body d env' = evSs F sub fu ios body e1 := by simp only [forB, et, Res.of, Out.of]
      rw [eb] at p'
      refine tgt.run rd R' (Grow.refl _ _ _) et fun σ2 S2 sm R2 g2 => ⟨Fz', S2, e1, R2, ?_⟩
      have k2 : Kp ios σ' σ2 := sm.kp hio
      cases ev : evSs F sub fu ios body e1 with
      | stuck => rw [ev] at p'; exact p'
      | next e => rw [ev] at p'; exact fun σ3 H3 Fz3 S3 k3 R3 g3 => ⟨Fz3, S3, e, k0.trans (k2.trans k3), R3, g'.trans (g2.trans g3), PSt.shift (k2.trans k3) (g2.trans g3) p'⟩
      | cont e => rw [ev] at p'; exact fun σ3 H3 Fz3 S3 k3 R3 g3 => ⟨Fz3, S3, e, k0.trans (k2.trans k3), R3, g'.trans (g2.trans g3), PSt.shift (k2.trans k3) (g2.trans g3) p'⟩
      | brk e => rw [ev] at p'; exact PSt.shift k2 g2 p'
      | ret w e => rw [ev] at p'; exact PSt.shift k2 g2 p'
      | exc c d e => rw [ev] at p'; exact PSt.shift k2 g2 p'
  · have e : i = ds.length := by omega
    subst e
    have : ds.drop ds.length = [] := List.drop_length
    rw [this, forL] at p'
    exact .inl ⟨o2 _ (Nat.le_refl _), p' σ' H' Fz' S' Kp.refl R' (Grow.refl _ _ _)⟩
end
end TA

set_option Elab.async false
set_option linter.all false
set_option maxRecDepth 100000
/-! TaFor2: what a for walks; for, while. -/
namespace TA
open PySem PySem.Spec PyProof.Rows L2
section
variable {X : Cx} {B : Tb} {K : PySem.W.Frag} {F : Nat → List W → FRes} {sub : Subs} {fu : Nat} {ios : List Nat} {Wx : WX} {H H' H0 H1 : Hp} {Fz Fz' Fz1 Fz0 : Addr → Prop} {S S' S1 S0 : Own} {σ : L2.St} {m : Md} {q q' : Bool} {Q Q' : VK} {env : Env} {D : Ends}
theorem it_list {a : Addr} {vs : List V} {ds : List TA.D} (f : FqL K H Fz a vs) (rs : RepDs K H Fz vs ds) : ItOf K (Itl K a) H Fz ds := fun H' Fz' hf kp => by
  have sq : SqL K H' a vs := (f.mono hf kp).sq
  refine ⟨fun i d e => ?_, fun i l => ⟨vs, sq, by rw [rs.len]; exact l⟩⟩
  obtain ⟨x, ex, rx⟩ := rs.get e
  exact ⟨⟨vs, x, sq, ex⟩, fun y H'' ⟨e1, e2⟩ => ⟨e1, by have := e2 vs sq; rw [ex] at this; cases this; exact rx.mono hf kp⟩⟩
theorem it_tup {a : Addr} {vs : List V} {ds : List TA.D} (f : FqT K H Fz a vs) (rs : RepDs K H Fz vs ds) : ItOf K (Itt K a) H Fz ds := fun H' Fz' hf kp => by
  have sq : SqT K H' a vs := (f.mono hf kp).sq
  refine ⟨fun i d e => ?_, fun i l => ⟨vs, sq, by rw [rs.len]; exact l⟩⟩
  obtain ⟨x, ex, rx⟩ := rs.get e
  exact ⟨⟨vs, x, sq, ex⟩, fun y H'' ⟨e1, e2⟩ => ⟨e1, by have := e2 vs sq; rw [ex] at this; cases this; exact rx.mono hf kp⟩⟩
theorem it_str (x : Str) : ItOf K (Its x) H Fz (signs x) := fun H' Fz' hf kp => by
  refine ⟨fun i v e => ?_, fun i l => ?_⟩
  · unfold signs at e
    rw [List.getElem?_map] at e
    obtain ⟨c, ec, rfl⟩ := Option.map_eq_some_iff.mp e
    rw [Array.getElem?_toList] at ec
    refine ⟨(Array.getElem?_eq_some_iff.mp ec).1, fun y H'' ⟨e1, c', e2, e3⟩ => ⟨e1, ?_⟩⟩
    rw [ec] at e2
    cases e2
    subst e3
    exact .str _
  · show x.cps.size ≤ i
    simpa [signs] using l
def rngD (lo : Int) (n : Nat) : List TA.D := (List.range n).map fun (k : Nat) => .int (lo + k)
theorem it_rng (lo : Int) (n : Nat) : ItOf K (Itr lo n) H Fz (rngD lo n) := fun H' Fz' hf kp => by
  refine ⟨fun i v e => ?_, fun i l => ?_⟩
  · unfold rngD at e
    rw [List.getElem?_map] at e
    obtain ⟨c, ec, rfl⟩ := Option.map_eq_some_iff.mp e
    obtain ⟨h1, h2⟩ := List.getElem?_eq_some_iff.mp ec
    rw [List.length_range] at h1
    rw [List.getElem_range] at h2
    subst h2
    exact ⟨h1, fun y H'' ⟨e1, e2⟩ => ⟨e1, by subst e2; exact .int _⟩⟩
  · show n ≤ i
    simpa [rngD] using l
theorem it_dK {d : Addr} {o : Obj} {ks : List Key} {vs : List V} {ds : List TA.D} (f : Fz d) (e : H d = some (.frz o (.dK (ks.zip vs)))) (l : ks.length = vs.length) (rs : RepDs K H Fz vs ds) : ItOf K (Itk d o (ks.zip vs)) H Fz (((ks.map kD).zip ds).map (·.1)) := fun H' Fz' hf kp => by
  have e' : H' d = some (.frz o (.dK (ks.zip vs))) := (kp d _ (.inl f) (.of e)).2 (.inr ⟨_, _, rfl⟩)
  rw [zip_fst (by simp [l, rs.len])]
  refine ⟨fun i x ex => ?_, fun i hi => ⟨e', by simpa [l] using hi⟩⟩
  rw [List.getElem?_map] at ex
  obtain ⟨k, ek, rfl⟩ := Option.map_eq_some_iff.mp ex
  have hi : i < (ks.zip vs).length := by
    have := (List.getElem?_eq_some_iff.mp ek).1
    simpa [← l] using this
  refine ⟨⟨e', hi⟩, fun y H'' ⟨e1, k', v', e2, e3⟩ => ⟨e1, ?_⟩⟩
  have := congrArg (Option.map (·.1)) e2
  rw [← List.getElem?_map, zip_fst l, ek] at this
  cases this
  subst e3
  cases k' with
  | inl i => exact .int i
  | inr x => exact .str x
theorem it_dT {d : Addr} {o : Obj} {ks : List (List Key)} {vs : List V} {ds : List TA.D} (f : Fz d) (e : H d = some (.frz o (.dT (ks.zip vs)))) (l : ks.length = vs.length) (rs : RepDs K H Fz vs ds) : ItOf K (Itkt d o (ks.zip vs)) H Fz (((ks.map kDs).zip ds).map (·.1)) := fun H' Fz' hf kp => by
  have e' : H' d = some (.frz o (.dT (ks.zip vs))) := (kp d _ (.inl f) (.of e)).2 (.inr ⟨_, _, rfl⟩)
  rw [zip_fst (by simp [l, rs.len])]
  refine ⟨fun i x ex => ?_, fun i hi => ⟨e', by simpa [l] using hi⟩⟩
  rw [List.getElem?_map] at ex
  obtain ⟨k, ek, rfl⟩ := Option.map_eq_some_iff.mp ex
  have hi : i < (ks.zip vs).length := by
    have := (List.getElem?_eq_some_iff.mp ek).1
    simpa [← l] using this
  refine ⟨⟨e', hi⟩, fun y H'' ⟨e1, k', v', q, e2, e3, e4⟩ => ⟨e1, ?_⟩⟩
  have := congrArg (Option.map (·.1)) e2
  rw [← List.getElem?_map, zip_fst l, ek] at this
  cases this
  subst e3
  exact .tup (.inl (.of e4)) (keys_rep _)
/-- a frozen dict is locked for good -/
theorem Rel.lock (R : Rel K H Fz S σ env) {d : Addr} {u : HO} (o : Obj) (f : Fz d) (e : H d = some u) (hu : ¬ Ex u) : Rel K (upd H d (.frz o u)) Fz S σ env ∧ Grow H Fz S (upd H d (.frz o u)) Fz S ∧ Calm H (upd H d (.frz o u)) := by
  have rdk : ∀ a u', Rt H a u' → Rt (upd H d (.frz o u)) a u' := fun a u' r => by
    by_cases z : a = d
    · subst z
      have hx : ¬ Ex u' := fun x => by
        have := r.2 x
        rw [e] at this
        cases this
        exact hu x
      refine ⟨.inr ⟨o, ?_⟩, fun x => absurd x hx⟩
      rw [upd_same]
      rcases r.1 with y | ⟨o', y⟩
      · rw [e] at y; cases y; rfl
      · rw [e] at y; cases y; exact absurd (.inr ⟨_, _, rfl⟩) hu
    · unfold Rt Rd
      rw [upd_ne z]
      exact r
  have th : ∀ a, H a ≠ none → upd H d (.frz o u) a ≠ none := fun a x => by
    by_cases z : a = d
    · subst z; rw [upd_same]; simp
    · rw [upd_ne z]; exact x
  have g : Grow H Fz S (upd H d (.frz o u)) Fz S := ⟨fun a o' x _ nf => by
    have ne : a ≠ d := fun z => nf (by rw [z]; exact f)
    rw [upd_ne ne]
    exact x, fun a u' _ r => rdk a u' r, fun _ x => x, fun _ x => .inl x, fun _ _ x => .inl x, th⟩
  exact ⟨R.more g ⟨fun a x => th a (R.well.fz a x), fun i a x => ⟨th a (R.well.own i a x).1, (R.well.own i a x).2⟩, R.well.dis, R.well.nod⟩ fun i a x o' y => by
    have ne : a ≠ d := fun z => (R.well.own i a x).2 (by rw [z]; exact f)
    rw [upd_ne ne]
    exact y, g, rdk⟩
/-- a list, a tuple, a text -/
def iAny (K : PySem.W.Frag) (te : TE) : TI := fun σ H R => te σ H fun x H1 => (∃ a, x = .ref a ∧ (∃ xs, SqL K H1 a xs) ∧ R (Itl K a) H1) ∨ (∃ a, x = .ref a ∧ (∃ xs, SqT K H1 a xs) ∧ R (Itt K a) H1) ∨ (∃ z, x = .str z ∧ R (Its z) H1) ∨
  ∃ d, x = .ref d ∧ ((∃ kvs, H1 d = some (.dK kvs) ∧ ∀ o, R (Itk d o kvs) (upd H1 d (.frz o (.dK kvs)))) ∨ (∃ kvs, H1 d = some (.dT kvs) ∧ ∀ o, R (Itkt d o kvs) (upd H1 d (.frz o (.dT kvs)))) ∨
    (∃ o kvs, H1 d = some (.frz o (.dK kvs)) ∧ R (Itk d o kvs) H1) ∨ ∃ o kvs, H1 d = some (.frz o (.dT kvs)) ∧ R (Itkt d o kvs) H1)
theorem pi_any {tg l : Expr} {tl : TE} (hl : PE X l tl) : PI X tg l (iAny X.K tl) := by
  refine ⟨fun pins s σ H R I h => ?_⟩
  refine thn (hl.run pins s σ H _ I h) fun v s1 ⟨x, H1, I1, r1, q1⟩ => ?_
  rcases q1 with ⟨a, e, ⟨xs, hq⟩, q⟩ | ⟨a, e, ⟨xs, hq⟩, q⟩ | ⟨z, e, q⟩ | ⟨d, e, q⟩
  · subst e
    cases r1
    obtain ⟨its, rv, p, hz⟩ := I1.list hq
    refine wpAny_pyIter_list p.isList ?_
    refine ⟨s1.heap.objs.size, [s1.heap.objs.size], _, _, H1, rfl, I1.kept (t' := s1.toks) fun b o e => Heap.get?_push_of_some _ e, turn_list a _, ⟨_, Heap.get?_push_size _ rfl, rfl, rfl⟩, fun b hb => ?_, q⟩
    have e : b = s1.heap.objs.size := by simpa using hb
    subst e
    exact I1.fpOk (Nat.le_refl _) (I1.hok.fresh (Nat.le_refl _))
  · subst e
    cases r1
    obtain ⟨its, rv, p, hz⟩ := I1.tuple hq
    refine wpAny_pyIter_tuple (show s1.heap.IsTuple a its.toArray from p) ?_
    refine ⟨s1.heap.objs.size, [s1.heap.objs.size], _, _, H1, rfl, I1.kept (t' := s1.toks) fun b o e => Heap.get?_push_of_some _ e, turn_tuple a _, ⟨_, Heap.get?_push_size _ rfl, rfl, rfl⟩, fun b hb => ?_, q⟩
    have e : b = s1.heap.objs.size := by simpa using hb
    subst e
    exact I1.fpOk (Nat.le_refl _) (I1.hok.fresh (Nat.le_refl _))
  · subst e
    obtain ⟨t, rfl⟩ := r1
    cases ha : z.cps.all (· < 128)
    · exact wpAny_pyIter_wide ha (pi_one (tk := s1.toks) I1 _ (turn_str _ z t "str_iterator" (.inr rfl)) ⟨_, Heap.get?_push_size _ rfl, rfl, rfl⟩ q)
    · exact wpAny_pyIter_ascii ha (pi_one (tk := s1.toks) I1 _ (turn_str _ z t "str_ascii_iterator" (.inl rfl)) ⟨_, Heap.get?_push_size _ rfl, rfl, rfl⟩ q)
  · subst e
    obtain rfl : v = Value.ref d := r1
    have fK : ∀ {H2 : Hp} {o : Obj} {kvs : List (Key × V)}, Inv X pins σ H2 s1 → H2 d = some (.frz o (.dK kvs)) → R (Itk d o kvs) H2 → wpAny (model X.prog X.w) X.A (pyIter (.ref d)) (PIE X pins σ tg R) X.xe s1 := fun {H2 o kvs} I2 hd q => by
      obtain ⟨hs, hgd, hx, es, ep, vs, hdt, hsz, kv, hm⟩ := I2.frzK hd
      refine iter_keys hs hgd hx hdt (pi_one (tk := s1.toks) I2 _ (turn_keys _ hdt) ⟨_, Heap.get?_push_size _ rfl, rfl, ?_⟩ q)
      rw [hsz] <;> rfl
    have fT : ∀ {H2 : Hp} {o : Obj} {kvs : List (List Key × V)}, Inv X pins σ H2 s1 → H2 d = some (.frz o (.dT kvs)) → R (Itkt d o kvs) H2 → wpAny (model X.prog X.w) X.A (pyIter (.ref d)) (PIE X pins σ tg R) X.xe s1 := fun {H2 o kvs} I2 hd q => by
      obtain ⟨hs, hgd, hx, es, ep, hdt, hsz, ent⟩ := I2.frzT hd
      refine iter_keys hs hgd hx hdt (pi_one (tk := s1.toks) I2 _ (turn_keysT _ hdt) ⟨_, Heap.get?_push_size _ rfl, rfl, ?_⟩ q)
      rw [hsz] <;> rfl
    rcases q with ⟨kvs, hd, q⟩ | ⟨kvs, hd, q⟩ | ⟨o, kvs, hd, q⟩ | ⟨o, kvs, hd, q⟩
    · obtain ⟨od, I2⟩ := I1.lock hd trivial
      exact fK I2 upd_same (q od)
    · obtain ⟨od, I2⟩ := I1.lock hd trivial
      exact fT I2 upd_same (q od)
    · exact fK I1 hd q
    · exact fT I1 hd q
/-- what is walked is made: the wish -/
def PIt (B : Tb) (K : PySem.W.Frag) (H : Hp) (Fz : Addr → Prop) (S : Own) (σ : L2.St) (q : Bool) (R : It → Hp → Prop) (Wx : WX) : Res (Env × List TA.D) → Prop
  | .stuck => False
  | .ok r => ∀ J H' Fz' S', Rel K H' Fz' S' σ r.1 → Grow H Fz S H' Fz' S' → (q = true → Calm H H') → ItOf K J H' Fz' r.2 → R J H'
  | .exc c d e => ∀ H' Fz' S' cls od, Rel K H' Fz' S' σ e → Grow H Fz S H' Fz' S' → ExcAt B K H' Fz' c d cls od → Wx cls od σ H'
def itsR (F : Nat → List W → FRes) (k : ItK) (its : List IE) (env : Env) : Res (Env × List TA.D) := (evEs F its .val env).bind fun r => (Res.of (itemsOf k r.2)).bind fun ds => .ok (r.1, ds)
def tIt (B : Tb) (K : PySem.W.Frag) (F : Nat → List W → FRes) (Wx : WX) (k : ItK) (its : List IE) : TI := fun σ H R => ∃ Fz S env, Rel K H Fz S σ env ∧ PIt B K H Fz S σ (IE.quiets its) R Wx (itsR F k its env)
theorem PI.imp {tg e : Expr} {t t' : TI} (h : PI X tg e t) (i : ∀ σ H R, t' σ H R → t σ H R) : PI X tg e t' := ⟨fun pins s σ H R I x => h.run pins s σ H R I (i σ H R x)⟩
theorem PIt.x {r : Res (Env × W)} {f : Env × W → Res (Env × List TA.D)} {q1 : Bool} {RJ : It → Hp → Prop} (p : PIt B K H Fz S σ q RJ Wx (r.bind f))
    (k : ∀ e w, r = .ok (e, w) → PIt B K H Fz S σ q RJ Wx (f (e, w)) → ∀ v H' Fz' S' T, Rel K H' Fz' S' σ e → Grow H Fz S H' Fz' S' → (q1 = true → Calm H H') → RepW K H' Fz' v w T → Fresh H H' Fz' S' T → Q v H') : PX B K H Fz S σ .val q1 Q Wx r := by
  cases r with
  | stuck => exact p
  | exc c d e => exact p
  | ok r =>
    obtain ⟨e, w⟩ := r
    exact fun v H' Fz' S' R g c ⟨T, rw', fr⟩ => k e w rfl p v H' Fz' S' T R g c rw' fr
theorem it_seq {tg e : Expr} {ir : IE} (h : SEx X B F Wx e ir) : PI X tg e (tIt B X.K F Wx .seq [ir]) :=
  PI.imp (pi_any (h.se .val (by decide))) fun σ H R ⟨Fz, S, env, Re, p⟩ => ⟨Fz, S, env, Re, by
    unfold itsR at p
    rw [evEs_one] at p
    have e0 : ((evX F ir .val env).bind fun r => (.ok (r.1, [r.2]) : Res (Env × List W))).bind (fun r => (Res.of (itemsOf .seq r.2)).bind fun ds => (.ok (r.1, ds) : Res (Env × List TA.D))) = (evX F ir .val env).bind fun r => (Res.of (itemsOf .seq [r.2])).bind fun ds => .ok (r.1, ds) := by
      cases evX F ir .val env <;> rfl
    rw [e0] at p
    refine p.x fun e w ev p1 v H' Fz' S' T R' g c0 r fr => ?_
    have c : IE.quiets [ir] = true → Calm H H' := fun z => c0 (by simp only [IE.quiets, Bool.and_true] at z; exact z)
    cases ei : itemsOf .seq [w] with
    | none => rw [ei] at p1; exact False.elim p1
    | some ds =>
      rw [ei] at p1
      simp only [itemsOf] at ei
      obtain ⟨d, ed, ei⟩ := Option.bind_eq_some_iff.mp ei
      obtain ⟨R2, g2⟩ := R'.sink g fr r.there
      have rd := r.sunk ed
      cases d with
      | list es =>
        cases ei
        obtain ⟨a, vs, rfl, f, rs⟩ := rd.lst_inv
        exact .inl ⟨a, rfl, ⟨vs, f.sq⟩, p1 _ H' _ S' R2 g2 c (it_list f rs)⟩
      | tuple es =>
        cases ei
        obtain ⟨a, vs, rfl, f, rs⟩ := rd.tup_inv
        exact .inr (.inl ⟨a, rfl, ⟨vs, f.sq⟩, p1 _ H' _ S' R2 g2 c (it_tup f rs)⟩)
      | str z =>
        cases ei
        rw [rd.str_inv]
        exact .inr (.inr (.inl ⟨z, rfl, p1 _ H' _ S' R2 g2 c (it_str z)⟩))
      | dict kvs =>
        cases ei
        generalize ek : PyData.dict kvs = dd at rd
        cases rd with
        | @dK a ks vs ds q f l rs =>
          cases ek
          refine .inr (.inr (.inr ⟨a, rfl, ?_⟩))
          rcases q.1 with e1 | ⟨o, e1⟩
          · refine .inl ⟨_, e1, fun o => ?_⟩
            obtain ⟨R3, g3, c3⟩ := R2.lock o f e1 (fun z => by rcases z with ⟨_, z⟩ | ⟨_, _, z⟩ <;> cases z)
            exact p1 _ _ _ S' R3 (g2.trans g3) (fun z => (c z).trans c3) (it_dK f upd_same l (rs.grow g3))
          · exact .inr (.inr (.inl ⟨o, _, e1, p1 _ _ _ S' R2 g2 c (it_dK f e1 l rs)⟩))
        | @dT a ks vs ds q f l rs =>
          cases ek
          refine .inr (.inr (.inr ⟨a, rfl, ?_⟩))
          rcases q.1 with e1 | ⟨o, e1⟩
          · refine .inr (.inl ⟨_, e1, fun o => ?_⟩)
            obtain ⟨R3, g3, c3⟩ := R2.lock o f e1 (fun z => by rcases z with ⟨_, z⟩ | ⟨_, _, z⟩ <;> cases z)
            exact p1 _ _ _ S' R3 (g2.trans g3) (fun z => (c z).trans c3) (it_dT f upd_same l (rs.grow g3))
          · exact .inr (.inr (.inr ⟨o, _, e1, p1 _ _ _ S' R2 g2 c (it_dT f e1 l rs)⟩))
        | _ => cases ek
      | _ => cases ei⟩
theorem ss_for {tg iter : Expr} {is : List Nat} {tup : Bool} {g : TG} {k : ItK} {its : List IE} {body : List Stmt} {sb : List IS} {pos : Pos} (hio : ∀ i ∈ is, ios.contains i = false) (hp : PassesOwn (model X.prog X.w) X.A X.env X.xe) (hc : X.calm = true) (hi : PI X tg iter (tIt B X.K F Wx k its)) (tgt : Tgt X X.K tg is tup g) (hb : PSs X body (tSs B X.K F sub fu ios Wx sb))
    (hs : ∀ x, foldedSetIterable iter X.env x = pure x) : PS X (.For tg iter body [] pos) (tSt B X.K F sub fu ios Wx (.forS is tup k its sb)) :=
  PS.imp (ps_for hp hc hi tgt.pg hb hs) fun D σ H ⟨Fz, S, env, R, p⟩ => ⟨Fz, S, env, R, by
    rw [evS] at p
    unfold itsR
    cases ev : evEs F its .val env with
    | stuck => rw [ev] at p; exact p
    | exc c d e => rw [ev] at p; exact fun H' Fz' S' cls od R' g' x => p σ H' Fz' S' cls od Kp.refl R' g' x
    | ok r =>
      obtain ⟨e, ws⟩ := r
      rw [ev] at p
      simp only [Out.of, Res.bind] at p ⊢
      cases ei : itemsOf k ws with
      | none => rw [ei] at p; exact p
      | some ds =>
        rw [ei] at p
        exact fun J H' Fz' S' R' g' _ ok => for_run ok R' tgt hio (PSt.shift Kp.refl g' p)⟩
end
end TA

set_option Elab.async false
set_option linter.all false
set_option maxRecDepth 100000
/-! TaStm2: while, ranges, a, b = x, y. -/
namespace TA
open PySem PySem.Spec PyProof.Rows L2
section
variable {X : Cx} {B : Tb} {K : PySem.W.Frag} {F : Nat → List W → FRes} {sub : Subs} {fu : Nat} {ios : List Nat} {Wx : WX} {H H' H0 H1 : Hp} {Fz Fz' Fz1 Fz0 : Addr → Prop} {S S' S1 S0 : Own} {σ : L2.St} {m : Md} {q q' : Bool} {Q Q' : VK} {env : Env} {D : Ends}
theorem ss_while {c : Expr} {ic : IE} {body : List Stmt} {sb : List IS} {pos : Pos} (hp : PassesOwn (model X.prog X.w) X.A X.env X.xe) (hc : PT X c (tTs B X.K F Wx ic)) (hb : PSs X body (tSs B X.K F sub fu ios Wx sb)) : PS X (.While c body [] pos) (tSt B X.K F sub fu ios Wx (.whileS ic sb)) :=
  PS.imp (ps_while hp hc hb) fun D σ H ⟨Fz, S, env, R, p⟩ => by
    rw [evS] at p
    refine ⟨fun n σ' H' => ∃ Fz' S' env', Rel X.K H' Fz' S' σ' env' ∧ PSt B X.K H' Fz' S' σ' ios D Wx (whileL (fun e => evT F ic e) (fun e => evSs F sub fu ios sb e) n env'), ⟨fu, Fz, S, env, R, p⟩, ?_⟩
    rintro n σ' H' ⟨Fz', S', env', R', p'⟩
    cases n with
    | zero => exact False.elim p'
    | succ n =>
      rw [whileL] at p'
      simp only [evT] at p'
      refine ⟨Fz', S', env', R', p'.t fun e b ev p1 H2 Fz2 S2 R2 g2 => ?_⟩
      cases b with
      | false => exact p1 σ' H2 Fz2 S2 Kp.refl R2 g2
      | true =>
        refine ⟨fun σ3 H3 => ∃ Fz3 S3 env3, Rel X.K H3 Fz3 S3 σ3 env3 ∧ PSt B X.K H3 Fz3 S3 σ3 ios D Wx (whileL (fun e => evT F ic e) (fun e => evSs F sub fu ios sb e) n env3), fun σ3 H3 h3 => ⟨n, Nat.lt_succ_self n, h3⟩, Fz2, S2, e, R2, ?_⟩
        simp only [if_true] at p1
        cases eb : evSs F sub fu ios sb e with
        | stuck => rw [eb] at p1; exact p1
        | next e' => rw [eb] at p1; exact fun σ3 H3 Fz3 S3 k3 R3 g3 => ⟨Fz3, S3, e', R3, PSt.shift k3 (g2.trans g3) p1⟩
        | cont e' => rw [eb] at p1; exact fun σ3 H3 Fz3 S3 k3 R3 g3 => ⟨Fz3, S3, e', R3, PSt.shift k3 (g2.trans g3) p1⟩
        | brk e' => rw [eb] at p1; exact PSt.shift Kp.refl g2 p1
        | ret w e' => rw [eb] at p1; exact PSt.shift Kp.refl g2 p1
        | exc c d e' => rw [eb] at p1; exact PSt.shift Kp.refl g2 p1
theorem PIt.xs {r : Res (Env × List W)} {f : Env × List W → Res (Env × List TA.D)} {q1 : Bool} {RJ : It → Hp → Prop} {Q : List V → Hp → Prop} (p : PIt B K H Fz S σ q RJ Wx (r.bind f))
    (k : ∀ e ws, r = .ok (e, ws) → PIt B K H Fz S σ q RJ Wx (f (e, ws)) → ∀ vs H' Fz' S' T, Rel K H' Fz' S' σ e → Grow H Fz S H' Fz' S' → (q1 = true → Calm H H') → RepWs K H' Fz' vs ws T → Fresh H H' Fz' S' T → Q vs H') : PVs B K H Fz S σ q1 Q Wx r := by
  cases r with
  | stuck => exact p
  | exc c d e => exact p
  | ok r =>
    obtain ⟨e, ws⟩ := r
    exact fun vs H' Fz' S' R g c ⟨T, rw', fr⟩ => k e ws rfl p vs H' Fz' S' T R g c rw' fr
theorem rng0 (n : Nat) : ((List.range n).map fun (k : Nat) => PyData.int k) = rngD 0 n := by
  unfold rngD
  congr 1
  funext k
  rw [Int.zero_add]
theorem it_rng1 {tg a : Expr} {ia : IE} {p pos : Pos} (hg : Gl X "range") (hm : X.mg "range" = none) (ha : PA X [a] (tVs B X.K F Wx [ia])) (ns : NoStar a) : PI X tg (.Call (.Name "range" p) [a] [] pos) (tIt B X.K F Wx .rng1 [ia]) :=
  PI.imp (pi_range1 hg hm ha (ns [] X.env)) fun σ H R ⟨Fz, S, env, Re, p⟩ => ⟨Fz, S, env, Re, by
    unfold itsR at p
    refine p.xs fun e ws ev p1 vs H' Fz' S' T R' g c r fr => ?_
    cases ei : itemsOf .rng1 ws with
    | none => simp only [ei, Res.of, Res.bind] at p1; exact False.elim p1
    | some ds =>
      simp only [ei, Res.of, Res.bind] at p1
      match ws, ei with
      | [.val (.int j)], ei =>
        rw [itemsOf] at ei
        split at ei
        · rename_i hb
          cases ei
          rw [Bool.and_eq_true, decide_eq_true_eq, decide_eq_true_eq] at hb
          cases r with
          | cons ra rr =>
            cases rr
            cases ra with
            | val rd =>
              rw [rd.int_inv]
              refine ⟨j, rfl, hb.1, hb.2, p1 _ H' Fz' S' R' g c ?_⟩
              show ItOf X.K (Itr 0 j.toNat) H' Fz' ((List.range j.toNat).map fun (k : Nat) => PyData.int k)
              rw [rng0]
              exact it_rng 0 _
        · cases ei⟩
theorem it_rng2 {tg a b : Expr} {ia ib : IE} {p pos : Pos} (hg : Gl X "range") (hm : X.mg "range" = none) (ha : PA X [a, b] (tVs B X.K F Wx [ia, ib])) (na : NoStar a) (nb : NoStar b) : PI X tg (.Call (.Name "range" p) [a, b] [] pos) (tIt B X.K F Wx .rng2 [ia, ib]) :=
  PI.imp (pi_range2 hg hm ha (by rw [na [b] X.env, nb [] X.env]; rfl) (nb [] X.env)) fun σ H R ⟨Fz, S, env, Re, p⟩ => ⟨Fz, S, env, Re, by
    unfold itsR at p
    refine p.xs fun e ws ev p1 vs H' Fz' S' T R' g c r fr => ?_
    cases ei : itemsOf .rng2 ws with
    | none => simp only [ei, Res.of, Res.bind] at p1; exact False.elim p1
    | some ds =>
      simp only [ei, Res.of, Res.bind] at p1
      match ws, ei with
      | [.val (.int i), .val (.int j)], ei =>
        rw [itemsOf] at ei
        split at ei
        · rename_i hb
          cases ei
          simp only [Bool.and_eq_true, decide_eq_true_eq] at hb
          cases r with
          | cons ra rr =>
            cases rr with
            | cons rb rr =>
              cases rr
              cases ra with
              | val rd =>
                cases rb with
                | val rd2 =>
                  rw [rd.int_inv, rd2.int_inv]
                  exact ⟨i, j, rfl, ⟨hb.1.1.1, hb.1.1.2, hb.1.2, hb.2⟩, p1 _ H' Fz' S' R' g c (it_rng i _)⟩
        · cases ei⟩
/-- a, b = x, y -/
theorem ss_asg2 {i j : Nat} {x y : Str} {a b : Expr} {ia ib : IE} {px py pt pos : Pos} {kt k2 pt2} (hio1 : ios.contains i = false) (hio2 : ios.contains j = false) (hc : X.calm = true) (hN : X.N.Nodup) (hi : X.N[i]? = some x) (hj : X.N[j]? = some y) (hij : i ≠ j)
    (hx : X.env.scope.names.lookup x = some .local) (hy : X.env.scope.names.lookup y = some .local) (ha : PA X [a, b] (tVs B X.K F Wx [ia, ib]))
    (hw : swappedStores [.Tuple [.Name x px, .Name y py] kt pt] (.Tuple [a, b] k2 pt2) X.env = pure (some [x, y]))
    (hs : swapsWithSole [.Tuple [.Name x px, .Name y py] kt pt] (.Tuple [a, b] k2 pt2) pos.line X.env = pure false) :
    PS X (.Assign [.Tuple [.Name x px, .Name y py] kt pt] (.Tuple [a, b] k2 pt2) pos) (tSt B X.K F sub fu ios Wx (.asg2 i j ia ib)) :=
  PS.imp (ps_par hc hN hi hj hij hx hy ha hw hs) fun D σ H ⟨Fz, S, env, R, p⟩ => ⟨Fz, S, env, R, by
    rw [evS] at p
    rw [evEs]
    cases e1 : evX F ia .val env with
    | stuck => rw [e1] at p; exact p
    | exc c d e => rw [e1] at p; exact fun H' Fz' S' cls od R' g x => p σ H' Fz' S' cls od Kp.refl R' g x
    | ok r1 =>
      obtain ⟨en1, w1⟩ := r1
      rw [e1] at p
      simp only [Out.of, Res.bind] at p ⊢
      rw [evEs]
      cases e2 : evX F ib .val en1 with
      | stuck => rw [e2] at p; exact p
      | exc c d e => rw [e2] at p; exact fun H' Fz' S' cls od R' g x => p σ H' Fz' S' cls od Kp.refl R' g x
      | ok r2 =>
        obtain ⟨en2, w2⟩ := r2
        rw [e2] at p
        simp only [Out.of, Res.bind, evEs] at p ⊢
        intro vs H' Fz' S' R' g c ⟨T, rw', fr⟩
        cases rw' with
        | cons ra rr =>
          cases rr with
          | cons rb rr =>
            cases rr
            rename_i va Ta vb Tb
            rw [List.append_nil] at fr
            have f := List.nodup_append.mp fr.1
            refine ⟨va, vb, rfl, ?_⟩
            obtain ⟨R2, g2⟩ := R'.asgN g (i := i) ra ⟨f.1, fun a h => fr.2 a (List.mem_append_left _ h)⟩
            obtain ⟨R3, g3⟩ := R2.asgN g2 (i := j) rb ⟨f.2.1, fun a h => ⟨(fr.2 a (List.mem_append_right _ h)).1, (fr.2 a (List.mem_append_right _ h)).2.1, fun k z => by
              by_cases ek : k = i
              · subst ek
                rw [setO_same] at z
                exact f.2.2 a z a h rfl
              · rw [setO_ne ek] at z
                exact (fr.2 a (List.mem_append_right _ h)).2.2 k z⟩⟩
            exact p _ H' Fz' _ ((Kp.refl.set hio1).set hio2) R3 g3⟩
end
end TA

set_option Elab.async false
set_option linter.all false
set_option maxRecDepth 100000
/-! TaStore: a place's item is stored. -/
namespace TA
open PySem PySem.Spec PyProof.Rows L2
section
variable {X : Cx} {B : Tb} {K : PySem.W.Frag} {F : Nat → List W → FRes} {sub : Subs} {fu : Nat} {ios : List Nat} {Wx : WX} {H H' H0 H1 : Hp} {Fz Fz' Fz1 Fz0 : Addr → Prop} {S S' S1 S0 : Own} {σ : L2.St} {m : Md} {q q' : Bool} {Q Q' : VK} {env : Env} {D : Ends}
theorem RepWs.put : ∀ {vs : List V} {ws : List W} {T0 T : List Addr} {k : Nat} {v : V} {w : W}, RepWs K H Fz vs ws T0 → RepW K H Fz v w T → (T0 ++ T).Nodup → ∃ T', RepWs K H Fz (vs.set k v) (ws.set k w) T' ∧ T'.Nodup ∧ ∀ a ∈ T', a ∈ T0 ∨ a ∈ T
  | _, _, _, T, _, _, _, .nil, _, nd => ⟨[], .nil, List.nodup_nil, fun a h => nomatch h⟩
  | _, _, _, T, 0, _, _, .cons (T := T1) (U := T2) r rs, rw', nd => by
    rw [List.append_assoc] at nd
    have f := List.nodup_append.mp nd
    have f2 := List.nodup_append.mp f.2.1
    exact ⟨T ++ T2, .cons rw' rs, List.nodup_append.mpr ⟨f2.2.1, f2.1, fun a ha b hb z => f2.2.2 b hb a ha z.symm⟩, fun a ha => (List.mem_append.mp ha).elim .inr fun z => .inl (List.mem_append_right _ z)⟩
  | _, _, _, T, k + 1, _, _, .cons (T := T1) (U := T2) r rs, rw', nd => by
    rw [List.append_assoc] at nd
    have f := List.nodup_append.mp nd
    obtain ⟨T3, r3, n3, h3⟩ := RepWs.put (k := k) rs rw' f.2.1
    refine ⟨T1 ++ T3, .cons r r3, List.nodup_append.mpr ⟨f.1, n3, fun a ha b hb z => ?_⟩, fun a ha => ?_⟩
    · exact f.2.2 a ha b ((h3 b hb).elim (fun y => List.mem_append_left _ y) fun y => List.mem_append_right _ y) z
    · rcases List.mem_append.mp ha with z | z
      · exact .inl (List.mem_append_left _ z)
      · exact (h3 a z).imp (fun y => List.mem_append_right _ y) id
/-- the dict's store, its keys unlike -/
theorem putW_rel {κ : Type} [DecidableEq κ] {f : κ → TA.D} (hf : ∀ a b, eqK (f a) (f b) = decide (a = b)) (k : κ) {v : V} {w : W} {T : List Addr} (rw' : RepW K H Fz v w T) : ∀ {ks : List κ} {vs : List V} {ws : List W} {T0 : List Addr}, RepWs K H Fz vs ws T0 → ks.length = vs.length → ks.Nodup → (T0 ++ T).Nodup →
    ∃ (ks' : List κ) (vs' : List V) (T' : List Addr), putK (ks.zip vs) k v = ks'.zip vs' ∧ ks'.length = vs'.length ∧ (putW (ks.map f) ws (f k) w).1 = ks'.map f ∧ RepWs K H Fz vs' (putW (ks.map f) ws (f k) w).2 T' ∧ T'.Nodup ∧ ∀ a ∈ T', a ∈ T0 ∨ a ∈ T
  | [], _, _, _, .nil, _, _, nd => ⟨[k], [v], T, rfl, rfl, rfl, RepWs.one rw', (List.nodup_append.mp nd).2.1, fun a h => .inr h⟩
  | [], _, _, _, .cons _ _, l, _, _ => nomatch l
  | _ :: _, _, _, _, .nil, l, _, _ => nomatch l
  | j :: ks, v0 :: vs, w0 :: ws, _, .cons (T := T1) (U := T2) r rs, l, nk, nd => by
    rw [List.append_assoc] at nd
    have f1 := List.nodup_append.mp nd
    rw [List.map_cons, putW, hf, List.zip_cons_cons]
    have nk2 := List.nodup_cons.mp nk
    by_cases h : j = k
    · subst h
      rw [decide_eq_true rfl]
      have f2 := List.nodup_append.mp f1.2.1
      have hno : ∀ p ∈ ks.zip vs, p.1 ≠ j := fun p hp z => nk2.1 (z ▸ (List.of_mem_zip (a := p.1) (b := p.2) hp).1)
      refine ⟨j :: ks, v :: vs, T ++ T2, ?_, by simpa using l, rfl, .cons rw' rs, List.nodup_append.mpr ⟨f2.2.1, f2.1, fun a ha b hb z => f2.2.2 b hb a ha z.symm⟩, fun a ha => (List.mem_append.mp ha).elim .inr fun z => .inl (List.mem_append_right _ z)⟩
      unfold putK
      rw [if_pos (by simp), List.map_cons, if_pos rfl, List.zip_cons_cons]
      congr 1
      conv => rhs; rw [← List.map_id (ks.zip vs)]
      exact List.map_congr_left fun p hp => if_neg (hno p hp)
    · rw [decide_eq_false h]
      obtain ⟨ks', vs', T3, e1, e2, e3, e4, e5, e6⟩ := putW_rel hf k rw' rs (by simpa using l) nk2.2 f1.2.1
      refine ⟨j :: ks', v0 :: vs', T1 ++ T3, ?_, by simpa using e2, ?_, .cons r e4, List.nodup_append.mpr ⟨f1.1, e5, fun a ha b hb z => f1.2.2 a ha b ((e6 b hb).elim (fun y => List.mem_append_left _ y) fun y => List.mem_append_right _ y) z⟩, fun a ha => ?_⟩
      · rw [List.zip_cons_cons, ← e1]
        unfold putK
        have e : (((j, v0) :: ks.zip vs).any fun kv => decide (kv.1 = k)) = (ks.zip vs).any fun kv => decide (kv.1 = k) := by
          rw [List.any_cons, decide_eq_false h, Bool.false_or]
        rw [e]
        split
        · rw [List.map_cons, if_neg h]
        · rfl
      · simp only [e3, List.map_cons, Bool.false_eq_true, if_false]
      · rcases List.mem_append.mp ha with z | z
        · exact .inl (List.mem_append_left _ z)
        · exact (e6 a z).imp (fun y => List.mem_append_right _ y) id
theorem kt_keys : ∀ {kvs : List (List Key × V)} {xs : List (List Key × Addr × Value)}, KT H kvs xs → kvs.map (·.1) = xs.map (·.1)
  | _, _, .nil => rfl
  | _, _, .cons r rs => by rw [List.map_cons, List.map_cons, r.1, kt_keys rs]
/-- o[i] = v of a list, of a dict; an empty dict takes any keys -/
def rSetA : TSet := fun o i v H Q => rSetL o i v H Q ∨
  (∃ a kvs k, o = .ref a ∧ H a = some (.dK kvs) ∧ i = kV k ∧ kvs.length < sizeLine ∧ ((kvs.map (·.1)).Nodup → Q (upd H a (.dK (putK kvs k v))))) ∨
  (∃ a kvs k b, o = .ref a ∧ H a = some (.dT kvs) ∧ i = .ref b ∧ H b = some (.tup (k.map kV)) ∧ kvs.length < sizeLine ∧ ((kvs.map (·.1)).Nodup → Q (upd H a (.dT (putK kvs k v))))) ∨
  (∃ a k, o = .ref a ∧ H a = some (.dT []) ∧ i = kV k ∧ Q (upd H a (.dK [(k, v)]))) ∨
  ∃ a k b, o = .ref a ∧ H a = some (.dK []) ∧ i = .ref b ∧ H b = some (.tup (k.map kV)) ∧ Q (upd H a (.dT [(k, v)]))
theorem set_any (hu : X.A.units + 64 < cLine) : PSet X rSetA := by
  intro pins s σ H o i v ov iv u Q I ro ri rv h
  have hu1 : X.A.units + 1 < cLine := by omega
  rcases h with h | ⟨a, kvs, k, rfl, ha, rfl, hl, q⟩ | ⟨a, kvs, k, b, rfl, ha, rfl, hb, hl, q⟩ | ⟨a, k, rfl, ha, rfl, q⟩ | ⟨a, k, b, rfl, ha, rfl, hb, q⟩
  · exact set_list pins s σ H o i v ov iv u Q I ro ri rv h
  · cases (show ov = Value.ref a from ro)
    obtain ⟨_, _, vs, rel, o, es, ep, _, _, _, _, _, nd⟩ := dk_of I.hok ha
    exact d_setItem hu1 I (.k ha hl) ri rv fun s' I' => ⟨_, I', q (by rw [rel.keys]; exact nd)⟩
  · cases (show ov = Value.ref a from ro)
    obtain ⟨_, _, xs, rel, o, es, ep, _, _, _, _, _, nd⟩ := dt_of I.hok ha
    have e : kvs.map (·.1) = xs.map (·.1) := kt_keys rel
    exact d_setItem hu1 I (.t ha hb hl) ri rv fun s' I' => ⟨_, I', q (by rw [e]; exact nd)⟩
  · cases (show ov = Value.ref a from ro)
    obtain ⟨z, d1, d2⟩ := Emp.raw I.hok (.inr (.of ha))
    have I1 : Inv X pins σ (upd H a (.dK [])) s := d_write (t' := s.toks) I (by rw [ha]; trivial) (Heap.SameBut.refl a s.heap) (by obtain ⟨o, _, _, e, _⟩ := d1; exact ⟨o, e⟩) (dk_new (by simp) z .nil d1)
    refine d_setItem hu1 I1 (.k upd_same (by rw [sizeLine_eq]; decide)) ri rv fun s' I' => ⟨_, I', ?_⟩
    rw [L2.upd_upd]
    exact q
  · cases (show ov = Value.ref a from ro)
    obtain ⟨z, d1, d2⟩ := Emp.raw I.hok (.inl (.of ha))
    have ne : b ≠ a := fun y => by rw [y, ha] at hb; cases hb
    obtain ⟨o', es, ep, e1, e2, e3, e4, e5, e6⟩ := d2
    have I1 : Inv X pins σ (upd H a (.dT [])) s := d_write (t' := s.toks) I (by rw [ha]; trivial) (Heap.SameBut.refl a s.heap) ⟨o', e1⟩ ⟨by simp, z, [], .nil, o', es, ep, e1, e2, e3, e4, e6⟩
    refine d_setItem hu1 I1 (.t upd_same (by rw [upd_ne ne]; exact hb) (by rw [sizeLine_eq]; decide)) ri rv fun s' I' => ⟨_, I', ?_⟩
    rw [L2.upd_upd]
    exact q
theorem store_ans {j : Nat} {w0 kw w w' : W} {v y : V} {l : Addr} {T : List Addr} {Q : Hp → Prop} (R : Rel K H Fz S σ env) (g : Grow H0 Fz0 S0 H Fz S) (hg : env[j]? = some (some w0)) (hj : σ[j]? = some (some (.ref l))) (rw' : RepW K H Fz v w T) (fr : Fresh H0 H Fz S T) {kd : TA.D} (rk : RepD K H Fz y kd) (hk : kw.toD = some kd)
    (e : storeW w0 kw w = some w') (k : ∀ H' S', Rel K H' Fz S' σ (env.set j (some w')) → Grow H0 Fz0 S0 H' Fz S' → Q H') : rSetA (.ref l) y v H Q := by
  have hfr : ∀ {T0 : List Addr}, S j = l :: T0 → (T0 ++ T).Nodup := fun {T0} hS => by
    have nd := R.well.nod j
    rw [hS] at nd
    exact List.nodup_append.mpr ⟨(List.nodup_cons.mp nd).2, fr.1, fun a ha b hb z => by
      subst z
      exact (fr.2 a hb).2.2 j (by rw [hS]; exact List.mem_cons_of_mem _ ha)⟩
  obtain ⟨v0, hv0, r0⟩ := R.rep j w0 hg
  rw [hj] at hv0
  cases hv0
  generalize eS : S j = T0' at r0
  cases r0 with
  | val => cases kw <;> simp [storeW] at e
  | set => cases kw <;> simp [storeW] at e
  | @lst _ vs ws T0 hl rs =>
    cases kw with
    | val kd' =>
      cases kd' with
      | int i =>
        cases hk
        rw [storeW] at e
        obtain ⟨n, en, rfl⟩ := Option.map_eq_some_iff.mp e
        obtain ⟨T', r', n', h'⟩ := rs.put (k := n) rw' (hfr eS)
        obtain ⟨R', g'⟩ := R.wlst (T' := T') g hj hl eS r' n' fun a ha => (h' a ha).imp id fun z => fr.2 a z
        rw [rk.int_inv]
        exact .inl ⟨l, vs, i, n, rfl, rfl, hl, by rw [rs.len]; exact en, k _ _ R' g'⟩
      | _ => simp [storeW] at e
    | _ => simp [storeW] at e
  | @dK _ ks vs ws T0 hl len rs =>
    have e' : (if keyOk kd && (ks.map kD).all (fun q => flatK q == flatK kd) && szOk ((ks.map kD).length + 1) then (some (W.dic (putW (ks.map kD) ws kd w).1 (putW (ks.map kD) ws kd w).2)) else none) = some w' := by
      cases kw <;> simpa [storeW, hk] using e
    split at e'
    · rename_i hc
      cases e'
      rw [Bool.and_eq_true, Bool.and_eq_true] at hc
      have hz := szOk_le hc.2
      rw [List.length_map] at hz
      cases rk.key hc.1.1 with
      | k κ =>
        refine .inr (.inl ⟨l, _, κ, rfl, hl, rfl, by rw [List.length_zip, len, Nat.min_self]; omega, fun nd => ?_⟩)
        rw [zip_fst len] at nd
        obtain ⟨ks', vs', T', e1, e2, e3, e4, e5, e6⟩ := putW_rel eqK_kD κ rw' rs len nd (hfr eS)
        rw [e1]
        rw [e3] at k
        obtain ⟨R', g'⟩ := R.wobj (o := .dK (ks'.zip vs')) (T' := T') g hj hl (fun us z => by cases z) eS (fun H2 h2 r2 => .dK h2 e2 r2) e4 e5 fun a ha => (e6 a ha).imp id fun z => fr.2 a z
        exact k _ _ R' g'
      | t b κ hb =>
        have hk0 : ks = [] := by
          cases ks with
          | nil => rfl
          | cons x xs =>
            have := hc.1.2
            simp only [List.map_cons, List.all_cons, kD_flat, kDs_flat] at this
            cases this
        subst hk0
        cases vs with
        | cons => cases len
        | nil =>
          cases rs
          refine .inr (.inr (.inr (.inr ⟨l, κ, b, rfl, hl, rfl, hb, ?_⟩)))
          obtain ⟨R', g'⟩ := R.wobj (o := .dT [(κ, v)]) (T' := T) g hj hl (fun us z => by cases z) eS (fun H2 h2 r2 => .dT (ks := [κ]) (vs := [v]) h2 rfl r2) (RepWs.one rw') fr.1 fun a ha => .inr (fr.2 a ha)
          exact k _ _ R' g'
    · cases e'
  | @dT _ ks vs ws T0 hl len rs =>
    have e' : (if keyOk kd && (ks.map kDs).all (fun q => flatK q == flatK kd) && szOk ((ks.map kDs).length + 1) then (some (W.dic (putW (ks.map kDs) ws kd w).1 (putW (ks.map kDs) ws kd w).2)) else none) = some w' := by
      cases kw <;> simpa [storeW, hk] using e
    split at e'
    · rename_i hc
      cases e'
      rw [Bool.and_eq_true, Bool.and_eq_true] at hc
      have hz := szOk_le hc.2
      rw [List.length_map] at hz
      cases rk.key hc.1.1 with
      | t b κ hb =>
        refine .inr (.inr (.inl ⟨l, _, κ, b, rfl, hl, rfl, hb, by rw [List.length_zip, len, Nat.min_self]; omega, fun nd => ?_⟩))
        rw [zip_fst len] at nd
        obtain ⟨ks', vs', T', e1, e2, e3, e4, e5, e6⟩ := putW_rel eqK_kDs κ rw' rs len nd (hfr eS)
        rw [e1]
        rw [e3] at k
        obtain ⟨R', g'⟩ := R.wobj (o := .dT (ks'.zip vs')) (T' := T') g hj hl (fun us z => by cases z) eS (fun H2 h2 r2 => .dT h2 e2 r2) e4 e5 fun a ha => (e6 a ha).imp id fun z => fr.2 a z
        exact k _ _ R' g'
      | k κ =>
        have hk0 : ks = [] := by
          cases ks with
          | nil => rfl
          | cons x xs =>
            have := hc.1.2
            simp only [List.map_cons, List.all_cons, kD_flat, kDs_flat] at this
            cases this
        subst hk0
        cases vs with
        | cons => cases len
        | nil =>
          cases rs
          refine .inr (.inr (.inr (.inl ⟨l, κ, rfl, hl, rfl, ?_⟩)))
          obtain ⟨R', g'⟩ := R.wobj (o := .dK [(κ, v)]) (T' := T) g hj hl (fun us z => by cases z) eS (fun H2 h2 r2 => .dK (ks := [κ]) (vs := [v]) h2 rfl r2) (RepWs.one rw') fr.1 fun a ha => .inr (fr.2 a ha)
          exact k _ _ R' g'
    · cases e'
/-- x[k] = e -/
theorem ss_sidx {j : Nat} {x : Str} {ke e : Expr} {ik ie : IE} {p1 pos' pos : Pos} (hu : X.A.units + 64 < cLine) (hN : X.N[j]? = some x) (hv : Vis X.env.scope x) (hd : (x == ("__debug__" : Str)) = false) (hcd : (x == ("__classdict__" : Str)) = false) (hk : SEx X B F Wx ke ik) (he : SEx X B F Wx e ie)
    (ha : ∀ v, assign (.Subscript (.Name x p1) ke pos') X.env v = (do
      let ov ← holding [v] (eval (.Name x p1) X.env)
      let iv ← holding [v, ov] (eval ke X.env)
      standAt pos'
      holding [v, ov, iv] (setItem ov iv v)
      release [v, ov, iv] []))
    (hs : swapsWithSole [.Subscript (.Name x p1) ke pos'] e pos.line X.env = pure false) (hw : swappedStores [.Subscript (.Name x p1) ke pos'] e X.env = pure none) :
    PS X (.Assign [.Subscript (.Name x p1) ke pos'] e pos) (tSt B X.K F sub fu ios Wx (.sidx j ik ie)) :=
  PS.imp (ps_asg (he.se .val (by decide)) (pg_sub (pe_var hN hv hd hcd) (hk.se .val (by decide)) (set_any hu) ha) hs hw) fun D σ H ⟨Fz, S, env, R, p⟩ => ⟨Fz, S, env, R, by
    rw [evS] at p
    refine p.x fun e1 w1 ev1 p1 v H1 Fz1 S1 T R1 g1 r1 fr1 => ?_
    rcases get_cases e1 j with ⟨w0, eg, ei⟩ | eg
    · rw [eg] at p1
      obtain ⟨v0, ev0, r0⟩ := R1.rep j w0 ei
      refine ⟨v0, ev0, Fz1, S1, e1, R1, ?_⟩
      have p1 : PSt B X.K H Fz S σ ios D Wx (Out.of (evX F ik .val e1) fun q => Out.of (q.1.get j) fun s => Out.of (Res.of (storeW s q.2 w1)) fun w => .next (q.1.set j (some w))) := p1
      refine (PSt.shift Kp.refl g1 p1).x fun e2 w2 ev2 p2 y H2 Fz2 S2 U R2 g2 r2 fr2 => ?_
      have p2 := p2
      rcases get_cases e2 j with ⟨w3, eg3, ei3⟩ | eg3
      · dsimp only at p2
        rw [eg3] at p2
        simp only [Out.of] at p2
        cases es : storeW w3 w2 w1 with
        | none => rw [es] at p2; exact False.elim p2
        | some w' =>
          rw [es] at p2
          obtain ⟨R3, g3⟩ := R2.sink (g1.trans g2) (fr2.back g1.there) r2.there
          have hkd : ∃ kd, w2.toD = some kd := by
            cases w3 <;> cases w2 <;> first | exact ⟨_, rfl⟩ | (simp [storeW] at es; done) | skip
            all_goals
              simp only [storeW] at es
              obtain ⟨kd, h1, _⟩ := Option.bind_eq_some_iff.mp es
              exact ⟨kd, h1⟩
          obtain ⟨kd, hkd⟩ := hkd
          obtain ⟨l, hl⟩ : ∃ l, v0 = .ref l := by
            obtain ⟨v4, ev4, r4⟩ := R3.rep j w3 ei3
            rw [ev0] at ev4
            cases ev4
            generalize S2 j = T4 at r4
            cases r4 with
            | val => cases w2 <;> simp [storeW] at es
            | lst => exact ⟨_, rfl⟩
            | dK => exact ⟨_, rfl⟩
            | dT => exact ⟨_, rfl⟩
            | set => exact ⟨_, rfl⟩
          subst hl
          have rw1 := (r1.grow g2 fr1).mono (Fz' := fun a => Fz2 a ∨ a ∈ U) (fun _ f => .inl f) (fun _ _ _ r => r) fun _ _ _ e => e
          have fr3 : Fresh H H2 (fun a => Fz2 a ∨ a ∈ U) S2 T := by
            have f := fr1.grow r1.there g2
            refine ⟨f.1, fun a h => ⟨(f.2 a h).1, fun z => ?_, (f.2 a h).2.2⟩⟩
            rcases z with z | z
            · exact (f.2 a h).2.1 z
            · exact r1.there a h (fr2.2 a z).1
          refine store_ans R3 g3 ei3 ev0 rw1 fr3 (r2.sunk hkd) hkd es fun H' S' R' g' => ?_
          have p3 := p1
          rw [ev2] at p3
          simp only [Out.of] at p3
          rw [eg3] at p3
          simp only [Out.of] at p3
          rw [es] at p3
          exact p3 σ H' _ S' Kp.refl R' g'
      · dsimp only at p2
        rw [eg3] at p2
        exact False.elim p2
    · rw [eg] at p1; exact False.elim p1⟩
end
end TA

set_option Elab.async false
set_option linter.all false
set_option maxRecDepth 100000
/-! TaWrap: calls of built-ins by their names. -/
namespace TA
open PySem PySem.Spec PyProof.Rows L2
section
variable {X : Cx} {B : Tb} {F : Nat → List W → FRes} {Wx : WX}
theorem BI.notest (b : BI) : b.md ≠ .test := by cases b <;> exact fun z => nomatch z
/-- f(e), f a built-in function -/
theorem se_fun1 {b : BI} {x : Str} {id : String} {e : Expr} {ia : IE} {p pos : Pos} {r : List V → Hp → VK → Prop} (hc : CallR X (.builtin id) r) (hg : Gl X x) (hm : X.mg x = none) (hv : bootBuiltins x = some (.builtin id)) (hn : x ≠ "__name__") (hd : (x == ("__debug__" : Str)) = false)
    (h : SEx X B F Wx e ia) (ans : AnsB X B Wx b (fun v H Q => r [v] H Q)) : SEx X B F Wx (.Call (.Name x p) [e] [] pos) (.blt b [ia]) :=
  se_blt1 (one_call (f := e) (pe_callB hc hg hm hv (pa_cons (h.se b.md b.notest) pa_nil (h.ns [] X.env)) hn hd (h.ns [] X.env) rfl)) (fun _ _ => rfl) ans
/-- T(e), T a built-in type -/
theorem se_ty1 {b : BI} {x : Str} {T : String} {e : Expr} {ia : IE} {p pos : Pos} {r : List V → Hp → VK → Prop} (hc : CallR X (.type T) r) (hg : Gl X x) (hm : X.mg x = none) (hv : bootBuiltins x = some (.type T)) (hn : x ≠ "__name__") (hd : (x == ("__debug__" : Str)) = false)
    (h : SEx X B F Wx e ia) (ans : AnsB X B Wx b (fun v H Q => r [v] H Q)) : SEx X B F Wx (.Call (.Name x p) [e] [] pos) (.blt b [ia]) :=
  se_blt1 (one_call (f := e) (pe_callTy hc hg hm hv (pa_cons (h.se b.md b.notest) pa_nil (h.ns [] X.env)) hn hd (h.ns [] X.env) rfl)) (fun _ _ => rfl) ans
/-- isinstance(e, T) -/
theorem se_isi1 {c : Cls} {x : Str} {e : Expr} {ia : IE} {p p2 pos : Pos} (h0 : c ≠ .row) (hg : Gl X "isinstance") (hm : X.mg "isinstance" = none) (hgT : Gl X x) (hmT : X.mg x = none) (hvT : bootBuiltins x = some (.type (clsN c))) (hn : x ≠ "__name__") (hd : (x == ("__debug__" : Str)) = false) (h : SEx X B F Wx e ia) :
    SEx X B F Wx (.Call (.Name "isinstance" p) [e, .Name x p2] [] pos) (.blt (.isi c) [ia]) := by
  have hT : PE X (.Name x p2) (L2.tC (.ty (clsN c))) := pe_bltn hgT hmT hvT (show RelV (.ty (clsN c)) (.type (clsN c)) from rfl) hn hd
  have hp := pe_callB (call_isC h0) hg hm PyProof.Rows.boot_isinstance (pa_cons (h.se (BI.isi c).md (BI.isi c).notest) (pa_cons hT pa_nil rfl) (h.ns _ X.env)) (p := p) (pos := pos) (he := h.ns _ X.env) (hpl := rfl)
  exact se_blt1 (r := fun v H Q => rIsC X.K c v H Q) (PE.imp hp fun σ H Q ⟨Fz, S, env, R, q⟩ => ⟨Fz, S, env, R, q.mono fun v H' z => ⟨v, rfl, z⟩⟩) (fun _ _ => rfl) (ansb_isi c)
/-- isinstance(e, (list, tuple)) -/
theorem se_isiR {e : Expr} {ia : IE} {k : Nat} {p p1 p2 tpos pos : Pos} (hg : Gl X "isinstance") (hm : X.mg "isinstance" = none) (gl : Gl X "list") (ml : X.mg "list" = none) (gt : Gl X "tuple") (mt : X.mg "tuple" = none) (vl : bootBuiltins "list" = some (.type "list")) (vt : bootBuiltins "tuple" = some (.type "tuple")) (h : SEx X B F Wx e ia) :
    SEx X B F Wx (.Call (.Name "isinstance" p) [e, .Tuple [.Name "list" p1, .Name "tuple" p2] k tpos] [] pos) (.blt (.isi .row) [ia]) := by
  have hl : PE X (.Name "list" p1) (L2.tC (.ty "list")) := pe_bltn gl ml vl (show RelV (.ty "list") (.type "list") from rfl)
  have ht : PE X (.Name "tuple" p2) (L2.tC (.ty "tuple")) := pe_bltn gt mt vt (show RelV (.ty "tuple") (.type "tuple") from rfl)
  have hp := pe_callB call_isRow hg hm PyProof.Rows.boot_isinstance (pa_cons (h.se (BI.isi .row).md (BI.isi .row).notest) (pa_cons (pe_tup (x1 := k) (pos := tpos) (pa_cons hl (pa_cons ht pa_nil rfl) rfl)) pa_nil rfl) (h.ns _ X.env)) (p := p) (pos := pos) (he := h.ns _ X.env) (hpl := rfl)
  exact se_blt1 (PE.imp hp fun σ H Q ⟨Fz, S, env, R, q⟩ => ⟨Fz, S, env, R, q.mono fun v H' z => ⟨by rw [sizeLine_eq]; decide, fun a ha => z a ha⟩⟩) (fun _ _ => rfl) ansb_row
end
end TA

set_option Elab.async false
set_option linter.all false
set_option maxRecDepth 100000
/-! TaExc: an own exception over ValueError whose __init__ says super().__init__('..') and stores one field. -/
namespace TA
open PySem PySem.Spec PyProof.Rows L2
/-! ### the wrapper is called -/
section
open PySem.W
variable {prog : Program} {w : World} {A : Around} {E : Value → Shared → Prop} {h : Heap} {g : Array GenState} {d : Drawn} {t : Nat} {os : OsState}
variable {nm q : Str} {C N : Addr} {bs bm : List Value} {hdct : Bool} {sn : List Str} {sub : List Value} {ab : Bool} {col : Option Bool} {dd : Option Addr} {k0 k1 k2 k3 k5 : Option Value}
theorem call_mw {u e t0 : Addr} {rest : List Value} {Q : Value → Shared → Prop}
    (hC : h.get? C = some (excClassObj nm q C N bs bm hdct sn sub ab col dd k0 k1 k2 k3 k5 "ValueError.__new__")) (he : h.get? e = some (HandSPX.excO C t0)) (hu : h.get? u = some (kxs_mw "ValueError.__init__" e)) (hrest : rest.length ≤ sizeLine)
    (hq : ∀ h' t1, (∀ b o, b ≠ e → h.get? b = some o → h'.get? b = some o) → h'.get? e = some (HandSPX.excO C t1) → Q .none ⟨h', g, d, t, os⟩) :
    wpAny (model prog w) A (call (.ref u) rest) Q E ⟨h, g, d, t, os⟩ := by
  refine wpAny_call (codeAny_of_tree ?_)
  show wpAny _ A.in1 (callAny (.ref u) ⟨rest, []⟩) _ _ _
  simp only [callAny]
  refine wpAny_bind (wpAny_load hu ?_)
  simp only [kxs_mw, show (Value.type "method-wrapper" == Value.type "method" || Value.type "method-wrapper" == Value.type "builtin_function_or_method" || Value.type "method-wrapper" == Value.type "method-wrapper") = true by decide, if_true]
  refine W.KFB.if_so (by decide) ?_
  refine wpAny_bind (ESX.check_bound F.excBase_ValueError hC he rfl ?_)
  refine wpAny_bind (wpAny_pure (wpAny_pure ?_))
  refine ⟨Code.quiet_builtin _ (by decide +kernel), codeAny_builtin F.excBase_ValueError.initEntry ?_⟩
  rw [Around.under_plainId F.excBase_ValueError.init.plain _]
  wp_walk
  refine hq _ h.objs.size (fun b o hb ho => ?_) ?_
  · rw [Heap.get?_update_other _ _ (Ne.symm hb)]
    exact Heap.get?_push_of_some _ ho
  · rw [Heap.get?_update_self _ (Heap.get?_push_of_some _ he) rfl]
    rfl
end
/-! ### __init__ -/
/-- what the written part says of __init__ and its class -/
structure Sup (P : Program) (K : PySem.W.Frag) (mg : Str → Option Value) (C fI cc cda : Addr) (scope : Scope) (slf par fld : Str) : Prop where
  T : OexC K C
  nofld : PySem.W.findIn K (.ref C) fld = some none
  code : ∃ ccl cdd vs ccs file tf, K.lookup cda = some ⟨ccl, cdd, .fields vs, ccs⟩ ∧ vs[2]? = some (.str file tf) ∧ ((P.main.file : Str) == file) = true
  cell : ∃ cl cld csl, K.lookup cc = some ⟨cl, cld, .cell (some (.ref C)), csl⟩
  cls : ∃ cd, PySem.W.clsIn K C = some cd
  mro : PySem.W.mroIn K C (.ref C) = some true
  sup : PySem.W.ks_superIn K C C "__init__" = some (some (.builtin "ValueError.__init__"))
  sub : PySem.W.subIn K (.ref C) (.type "ValueError") = some true
  opq : PySem.W.nsIn K cStatics "thirdparty.any" = some none
  msup : mg "super" = none
  top : (P.main.scope.names.lookup ("super" : Str)).isSome = false
  s1 : scope.kind = .function
  s2 : scope.isCoroutine = false
  s3 : scope.isGenerator = false
  n1 : scope.names.lookup ("super" : Str) = some .globalImplicit
  n2 : scope.names.lookup ("__class__" : Str) = some .free
  n3 : scope.names.lookup slf = some .local
  n4 : scope.names.lookup par = some .local
  ne : slf ≠ par
  n5 : ∀ y ∈ scope.names, y.2 ≠ .cell ∧ (y.2 = .free → y.1 = "__class__")
  d1 : (slf == ("__debug__" : Str)) = false ∧ (slf == ("__classdict__" : Str)) = false
  d2 : (par == ("__debug__" : Str)) = false ∧ (par == ("__classdict__" : Str)) = false
def spSup (C : Addr) (fld : Str) : Sp := fun vs H Q _ => ∃ a y, vs = [.ref a, y] ∧ H a = some (exo a C none) ∧ ∀ dx, H dx = none → dx ≠ a → Q .non (upd (upd H dx (exd dx [(fld, y)])) a (exo a C (some dx)))
/-- the context of __init__'s body -/
def cxS (CX : CXT) (P : Program) (w : World) (K : PySem.W.Frag) (mg : Str → Option Value) (base : Heap) (N : List Str) (qual : Str) (scope : Scope) (f : Addr) (cda cc : Addr) (A : Around) (outer : List PySem.Env) (s : Shared) (H : Hp) (E : XK) : Cx where
  prog := P
  w := w
  K := K
  mg := mg
  base := base
  A := A.deeper (PySem.W.ksEnv qual scope s.heap.objs.size f (.ref cda) cc)
  N := N
  s_0 := s
  H_0 := H
  env := PySem.W.ksEnv qual scope s.heap.objs.size f (.ref cda) cc
  outer := outer
  stack := PySem.W.ksEnv qual scope s.heap.objs.size f (.ref cda) cc :: outer
  ex := []
  calm := true
  fn := fun x => x != "__class__"
  pn := []
  xe := fun e s' => wpAny (model P w) (A.deeper (PySem.W.ksEnv qual scope s.heap.objs.size f (.ref cda) cc)) (leaving (PySem.W.ksEnv qual scope s.heap.objs.size f (.ref cda) cc) e) (fun _ s'' => CX outer H s E e s'') (fun e' s'' => CX outer H s E e' s'') s'
section
variable {CX : CXT} {P : Program} {w : World} {K : PySem.W.Frag} {mg : Str → Option Value} {base : Heap} {C fI cc cda : Addr} {scope : Scope} {slf par fld qual : Str}
theorem cell_one {x : Str} {c d : Addr} (h : ([(("__class__" : Str), c)] : List (Str × Addr)).lookup x = some d) : x = "__class__" ∧ d = c := by
  rw [List.lookup_cons] at h
  split at h
  · rename_i e
    exact ⟨by simpa using e, (Option.some.inj h).symm⟩
  · cases h
theorem inv_sup (T : Sup P K mg C fI cc cda scope slf par fld) {A : Around} {outer : List PySem.Env} {s : Shared} {H : Hp} {E : XK} {a : Addr} {y : V} {u : Value} {h1 : Heap} {t : Nat} (hd : A.handled = none) (e0 : Env0 P w K mg base A outer s H) (ry : RelV y u)
    (hns : h1.Ns s.heap.objs.size (fun x => ([(slf, Value.ref a), (par, u)] : List (Str × Value)).reverse.lookup x)) (hk : ∀ b o, s.heap.get? b = some o → h1.get? b = some o) :
    Inv (cxS CX P w K mg base [slf, par] qual scope fI cda cc A outer s H E) [] [some (.ref a), some y] H { s with heap := h1, toks := t } := by
  have noA : ∀ b : Addr, b ∉ (cxS CX P w K mg base [slf, par] qual scope fI cda cc A outer s H E).ex := fun b z => absurd (show b ∈ ([] : List Addr) from z) (by simp)
  obtain ⟨cl, cld, csl, hc⟩ := T.cell
  have hcb := e0.mod.kin _ _ hc
  have fr : ∀ x, (scope.names.lookup x = some .cell ∨ scope.names.lookup x = some .free) → x = "__class__" := fun x h => by
    rcases h with h | h
    · exact absurd rfl (T.n5 _ (PySem.mem_of_lookup h)).1
    · exact (T.n5 _ (PySem.mem_of_lookup h)).2 rfl
  refine ⟨⟨e0.mod, T.s1, rfl, rfl, Nat.le_refl _, fun y z c h1 h2 => ?_, fun y hy => ?_, fun y c hy h => ?_, fun _ => hd, Around.frames_deeper e0.frames, .inr ⟨rfl, rfl⟩, fun b z => absurd z (noA b), e0.bs, e0.bsz, fun b _ _ => noA b, fun b z => absurd z (noA b), e0.funs, e0.frf⟩,
    rfl, e0.bare, Un.kept hk, ⟨_, hns, fun i x v h1 h2 h3 => ?_⟩, fun x c h => ?_, e0.hok.fresh (Nat.le_refl _), fun x c h => ?_, fun p hp => absurd (show p ∈ ([] : List (Addr × Obj)) from hp) (by simp), e0.hok.kept hk, rfl⟩
  · rw [(cell_one h1).1, (cell_one h2).1]
  · have hx := fr y hy
    subst hx
    exact ⟨cc, by rfl⟩
  · have := (cell_one h).1
    subst this
    have : (("__class__" : Str) != "__class__") = true := hy
    simp at this
  · match i, h1, h2 with
    | 0, h1, h2 =>
      have e1 : slf = x := Option.some.inj h1
      have e2 : V.ref a = v := Option.some.inj (Option.some.inj h2)
      subst e1; subst e2
      refine ⟨.ref a, rfl, .inl ⟨T.n3, ?_⟩⟩
      show ([(par, u), (slf, Value.ref a)] : List (Str × Value)).lookup slf = _
      rw [List.lookup_cons, beq_eq_false_iff_ne.mpr T.ne, List.lookup_cons, beq_self_eq_true]
    | 1, h1, h2 =>
      have e1 : par = x := Option.some.inj h1
      have e2 : y = v := Option.some.inj (Option.some.inj h2)
      subst e1; subst e2
      refine ⟨u, ry, .inl ⟨T.n4, ?_⟩⟩
      show ([(par, u), (slf, Value.ref a)] : List (Str × Value)).lookup par = _
      rw [List.lookup_cons, beq_self_eq_true]
    | i + 2, h1, h2 => exact absurd h1 (by show ¬ ([slf, par] : List Str)[i + 2]? = some x; simp)
  · have := (cell_one h).2
    subst this
    exact ⟨_, ⟨_, hk _ _ (e0.bs _ _ hcb).1, rfl⟩⟩
  · have := (cell_one h).2
    subst this
    exact (e0.bs _ _ hcb).2
theorem fn_sup (T : Sup P K mg C fI cc cda scope slf par fld) {name m : Str} {params : Arguments} {dV kV doc pm ct oc : Value} {an od : Option Addr} {osl : Array (Option Value)} {j : Nat} {ar : PySem.Arg} {p0 p1 p2 p3 p4 p5 p6 p7 p8 p9 : Pos}
    (lk : K.lookup fI = some ⟨oc, od, .func (PySem.W.ksFn name qual params [.Expr (.Call (.Attribute (.Call (.Name "super" p0) [] [] p1) "__init__" p2) [.Constant (.str m) j p3] [] p4) p5, .Assign [.Attribute (.Name slf p6) fld p7] (.Name par p8) p9] scope dV kV doc pm an (.ref cda) ct cc), osl⟩)
    (hev : ∀ L : Addr, ∃ pl : Sem Bool, eval (.Call (.Attribute (.Call (.Name "super" p0) [] [] p1) "__init__" p2) [.Constant (.str m) j p3] [] p4) (PySem.W.ksEnv qual scope L fI (.ref cda) cc) = (do
      let ov ← attributeBase (.Call (.Name "super" p0) [] [] p1) "__init__" (PySem.W.ksEnv qual scope L fI (.ref cda) cc) (eval (.Call (.Name "super" p0) [] [] p1) (PySem.W.ksEnv qual scope L fI (.ref cda) cc))
      standAt p2.atName
      let (f, first) ← holding [ov] (getMethod ov "__init__" pl)
      callWith p4 f first (backTo p4 (starEach [.Constant (.str m) j p3] (PySem.W.ksEnv qual scope L fI (.ref cda) cc))) []))
    (hcd : PySem.W.codeIn K (.ref cda) qual = true) (hp : (params.posonlyargs ++ params.args).head? = some ar) (har : ar.arg = slf) :
    FnOk P w K mg base CX 1 fI (PySem.W.ksFn name qual params [.Expr (.Call (.Attribute (.Call (.Name "super" p0) [] [] p1) "__init__" p2) [.Constant (.str m) j p3] [] p4) p5, .Assign [.Attribute (.Name slf p6) fld p7] (.Name par p8) p9] scope dV kV doc pm an (.ref cda) ct cc) [slf, par] (spSup C fld) := by
  refine ⟨fun vs H Q E h => by obtain ⟨a, y, rfl, _⟩ := h; rfl, fun A outer s H args us vs Q E hr e0 hb r hsp => ?_⟩
  obtain ⟨a, y, rfl, ea, hq⟩ := hsp
  cases r with
  | @cons _ u0 _ us1 ra r =>
    cases r with
    | @cons _ u _ us2 ry r =>
      cases r
      obtain rfl : u0 = Value.ref a := ra
      have KX : K.In s.heap := e0.mod.kin.keeps fun b o e => (e0.bs b o e).1
      have lim : s.heap.NoLimit := e0.mod.nolimit.keeps fun b o e => (e0.bs b o e).1
      refine PySem.ks_codeAny_call_defAt (fd := PySem.W.ksFn name qual params _ scope dV kV doc pm an (.ref cda) ct cc) hr.depth (KX _ _ lk) rfl lim (PySem.W.codeRec_of KX hcd) rfl hb (fun x hx => (T.n5 x hx).1) (fun x hx => ?_) (fun h1 hns hk => ?_) T.s2 T.s3 T.s1
      · have hx' : x = (slf, Value.ref a) ∨ x = (par, u) := by simpa using hx
        rcases hx' with rfl | rfl
        · exact T.n3
        · exact T.n4
      have I := inv_sup (CX := CX) (qual := qual) (E := E) (t := s.toks + ([slf, par].zip [Value.ref a, u]).length) T hr.hd e0 ry hns hk
      obtain ⟨ccl, cdd, vs, ccs, file, tf, hcode, hvs, hfile⟩ := T.code
      obtain ⟨cl, cld, csl, hcell⟩ := T.cell
      obtain ⟨cdD, hD⟩ := T.cls
      have K1 := I.kIn
      obtain ⟨pl, hev⟩ := hev s.heap.objs.size
      refine PySem.ks_wpAt_execs_cons (PySem.ks_wpAt_Expr_any (PySem.ks_wpAt_MethodCall (pl := pl) (PySem.ks_wpAt_super_base (f := fI) (cc := cda) T.n1 T.n2 (by decide) rfl (K1 _ _ lk) rfl hp rfl (K1 _ _ hcode) rfl hvs hfile T.top ?_) hev) (by unfold interactive; show (scope.kind == .module && _) = false; rw [T.s1]; rfl) (by rfl))
      -- super
      obtain ⟨mb, hb1, hb2⟩ := I.mod.blt
      refine PySem.W.ks_loadName_global T.s1 T.n1 (PySem.Calls.loadGlobal_builtin (mg := mg) (mb := mb) (v := .type "super") (I.mod.glob.keeps I.bk) T.msup (hb1.keeps I.bk) ((hb2 "super" (by decide)).trans (by decide +kernel)) ⟨rfl, ?_⟩)
      refine wpAny_loadName_free T.s1 T.n2 (c := cc) rfl ⟨_, K1 _ _ hcell, rfl⟩ ?_
      rw [har]
      refine wpAny_loadName_local T.s1 T.n3 hns (v := Value.ref a) (by
        show ([(par, u), (slf, Value.ref a)] : List (Str × Value)).lookup slf = _
        rw [List.lookup_cons, beq_eq_false_iff_ne.mpr T.ne, List.lookup_cons, beq_self_eq_true]) ?_
      obtain ⟨oD, hD1, hD2⟩ : ∃ oD, h1.get? C = some oD ∧ oD.data = .cls cdD := by
        unfold PySem.W.clsIn at hD
        split at hD
        · rename_i c d cd' sl ho
          cases hD
          exact ⟨_, K1 _ _ ho, rfl⟩
        · cases hD
      refine PySem.ks_wpAny_isType_cls hD1 hD2 ⟨rfl, ?_⟩
      obtain ⟨t0, hx⟩ := exo_at I.hok ea
      refine PySem.ks_wpAny_call_super hD1 hD2 hx rfl (fun c e => nomatch e) (PySem.W.looks_mroIn K1 T.mro) (fun h2 hso k2 => ?_)
      have I2 := I.kept (h' := h2) (t' := s.toks + ([slf, par].zip [Value.ref a, u]).length) k2
      -- the bound method
      have K2 := I2.kIn
      have hx2 := k2 _ _ hx
      have hI : PySem.W.Looks (model P w) h2 (isInstance (.ref a) (.type "ValueError")) true := (PySem.W.InstAt.type (C := C) (od := none) ⟨hx2, rfl, rfl, trivial⟩).andThen (PySem.W.looks_subIn K2 T.sub)
      have hsi := T.sup
      unfold PySem.W.ks_superIn at hsi
      rw [hD] at hsi
      refine PySem.W.kxs_getMethod PySem.W.kxs_ValueError hso (PySem.W.looks_opaque K2 T.opq) (l₀ := cdD.mro) (fun A Q E s k q => wpAny_bind ((PySem.W.looks_clsIn K2 hD) A _ E s k (wpAny_pure q))) rfl K2 hsi hI (fun z => ?_) (by decide) ?_
      · rw [z, hD1] at hx
        have := Option.some.inj hx
        rw [this] at hD2
        cases hD2
      have I3 := I2.kept (h' := h2.push (PySem.W.kxs_mw "ValueError.__init__" a)) (t' := s.toks + ([slf, par].zip [Value.ref a, u]).length + 1) (fun b o e => Heap.get?_push_of_some _ e)
      have hu3 : (h2.push (PySem.W.kxs_mw "ValueError.__init__" a)).get? h2.objs.size = some (PySem.W.kxs_mw "ValueError.__init__" a) := Heap.get?_push_at rfl rfl
      refine PySem.W.kxs_callWith (i := "ValueError.__init__") (x := a) (by rfl) ?_
      refine PySem.Calls.evalArgs_plain ?_
      show wpAny _ _ (spliced [(false, eval (.Constant (.str m) j p3) _)]) _ _ _
      refine PySem.Calls.spliced_cons (wpAny_Constant_str (PySem.Calls.spliced_nil ⟨hu3, ?_⟩))
      obtain ⟨nm, q, N, bs, bm, sn, sub, ab, col, dd, k0, k1, k2, k3, k5, hC, hbm⟩ := T.T.cls
      refine call_mw (I3.kIn _ _ hC) (Heap.get?_push_of_some _ hx2) hu3 (by rw [sizeLine_eq]; simp) fun h4 t1 k4 hx4 => ?_
      have I4 := (I3.tok (s.toks + ([slf, par].zip [Value.ref a, u]).length + 1 + 1)).write (x := a) (e := a) (h' := h4) (t' := s.toks + ([slf, par].zip [Value.ref a, u]).length + 1 + 1) (o := exo a C none) (by rw [ea]; exact True.intro) (.inl rfl) k4 ⟨_, hx4⟩ (exo_ok hx4)
      have eu : upd H a (exo a C none) = H := by
        funext b
        by_cases hb : b = a
        · rw [hb, upd_same, ea]
        · rw [upd_ne hb]
      rw [eu] at I4
      -- the field
      have hs : PSs (cxS CX P w K mg base [slf, par] qual scope fI cda cc A outer s H E) [.Assign [.Attribute (.Name slf p6) fld p7] (.Name par p8) p9] _ :=
        pss_one (ps_ost (pe_var (i := 0) rfl (.inl T.n3) T.d1.1 T.d1.2) (pe_var (i := 1) rfl (.inl T.n4) T.d2.1 T.d2.2) (by rfl))
      have hrun := hs.run [] _ _ H { nx := fun _ H' => Q .non H', rt := Q } I4 ⟨y, rfl, .ref a, rfl, a, C, rfl, T.T, T.nofld, .inl ⟨ea, hq⟩⟩
      refine wpAt_of_wpAny (wpAny_mono hrun (fun fl s' hs => ?_) fun e s' hs => hs)
      have fin : ∀ {σ' : L2.St} {H' : Hp} {v : V} {u : Value}, Inv (cxS CX P w K mg base [slf, par] qual scope fI cda cc A outer s H E) [] σ' H' s' → RelV v u → Q v H' → CE outer P w H s Q u s' :=
        fun {σ' H' v u} J rv q => ⟨v, H', J.os, J.bare, J.base, J.hok, rv, q⟩
      cases fl with
      | ret u =>
        obtain ⟨v, σ', H', J, rv, q⟩ := hs
        exact fin J rv q
      | next =>
        obtain ⟨σ', H', J, q⟩ := hs
        exact fin (v := V.non) (u := Value.none) J rfl q
      | brk =>
        obtain ⟨_, _, _, q⟩ := hs
        exact False.elim q
      | cont =>
        obtain ⟨_, _, _, q⟩ := hs
        exact False.elim q
end
end TA

set_option Elab.async false
set_option linter.all false
set_option maxRecDepth 100000
/-! TaExc2: raise. -/
namespace TA
open PySem PySem.Spec PyProof.Rows L2
/-- a class of the program's own errors, with one field -/
structure ErrAt (X : Cx) (B : Tb) (c : Nat) (x : Str) : Prop where
  ex : ∃ (C fI : Addr) (fd : FuncData) (ps : List Str) (fld : Str), OexC X.K C ∧ PySem.W.findIn X.K (.ref C) "__init__" = some (some (.ref fI)) ∧ PySem.W.typeIn X.K (.ref fI) = some (.type "function") ∧
    FnOk X.prog X.w X.K X.mg X.base CX0 1 fI fd ps (spSup C fld) ∧ Binds X.K fd ps [] ∧ X.mg x = some (.ref C) ∧ B.CA c = C ∧ B.AT c = fld
section
variable {X : Cx} {B : Tb} {K : PySem.W.Frag} {F : Nat → List W → FRes} {sub : Subs} {fu : Nat} {ios : List Nat} {Wx : WX} {H H' H0 H1 : Hp} {Fz Fz' Fz1 Fz0 : Addr → Prop} {S S' S1 S0 : Own} {σ : L2.St} {m : Md} {q q' : Bool} {Q Q' : VK} {env : Env} {D : Ends}
theorem heap_raise {a C dx : Addr} {fs : List (Str × V)} (ha : H a = none) (ne : dx ≠ a) : upd (del (upd (upd (upd H a (exo a C none)) dx (exd dx fs)) a (exo a C (some dx))) a) dx (.xd fs) = upd H dx (.xd fs) := by
  funext b
  by_cases h1 : b = dx
  · subst h1; rw [upd_same, upd_same]
  · rw [upd_ne h1, upd_ne h1]
    by_cases h2 : b = a
    · subst h2; rw [del_same, ha]
    · rw [del_ne h2, upd_ne h2, upd_ne h1, upd_ne h2]
theorem ss_raise1 {c : Nat} {x : Str} {e : Expr} {ie : IE} {p pos pos' : Pos} (hc : X.calm = true) (tk : Takes X Wx) (er : ErrAt X B c x) (hr : Room 2 X.A) (hg : Gl X x) (hdb : (x == ("__debug__" : Str)) = false) (ha : PA X [e] (tVs B X.K F Wx [ie])) (ns : NoStar e) :
    PS X (.Raise (some (.Call (.Name x p) [e] [] pos)) none pos') (tSt B X.K F sub fu ios Wx (.raise c [ie])) := by
  obtain ⟨C, fI, fd, ps, fld, T, iC, tI, F1, hb, hm, eC, eA⟩ := er.ex
  refine PS.imp (ps_raise hc tk (pmk_oex T iC tI F1 hr hb .nil pass0 hg hm ha hdb (ns [] X.env) rfl)) fun D σ H ⟨Fz, S, env, R, p⟩ => ⟨Fz, S, env, R, ?_⟩
  rw [evS] at p
  cases ev : evEs F [ie] .val env with
  | stuck => rw [ev] at p; exact p
  | exc c d e => rw [ev] at p; exact fun H' Fz' S' cls od R' g x => p σ H' Fz' S' cls od Kp.refl R' g x
  | ok r =>
    obtain ⟨en, ws⟩ := r
    rw [ev] at p
    intro vs H' Fz' S' R' g cl ⟨T1, rw', fr⟩
    cases rw' with
    | nil =>
      rw [evEs] at ev
      cases e1 : evX F ie .val env with
      | ok r => rw [e1] at ev; simp only [Res.bind, evEs] at ev; cases ev
      | stuck => rw [e1] at ev; cases ev
      | exc c d e => rw [e1] at ev; cases ev
    | @cons v _ w ws2 Tv Ts ra rr =>
      cases rr with
      | cons _ _ =>
        rw [evEs] at ev
        cases e1 : evX F ie .val env with
        | ok r => rw [e1] at ev; simp only [Res.bind, evEs] at ev; cases ev
        | stuck => rw [e1] at ev; cases ev
        | exc c d e => rw [e1] at ev; cases ev
      | nil =>
        dsimp only [Out.of] at p
        cases ew : w.toD with
        | none => rw [ew] at p; exact False.elim p
        | some d =>
          rw [ew] at p
          dsimp only [Res.of, Out.of] at p
          refine ⟨by simp, fun a na => ⟨a, v, rfl, upd_same, fun dx ndx ne => ⟨rfl, dx, [(fld, v)], upd_same, by rw [upd_ne ne, upd_same], ?_, ?_⟩⟩⟩
          · rw [upd_ne ne] at ndx; exact ndx
          · have ndx' : H' dx = none := by rw [upd_ne ne] at ndx; exact ndx
            rw [heap_raise na ne]
            rw [List.append_nil] at fr
            obtain ⟨R2, g2⟩ := R'.sink g fr ra.there
            have rd := ra.freeze (Fz' := fun b => Fz' b ∨ b ∈ Tv) (fun _ f => .inl f) ew fun _ h => .inr h
            obtain ⟨R3, g3, c3⟩ := R2.new (.xd [(fld, v)]) ndx'
            exact p σ _ _ _ _ _ Kp.refl R3 (g2.trans g3) ⟨by rw [eC], dx, v, rfl, by rw [eA]; exact upd_same, rd.grow g3⟩
end
end TA

set_option Elab.async false
set_option linter.all false
set_option maxRecDepth 100000
/-! TaComp: list comprehensions. -/
namespace TA
open PySem PySem.Spec PyProof.Rows L2
abbrev WF : WX := fun _ _ _ _ => False
section
variable {X : Cx} {B : Tb} {K : PySem.W.Frag} {F : Nat → List W → FRes} {sub : Subs} {fu : Nat} {ios : List Nat} {Wx : WX} {H H' H0 H1 : Hp} {Fz Fz' Fz1 Fz0 : Addr → Prop} {S S' S1 S0 : Own} {σ : L2.St} {m : Md} {q q' : Bool} {Q Q' : VK} {env env' : Env} {D : Ends}
theorem env_wipe_some {i : Nat} {w : W} : ∀ {vs : List Nat} {env : Env}, (env.wipe vs)[i]? = some (some w) → env[i]? = some (some w) ∧ i ∉ vs
  | [], _, h => ⟨h, by simp⟩
  | j :: vs, env, h => by
    rw [Env.wipe] at h
    obtain ⟨h1, h2⟩ := env_wipe_some h
    by_cases e : j = i
    · subst e
      rw [List.getElem?_set] at h1
      split at h1
      · split at h1 <;> cases h1
      · exact absurd rfl ‹_›
    · rw [List.getElem?_set_ne e] at h1
      exact ⟨h1, by simp only [List.mem_cons, not_or]; exact ⟨fun z => e z.symm, h2⟩⟩
theorem env_wipe_len : ∀ (vs : List Nat) (env : Env), (env.wipe vs).length = env.length
  | [], _ => rfl
  | j :: vs, env => by rw [Env.wipe, env_wipe_len vs, List.length_set]
theorem env_restore_len {old : Env} : ∀ (vs : List Nat) (env : Env), (env.restore old vs).length = env.length
  | [], _ => rfl
  | j :: vs, env => by rw [Env.restore, env_restore_len vs, List.length_set]
theorem env_restore_some {old : Env} {i : Nat} {w : W} : ∀ {vs : List Nat} {env : Env}, (env.restore old vs)[i]? = some (some w) → (i ∈ vs ∧ old[i]? = some (some w)) ∨ (i ∉ vs ∧ env[i]? = some (some w))
  | [], _, h => .inr ⟨by simp, h⟩
  | j :: vs, env, h => by
    rw [Env.restore] at h
    rcases env_restore_some h with ⟨h1, h2⟩ | ⟨h1, h2⟩
    · exact .inl ⟨List.mem_cons_of_mem _ h1, h2⟩
    · by_cases e : j = i
      · subst e
        rw [List.getElem?_set] at h2
        split at h2
        · split at h2
          · refine .inl ⟨List.mem_cons_self .., ?_⟩
            have h2 := Option.some.inj h2
            cases eo : old[j]? with
            | none => rw [eo] at h2; cases h2
            | some x => rw [eo] at h2; exact congrArg some h2
          · cases h2
        · exact absurd rfl ‹_›
      · rw [List.getElem?_set_ne e] at h2
        exact .inr ⟨by simp only [List.mem_cons, not_or]; exact ⟨fun z => e z.symm, h1⟩, h2⟩
theorem wipe_at {i : Nat} : ∀ (vs : List Nat) (σ : L2.St), (L2.wipe σ vs)[i]? = if i ∈ vs then (if i < σ.length then some none else none) else σ[i]?
  | [], σ => by rw [if_neg (by simp)]; rfl
  | v :: vs, σ => by
    show ((L2.wipe σ vs).set v none)[i]? = _
    rw [List.getElem?_set, L2.wipe_length]
    by_cases e : v = i
    · subst e
      rw [if_pos rfl, if_pos (List.mem_cons_self ..)]
    · rw [if_neg e, wipe_at vs]
      by_cases h : i ∈ vs
      · rw [if_pos h, if_pos (List.mem_cons_of_mem _ h)]
      · rw [if_neg h, if_neg (fun z => (List.mem_cons.mp z).elim (fun y => e y.symm) h)]
theorem wipe_wipe {vs : List Nat} {σ : L2.St} : L2.wipe (L2.wipe σ vs) vs = L2.wipe σ vs := by
  refine List.ext_getElem? fun i => ?_
  rw [wipe_at, L2.wipe_length, wipe_at]
  by_cases h : i ∈ vs
  · rw [if_pos h, if_pos h]
  · rw [if_neg h]
theorem Rel.wiped (R : Rel K H Fz S σ env) (vs : List Nat) : Rel K H Fz S (L2.wipe σ vs) (env.wipe vs) where
  well := R.well
  len := by rw [env_wipe_len, L2.wipe_length]; exact R.len
  rep := fun i w h => by
    obtain ⟨h1, h2⟩ := env_wipe_some h
    obtain ⟨v, e, r⟩ := R.rep i w h1
    exact ⟨v, by rw [wipe_at, if_neg h2]; exact e, r⟩
def offO (S : Own) (vs : List Nat) : Own := fun i => if i ∈ vs then [] else S i
def onO (S S' : Own) (vs : List Nat) : Own := fun i => if i ∈ vs then S i else S' i
theorem offO_sub {vs : List Nat} {i : Nat} {a : Addr} (h : a ∈ offO S vs i) : i ∉ vs ∧ a ∈ S i := by
  unfold offO at h
  split at h
  · exact nomatch h
  · exact ⟨‹_›, h⟩
theorem Rel.offL (R : Rel K H Fz S σ env) (vs : List Nat) (h : ∀ i w, env[i]? = some (some w) → i ∉ vs) : Rel K H Fz (offO S vs) σ env where
  well := ⟨R.well.fz, fun i a z => R.well.own i a (offO_sub z).2, fun i j a y z => R.well.dis i j a (offO_sub y).2 (offO_sub z).2, fun i => by
    unfold offO
    split
    · exact List.nodup_nil
    · exact R.well.nod i⟩
  len := R.len
  rep := fun i w e => by
    obtain ⟨v, e', r⟩ := R.rep i w e
    have : offO S vs i = S i := if_neg (h i w e)
    exact ⟨v, e', by rw [this]; exact r⟩
/-- behind a block: its own names are as before -/
theorem Rel.restored {vs : List Nat} (R0 : Rel K H Fz S σ env) (R : Rel K H' Fz' S' (L2.wipe σ vs) env') (g : Grow H Fz (offO S vs) H' Fz' S') : Rel K H' Fz' (onO S S' vs) σ (env'.restore env vs) ∧ Grow H Fz S H' Fz' (onO S S' vs) := by
  have nf : ∀ i, i ∈ vs → ∀ a, a ∈ S i → H a ≠ none ∧ ¬ Fz a ∧ ∀ j, a ∉ offO S vs j := fun i hi a ha => by
    refine ⟨(R0.well.own i a ha).1, (R0.well.own i a ha).2, fun j hj => ?_⟩
    obtain ⟨h1, h2⟩ := offO_sub hj
    exact h1 (R0.well.dis i j a ha h2 ▸ hi)
  have nf' : ∀ i, i ∈ vs → ∀ a, a ∈ S i → ¬ Fz' a ∧ ∀ j, a ∉ S' j := fun i hi a ha => by
    obtain ⟨h1, h2, h3⟩ := nf i hi a ha
    refine ⟨fun f => ?_, fun j hj => ?_⟩
    · rcases g.new a f with f | f | ⟨j, f⟩
      · exact h2 f
      · exact h1 f
      · exact h3 j f
    · rcases g.own j a hj with f | f
      · exact h3 j f
      · exact h1 f
  have on1 : ∀ {i : Nat}, i ∈ vs → onO S S' vs i = S i := fun h => if_pos h
  have on2 : ∀ {i : Nat}, i ∉ vs → onO S S' vs i = S' i := fun h => if_neg h
  refine ⟨⟨⟨R.well.fz, fun i a ha => ?_, fun i j a hi hj => ?_, fun i => ?_⟩, ?_, fun i w h => ?_⟩, ⟨fun a o e no nF => ?_, g.rd, g.fz, fun a f => ?_, fun i a ha => ?_, g.there⟩⟩
  · by_cases hi : i ∈ vs
    · rw [on1 hi] at ha
      exact ⟨g.there a (nf i hi a ha).1, (nf' i hi a ha).1⟩
    · rw [on2 hi] at ha
      exact R.well.own i a ha
  · by_cases h1 : i ∈ vs <;> by_cases h2 : j ∈ vs
    · rw [on1 h1] at hi; rw [on1 h2] at hj; exact R0.well.dis i j a hi hj
    · rw [on1 h1] at hi; rw [on2 h2] at hj; exact absurd hj ((nf' i h1 a hi).2 j)
    · rw [on2 h1] at hi; rw [on1 h2] at hj; exact absurd hi ((nf' j h2 a hj).2 i)
    · rw [on2 h1] at hi; rw [on2 h2] at hj; exact R.well.dis i j a hi hj
  · by_cases hi : i ∈ vs
    · rw [on1 hi]; exact R0.well.nod i
    · rw [on2 hi]; exact R.well.nod i
  · rw [env_restore_len, R.len, L2.wipe_length]
  · rcases env_restore_some h with ⟨hi, e⟩ | ⟨hi, e⟩
    · obtain ⟨v, ev, r⟩ := R0.rep i w e
      exact ⟨v, ev, by rw [on1 hi]; exact r.mono g.fz (fun a u f => g.rd a u f) fun a ha o eo => g.keep a o eo (nf i hi a ha).2.2 (nf i hi a ha).2.1⟩
    · obtain ⟨v, ev, r⟩ := R.rep i w e
      exact ⟨v, (L2.wipe_some ev).1, by rw [on2 hi]; exact r⟩
  · exact g.keep a o e (fun i z => no i (offO_sub z).2) nF
  · rcases g.new a f with f | f | ⟨i, f⟩
    · exact .inl f
    · exact .inr (.inl f)
    · exact .inr (.inr ⟨i, (offO_sub f).2⟩)
  · by_cases hi : i ∈ vs
    · rw [on1 hi] at ha; exact .inl ha
    · rw [on2 hi] at ha
      exact (g.own i a ha).imp (fun z => (offO_sub z).2) id
/-- nobody's list is turned -/
theorem Rel.poke (R : Rel K H Fz S σ env) {d : Addr} {vs us : List V} (h : H d = some (.lst vs)) (nf : ¬ Fz d) (no : ∀ i, d ∉ S i) : Rel K (upd H d (.lst us)) Fz S σ env := by
  have th : ∀ a, H a ≠ none → upd H d (.lst us) a ≠ none := fun a z => by
    by_cases e : a = d
    · subst e; rw [upd_same]; simp
    · rw [upd_ne e]; exact z
  refine ⟨⟨fun a f => th a (R.well.fz a f), fun i a z => ⟨th a (R.well.own i a z).1, (R.well.own i a z).2⟩, R.well.dis, R.well.nod⟩, R.len, fun i w e => ?_⟩
  obtain ⟨v, ev, r⟩ := R.rep i w e
  refine ⟨v, ev, r.mono (fun _ f => f) (fun a u f rt => ?_) fun a ha o eo => ?_⟩
  · have ne : a ≠ d := fun z => by
      subst z
      rcases f with f | ⟨vs, f⟩
      · exact nf f
      · subst f
        have := rt.2 (.inl ⟨_, rfl⟩)
        rw [h] at this
        cases this
    unfold Rt Rd
    rw [upd_ne ne]
    exact rt
  · rw [upd_ne (fun z => no i (by rw [← z]; exact ha))]; exact eo
/-- a turn of a comprehension -/
abbrev stepC (F : Nat → List W → FRes) (is : List Nat) (tup : Bool) (icond ielt : IE) (own : List Nat) : TA.D → Env → Res (Env × Option W) := fun d e => (Res.of (e.target is tup d)).bind fun e1 => (evX F icond .test e1).calm.bool fun e2 b =>
  if b then (evX F ielt .val e2).calm.bind fun p => .ok (p.1.wipe own, some p.2) else .ok (e2.wipe own, none)
theorem comp_run {J : It} {ds : List TA.D} {is own : List Nat} {tup : Bool} {icond ielt : IE} {tg : Expr} {g : TG} {Dl : Addr} (ok : ItOf K J H1 Fz1 ds) (g1 : Grow H0 Fz0 S0 H1 Fz1 S1) (c1 : q = true → Calm H0 H1) (R1 : Rel K H1 Fz1 S1 σ env) (tgt : Tgt X K tg is tup g) (hsub : ∀ i ∈ is, i ∈ own) (hD : H1 Dl = none)
    (hq : q = true → IE.quiet icond = true ∧ IE.quiet ielt = true)
    (p : PX B K H0 Fz0 S0 σ .val q Q Wx ((compL (stepC F is tup icond ielt own) ds (env.wipe own) []).bind fun r => out1 (r.1.restore env own) (some (.lst r.2)))) :
    ∃ W : Nat → Nat → Hp → Prop, (∃ m, W 0 m (upd H1 Dl (.lst []))) ∧ ∀ i m H, W i m H →
      (J.stop i H ∧ Q (.ref Dl) H) ∨ (J.go i H ∧ ∃ Nx : Hp → Prop, (∀ H', Nx H' → ∃ m', m' < m ∧ W (i + 1) m' H') ∧ ∀ x H', J.yld i H x H' → g x (L2.wipe σ own) H' fun σ2 H2 => L2.wipe σ2 own = L2.wipe σ own ∧ tTs B K F WF icond σ2 H2 fun b H3 =>
        if b = true then tX B K F WF ielt .val σ2 H3 fun y H4 => ∃ acc, H4 Dl = some (.lst acc) ∧ acc.length < sizeLine ∧ Nx (upd H4 Dl (.lst (acc ++ [y]))) else Nx H3) := by
  let P : Nat → Hp → Prop := fun i H' => ∃ Fz' S' env' vs acc T, Rel K H' Fz' S' (L2.wipe σ own) env' ∧ Grow H1 Fz1 (offO S1 own) H' Fz' S' ∧ H' Dl = some (.lst vs) ∧ RepWs K H' Fz' vs acc T ∧ Fresh H1 H' Fz' S' (Dl :: T) ∧ (q = true → Calm H1 H') ∧
    PX B K H0 Fz0 S0 σ .val q Q Wx ((compL (stepC F is tup icond ielt own) (ds.drop i) env' acc).bind fun r => out1 (r.1.restore env own) (some (.lst r.2)))
  have R1w : Rel K H1 Fz1 (offO S1 own) (L2.wipe σ own) (env.wipe own) := (R1.wiped own).offL own fun i w e => (env_wipe_some e).2
  refine ⟨fun i m H' => m = ds.length - i ∧ i ≤ ds.length ∧ P i H', ⟨ds.length, by simp, Nat.zero_le _, ?_⟩, ?_⟩
  · obtain ⟨R2, g2, c2⟩ := R1w.new (.lst []) hD
    refine ⟨Fz1, _, _, [], [], [], R2, g2, upd_same, .nil, ⟨by simp, fun a ha => ?_⟩, fun _ => c2, p⟩
    obtain rfl : a = Dl := by simpa using ha
    exact ⟨hD, fun f => R1.well.fz _ f hD, fun i z => (R1w.well.own i _ z).1 hD⟩
  rintro i m H' ⟨rfl, hi, Fz', S', env', vs, acc, T, R', g', hDl, ra, fr, c', p'⟩
  obtain ⟨o1, o2⟩ := ok H' Fz' g'.fz g'.rd
  by_cases hlt : i < ds.length
  · refine .inr ?_
    obtain ⟨d, ed⟩ : ∃ d, ds[i]? = some d := ⟨_, List.getElem?_eq_getElem hlt⟩
    obtain ⟨go, yl⟩ := o1 i d ed
    have hd : ds.drop i = d :: ds.drop (i + 1) := by
      obtain ⟨hl, e⟩ := List.getElem?_eq_some_iff.mp ed
      rw [List.drop_eq_getElem_cons hl, e]
    rw [hd, compL] at p'
    refine ⟨go, P (i + 1), fun H2 h2 => ⟨ds.length - (i + 1), by omega, rfl, hlt, h2⟩, fun x H'' hy => ?_⟩
    obtain ⟨rfl, rd⟩ := yl x H'' hy
    cases et : env'.target is tup d with
    | none => simp only [stepC, et, Res.of, Res.bind] at p'; exact False.elim p'
    | some e1 =>
      simp only [stepC, et, Res.of, Res.bind] at p'
      refine tgt.run rd R' (Grow.refl _ _ _) et fun σ2 S2 sm R2 g2 => ⟨by rw [sm own hsub, wipe_wipe], Fz', S2, e1, R2, ?_⟩
      have hw : L2.wipe σ2 own = L2.wipe σ own := by rw [sm own hsub, wipe_wipe]
      have thD : ∀ a ∈ Dl :: T, H'' a ≠ none := fun a ha => by
        rcases List.mem_cons.mp ha with rfl | ha
        · rw [hDl]; simp
        · exact ra.there a ha
      cases ev : evX F icond .test e1 with
      | stuck => rw [ev] at p'; exact False.elim p'
      | exc c d e => rw [ev] at p'; exact False.elim p'
      | ok r =>
        obtain ⟨e2, w2⟩ := r
        rw [ev] at p'
        intro b H3 Fz3 S3 R3 g3 c3 ew
        dsimp only at ew
        subst ew
        have gA : Grow H'' Fz' S' H3 Fz3 S3 := g2.trans g3
        have fr3 := fr.grow thD gA
        have hD3 : H3 Dl = some (.lst vs) := gA.keep _ _ hDl (fr.2 Dl (List.mem_cons_self ..)).2.2 (fr.2 Dl (List.mem_cons_self ..)).2.1
        have ra3 : RepWs K H3 Fz3 vs acc T := ra.mono gA.fz (fun a u f => gA.rd a u f) fun a ha o e => gA.keep a o e (fr.2 a (List.mem_cons_of_mem _ ha)).2.2 (fr.2 a (List.mem_cons_of_mem _ ha)).2.1
        cases b with
        | false =>
          rw [if_neg Bool.false_ne_true]
          have Rw := R3.wiped own
          rw [hw] at Rw
          refine ⟨Fz3, S3, e2.wipe own, vs, acc, T, Rw, g'.trans gA, hD3, ra3, fr3, fun z => (c' z).trans (c3 (hq z).1), ?_⟩
          simp only [Res.calm, Res.bool, Res.bind] at p'
          exact p'
        | true =>
          rw [if_pos rfl]
          refine ⟨Fz3, S3, e2, R3, ?_⟩
          cases ev4 : evX F ielt .val e2 with
          | stuck => simp only [Res.calm, Res.bool, Res.bind, ev4] at p'; exact False.elim p'
          | exc c d e => simp only [Res.calm, Res.bool, Res.bind, ev4] at p'; exact False.elim p'
          | ok r =>
            obtain ⟨e4, w4⟩ := r
            simp only [Res.calm, Res.bool, Res.bind, ev4, if_true] at p'
            intro v H4 Fz4 S4 R4 g4 c4 ⟨U, rw4, fr4⟩
            by_cases hz : szOk (acc.length + 1) = true
            · rw [if_pos hz] at p'
              have gB : Grow H'' Fz' S' H4 Fz4 S4 := gA.trans g4
              have thD3 : ∀ a ∈ Dl :: T, H3 a ≠ none := fun a ha => gA.there a (thD a ha)
              have frB := fr3.grow thD3 g4
              have nD := frB.2 Dl (List.mem_cons_self ..)
              have hD4 : H4 Dl = some (.lst vs) := g4.keep _ _ hD3 (fr3.2 Dl (List.mem_cons_self ..)).2.2 (fr3.2 Dl (List.mem_cons_self ..)).2.1
              have ra4 : RepWs K H4 Fz4 vs acc T := ra3.mono g4.fz (fun a u f => g4.rd a u f) fun a ha o e => g4.keep a o e (fr3.2 a (List.mem_cons_of_mem _ ha)).2.2 (fr3.2 a (List.mem_cons_of_mem _ ha)).2.1
              have frAll : Fresh H1 H4 Fz4 S4 (Dl :: (T ++ U)) := frB.app fr4 thD3 fun a e => gA.there a (g'.there a e)
              have rall : RepWs K H4 Fz4 (vs ++ [v]) (acc ++ [w4]) (T ++ U) := ra4.app (RepWs.one rw4)
              have nDT : Dl ∉ T ++ U := (List.nodup_cons.mp frAll.1).1
              have gC := g'.trans gB
              have ne1 : ∀ a o, H1 a = some o → a ≠ Dl := fun a o e z => by rw [z, hD] at e; cases e
              have rdk : ∀ a u, Fx Fz4 a u → Rt H4 a u → Rt (upd H4 Dl (.lst (vs ++ [v]))) a u := fun a u f rt => by
                have ne : a ≠ Dl := fun z => by
                  subst z
                  rcases f with f | ⟨us, f⟩
                  · exact nD.2.1 f
                  · subst f
                    have := rt.2 (.inl ⟨_, rfl⟩)
                    rw [hD4] at this
                    cases this
                unfold Rt Rd
                rw [upd_ne ne]
                exact rt
              refine ⟨vs, hD4, ?_, Fz4, S4, e4.wipe own, vs ++ [v], acc ++ [w4], T ++ U, ?_, ?_, upd_same, ?_, frAll, fun z => ?_, p'⟩
              · have := szOk_le hz
                have := ra.len
                omega
              · have Rw := (R4.wiped own).poke hD4 nD.2.1 nD.2.2 (us := vs ++ [v])
                rw [hw] at Rw
                exact Rw
              · refine ⟨fun a o e no nf => ?_, fun a u f rt => rdk a u (f.imp (gC.fz a) id) (gC.rd a u f rt), gC.fz, gC.new, gC.own, fun a e => ?_⟩
                · rw [upd_ne (ne1 a o e)]
                  exact gC.keep a o e no nf
                · by_cases z : a = Dl
                  · subst z; rw [upd_same]; simp
                  · rw [upd_ne z]; exact gC.there a e
              · exact rall.mono (fun _ f => f) rdk fun a ha o e => by
                  rw [upd_ne (fun z => nDT (by rw [← z]; exact ha))]
                  exact e
              · have cc := ((c' z).trans (c3 (hq z).1)).trans (c4 (hq z).2)
                intro a u rt
                have ne : a ≠ Dl := fun y => by
                  subst y
                  rcases rt.1 with y | ⟨o, y⟩ <;> rw [hD] at y <;> cases y
                have := cc a u rt
                unfold Rt Rd at this ⊢
                rw [upd_ne ne]
                exact this
            · rw [if_neg hz] at p'; exact False.elim p'
  · have e : i = ds.length := by omega
    subst e
    rw [List.drop_length, compL] at p'
    refine .inl ⟨o2 _ (Nat.le_refl _), ?_⟩
    simp only [Res.bind, out1] at p'
    obtain ⟨R3, g3⟩ := R1.restored R' g'
    refine p' (.ref Dl) H' Fz' _ R3 (g1.trans g3) (fun z => (c1 z).trans (c' z)) ⟨Dl :: T, .lst hDl ra, ?_⟩
    have f := fr.back g1.there
    refine ⟨f.1, fun a ha => ⟨(f.2 a ha).1, (f.2 a ha).2.1, fun i z => ?_⟩⟩
    unfold onO at z
    split at z
    · exact (R1.well.own i a z).1 (fr.2 a ha).1
    · exact (f.2 a ha).2.2 i z
end
end TA

set_option Elab.async false
set_option linter.all false
set_option maxRecDepth 100000
/-! TaComp2: the rules of list comprehensions. -/
namespace TA
open PySem PySem.Spec PyProof.Rows L2
/-- the tests of a clause -/
def Cnd (X : Cx) (B : Tb) (F : Nat → List W → FRes) (ifs : List Expr) (ic : IE) : Prop := PTs X ifs (tTs B X.K F WF ic)
section
variable {X : Cx} {B : Tb} {K : PySem.W.Frag} {F : Nat → List W → FRes} {sub : Subs} {fu : Nat} {ios : List Nat} {Wx : WX} {H H' H0 H1 : Hp} {Fz Fz' Fz1 Fz0 : Addr → Prop} {S S' S1 S0 : Own} {σ : L2.St} {m : Md} {q q' : Bool} {Q Q' : VK} {env env' : Env} {D : Ends}
theorem PTs.imp {ifs : List Expr} {t t' : TT} (h : PTs X ifs t) (i : ∀ σ H Q, t' σ H Q → t σ H Q) : PTs X ifs t' := ⟨fun pins s σ H Q I x => h.run pins s σ H Q I (i σ H Q x)⟩
theorem cnd_nil : Cnd X B F [] (.lit (.bool true)) := PTs.imp pts_nil fun σ H Q ⟨Fz, S, env, R, p⟩ => by
  have e : evX F (.lit (.bool true)) .test env = .ok (env, .val (.bool true)) := by simp only [evX]; rfl
  rw [e] at p
  exact p true H Fz S R (Grow.refl _ _ _) (fun _ => Calm.refl _) rfl
theorem cnd_one {c : Expr} {ic : IE} (h : PT X c (tTs B X.K F WF ic)) : Cnd X B F [c] ic := pts_one h
abbrev lcCore (F : Nat → List W → FRes) (ielt : IE) (is : List Nat) (tup : Bool) (k : ItK) (its : List IE) (icond : IE) (own : List Nat) : Env → Res (Env × W) := fun env => (evEs F its .val env).bind fun r => (Res.of (itemsOf k r.2)).bind fun ds =>
  (compL (stepC F is tup icond ielt own) ds (r.1.wipe own) []).bind fun q => out1 (q.1.restore r.1 own) (some (.lst q.2))
theorem lc_tr {ielt icond : IE} {is own : List Nat} {tup : Bool} {k : ItK} {its : List IE} {tg : Expr} {g : TG} (tgt : Tgt X K tg is tup g) (hsub : ∀ i ∈ is, i ∈ own)
    (h : ∃ Fz S env, Rel K H Fz S σ env ∧ PX B K H Fz S σ .val (IE.quiet (.lc false ielt is tup k its icond own)) Q Wx (lcCore F ielt is tup k its icond own env)) : tLc (tIt B K F Wx k its) g (tTs B K F WF icond) (tX B K F WF ielt .val) own σ H Q := by
  obtain ⟨Fz, S, env, R, p⟩ := h
  have hq : IE.quiet (.lc false ielt is tup k its icond own) = (IE.quiet ielt && IE.quiets its && IE.quiet icond) := by rw [IE.quiet]
  refine ⟨Fz, S, env, R, ?_⟩
  unfold itsR
  cases ev : evEs F its .val env with
  | stuck => simp only [lcCore, ev, Res.bind] at p; exact False.elim p
  | exc c d e => simp only [lcCore, ev, Res.bind] at p; exact p
  | ok r =>
    obtain ⟨e, ws⟩ := r
    simp only [lcCore, ev, Res.bind] at p ⊢
    cases ei : itemsOf k ws with
    | none => simp only [ei, Res.of] at p; exact False.elim p
    | some ds =>
      simp only [ei, Res.of] at p ⊢
      intro J H1 Fz1 S1 R1 g1 c1 ok Dl hD
      rw [hq] at p
      exact comp_run (q := IE.quiet ielt && IE.quiets its && IE.quiet icond) ok g1 (fun z => c1 (by simp only [Bool.and_eq_true] at z; exact z.1.2)) R1 tgt hsub hD (fun z => by simp only [Bool.and_eq_true] at z; exact ⟨z.2, z.1.1⟩) p
/-- what a comprehension's block asks -/
structure Blk (X : Cx) (B : Tb) (F : Nat → List W → FRes) (elt tg : Expr) (ifs : List Expr) (scope : Scope) (own : List (Str × Nat)) (ielt icond : IE) (is : List Nat) (tup : Bool) : Prop where
  ok : BlkOk X.N X.env.scope scope own
  tgt : ∃ g, (∀ (s : Shared) (H : Hp) (C : Addr) (cl : List (Str × Addr)) (fp : List Addr), Tgt (X.blk s H scope (compEnvC scope cl C X.env) fp) X.K tg is tup g)
  cnd : ∀ (s : Shared) (H : Hp) (C : Addr) (cl : List (Str × Addr)) (fp : List Addr), Cnd (X.blk s H scope (compEnvC scope cl C X.env) fp) B F ifs icond
  elt : ∀ (s : Shared) (H : Hp) (C : Addr) (cl : List (Str × Addr)) (fp : List Addr), SEx (X.blk s H scope (compEnvC scope cl C X.env) fp) B F WF elt ielt
  sub : ∀ i ∈ is, i ∈ own.map (·.2)
theorem se_lc {elt tg iter : Expr} {ifs : List Expr} {scope : Scope} {own : List (Str × Nat)} {ielt icond : IE} {is : List Nat} {tup : Bool} {k : ItK} {its : List IE} {pos : Pos} (hc : X.calm = true) (hN : X.N.Nodup) (hi : PI X tg iter (tIt B X.K F Wx k its)) (b : Blk X B F elt tg ifs scope own ielt icond is tup)
    (hs : ∀ x, foldedSetIterable iter X.env x = pure x) : SEx X B F Wx (.ListComp elt [⟨tg, iter, ifs, 0⟩] scope pos) (.lc false ielt is tup k its icond (own.map (·.2))) := by
  obtain ⟨g, ht⟩ := b.tgt
  refine ⟨SE.core (core := lcCore F ielt is tup k its icond (own.map (·.2))) (PE.imp (pe_lc (tt := tTs B X.K F WF icond) (te := tX B X.K F WF ielt .val) hc hN hi b.ok (fun s H C cl fp => (ht s H C cl fp).pg) b.cnd (fun s H C cl fp => (b.elt s H C cl fp).se .val (by decide)) hs) fun σ H Q h => ?_) (fun m env hm => by cases m <;> simp only [evX, Bool.false_eq_true, if_false] <;> rfl), fun _ _ => rfl⟩
  exact lc_tr (ht X.s_0 X.H_0 0 [] []) b.sub h
theorem ss_asgLc {sub : Subs} {fu : Nat} {ios : List Nat} {i : Nat} {y : Str} {py : Pos} {elt tg iter : Expr} {ifs : List Expr} {scope : Scope} {own : List (Str × Nat)} {ielt icond : IE} {is : List Nat} {tup : Bool} {k : ItK} {its : List IE} {pos spos : Pos} (hio : ios.contains i = false) (hc : X.calm = true) (hN : X.N.Nodup) (hy : X.N[i]? = some y) (hyl : X.env.scope.names.lookup y = some .local)
    (hsw : swapsWith (.ListComp elt [⟨tg, iter, ifs, 0⟩] scope pos) (some (.Name y py)) spos.line X.env = pure true) (hi : PI X tg iter (tIt B X.K F Wx k its)) (b : Blk X B F elt tg ifs scope own ielt icond is tup)
    (hs : ∀ x, foldedSetIterable iter X.env x = pure x) : PS X (.Assign [.Name y py] (.ListComp elt [⟨tg, iter, ifs, 0⟩] scope pos) spos) (tSt B X.K F sub fu ios Wx (.asg i (.lc false ielt is tup k its icond (own.map (·.2))))) := by
  obtain ⟨g, ht⟩ := b.tgt
  refine PS.imp (ps_setLc (tt := tTs B X.K F WF icond) (te := tX B X.K F WF ielt .val) hc hN hy hyl hsw hi b.ok (fun s H C cl fp => (ht s H C cl fp).pg) b.cnd (fun s H C cl fp => (b.elt s H C cl fp).se .val (by decide)) hs) fun D σ H ⟨Fz, S, env, R, p⟩ => ?_
  rw [evS] at p
  refine lc_tr (Wx := Wx) (ht X.s_0 X.H_0 0 [] []) b.sub ⟨Fz, S, env, R, ?_⟩
  have e : evX F (.lc false ielt is tup k its icond (own.map (·.2))) .val env = lcCore F ielt is tup k its icond (own.map (·.2)) env := by
    simp only [evX, Bool.false_eq_true, if_false]
    rfl
  rw [e] at p
  refine p.x fun e w ev p1 v H' Fz' S' T R' g r fr => ?_
  obtain ⟨R2, g2⟩ := R'.asgN g (i := i) r fr
  exact p1 _ H' Fz' _ (Kp.refl.set hio) R2 g2
end
end TA

set_option Elab.async false
set_option linter.all false
set_option maxRecDepth 100000
/-! TaKw: a call with all its arguments by keywords. -/
namespace TA
open PySem PySem.Spec PyProof.Rows L2
def kwG {α : Type} (perm : List Nat) (us ws : List α) : List α := if us.length = 0 then (kwArgs perm ws).getD [] else []
/-- a def that may be called so -/
structure FnAtK (X : Cx) (B : Tb) (F : Nat → List W → FRes) (f : Nat) (x : Str) (np : Nat) (ks : List Str) (perm : List Nat) : Prop where
  ex : ∃ (k : Nat) (fa : Addr) (fd : FuncData) (ps : List Str), FnOk X.prog X.w X.K X.mg X.base (L2.CX X.prog X.w) k fa fd ps (spF B X.K np [] (F f)) ∧ Room k X.A ∧ X.mg x = some (.ref fa) ∧ PySem.W.keepIn X.K (.ref fa) = true ∧ KBinds X.K fd ps ks (kwG perm) (kwG perm)
section
variable {X : Cx} {B : Tb} {K : PySem.W.Frag} {F : Nat → List W → FRes} {Wx : WX} {H H' H0 H1 : Hp} {Fz Fz' Fz1 Fz0 : Addr → Prop} {S S' S1 S0 : Own} {σ : L2.St} {m : Md} {q q' : Bool} {Q Q' : VK} {env : Env} {pins : List (Addr × Obj)} {s : Shared}
theorem PK.imp {kws : List Keyword} {t t' : TA} (h : PK X kws t) (i : ∀ σ H Q, t' σ H Q → t σ H Q) : PK X kws t' := ⟨fun pos pins s σ H Q I x => h.run pos pins s σ H Q I (i σ H Q x)⟩
theorem pks_nil : PK X [] (tAs B X.K F Wx []) := PK.imp pk_nil fun σ H Q ⟨Fz, S, env, R, p⟩ => by
  rw [evArgs] at p
  exact p [] H Fz S [] R (Grow.refl _ _ _) (fun _ => Calm.refl _) .nil Fresh.nil
theorem pks_val {e : Expr} {nm : Option Str} {kpos : Pos} {kws : List Keyword} {ir : IE} {irs : List IE} (hk : ir.ark = .val) (h : SEx X B F Wx e ir) (hs : PK X kws (tAs B X.K F Wx irs)) : PK X (⟨nm, e, kpos⟩ :: kws) (tAs B X.K F Wx (ir :: irs)) := by
  refine PK.imp (pk_cons (h.se .val (by decide)) hs) fun σ H Q ⟨Fz, S, env, R, p⟩ => ?_
  refine ⟨Fz, S, env, R, ?_⟩
  have hq : IE.quiets (ir :: irs) = (IE.quiet ir && IE.quiets irs) := by rw [IE.quiets]
  rw [evArgs, hk] at p
  cases e1 : evX F ir .val env with
  | stuck => rw [e1] at p; exact False.elim p
  | exc c d e => rw [e1] at p; exact p
  | ok r =>
    obtain ⟨env1, w⟩ := r
    rw [e1] at p
    intro v H1 Fz1 S1 R1 g1 c1 ⟨T, rw1, fr1⟩
    cases ed : w.toD with
    | none =>
      simp only [Res.bind, ed, Res.of] at p
      exact False.elim p
    | some d =>
      obtain ⟨R2, g2⟩ := R1.sink g1 fr1 rw1.there
      refine ⟨_, S1, env1, R2, ?_⟩
      have p : PAs B X.K H Fz S σ (IE.quiets (ir :: irs)) Q Wx ((evArgs F irs env1).bind fun q => .ok (q.1, .val d :: q.2)) := by
        simpa only [Res.bind, ed, Res.of] using p
      cases e2 : evArgs F irs env1 with
      | stuck => rw [e2] at p; exact False.elim p
      | exc c d e => rw [e2] at p; exact fun H2 F2 S2 cls od R3 g3 x => p H2 F2 S2 cls od R3 (g2.trans g3) x
      | ok r2 =>
        obtain ⟨env2, as⟩ := r2
        rw [e2] at p
        intro vs H2 Fz2 S2 U R3 g3 c3 ra fr
        refine p (v :: vs) H2 Fz2 S2 U R3 (g2.trans g3) (fun z => ?_) (.val ((rw1.sunk ed).grow g3) ra) (fr.back g2.there)
        rw [hq, Bool.and_eq_true] at z
        exact (c1 z.1).trans (c3 z.2)
theorem RepAs.get {vs : List V} {as : List Arg} {U : List Addr} (r : RepAs K H Fz σ vs as U) : (as.map Arg.io).all (!·) = true → ∀ (i : Nat) (a : Arg), as[i]? = some a → ∃ v d, vs[i]? = some v ∧ a = .val d ∧ RepD K H Fz v d := by
  induction r with
  | nil => exact fun _ i a h => by simp at h
  | @val v d vs as U rd _ ih =>
    intro h i a e
    have h' : (as.map Arg.io).all (!·) = true := by simpa [Arg.io] using h
    cases i with
    | zero => exact ⟨v, d, rfl, by simpa using e.symm, rd⟩
    | succ i => exact ih h' i a (by simpa using e)
  | slot _ _ ih => exact fun h => by simp [Arg.io] at h
  | tmp _ _ ih => exact fun h => by simp [Arg.io] at h
theorem RepAs.perm {vs : List V} {as : List Arg} {U : List Addr} (r : RepAs K H Fz σ vs as U) (h : (as.map Arg.io).all (!·) = true) : ∀ {perm : List Nat} {as' : List Arg}, kwArgs perm as = some as' → ∃ vs', kwArgs perm vs = some vs' ∧ RepAs K H Fz σ vs' as' [] ∧ (as'.map Arg.io).all (!·) = true ∧ as'.length = perm.length
  | [], as', e => by
    simp [kwArgs] at e
    subst e
    exact ⟨[], by simp [kwArgs], .nil, rfl, rfl⟩
  | i :: perm, as', e => by
    unfold kwArgs at e ⊢
    rw [List.mapM_cons] at e ⊢
    cases e1 : as[i]? with
    | none => rw [e1] at e; simp at e
    | some a =>
      rw [e1] at e
      cases e2 : perm.mapM (fun i => as[i]?) with
      | none => rw [e2] at e; simp at e
      | some bs =>
        rw [e2] at e
        obtain ⟨v, d, hv, ea, rd⟩ := r.get h i a e1
        obtain ⟨us, hu, ru, hb, hl⟩ := RepAs.perm r h (perm := perm) (as' := bs) e2
        simp at e
        subst e
        refine ⟨v :: us, ?_, by subst ea; exact .val rd ru, by subst ea; simpa [Arg.io] using hb, by simpa using hl⟩
        rw [hv]
        have : perm.mapM (fun i => vs[i]?) = some us := hu
        rw [this]
        rfl
theorem kwG_rel (perm : List Nat) {vs : List V} {us : List Value} {zs : List V} {ws : List Value} (r : Vals vs us) (rz : Vals zs ws) : Vals (kwG perm vs zs) (kwG perm us ws) := by
  unfold kwG
  rw [r.length]
  split
  · have : ∀ perm : List Nat, (kwArgs perm zs = none ∧ kwArgs perm ws = none) ∨ ∃ a b, kwArgs perm zs = some a ∧ kwArgs perm ws = some b ∧ Vals a b := by
      intro perm
      induction perm with
      | nil => exact .inr ⟨[], [], by simp [kwArgs], by simp [kwArgs], .nil⟩
      | cons i perm ih =>
        unfold kwArgs at ih ⊢
        rw [List.mapM_cons, List.mapM_cons]
        have gt : (zs[i]? = none ∧ ws[i]? = none) ∨ ∃ x y, zs[i]? = some x ∧ ws[i]? = some y ∧ RelV x y := by
          clear ih
          induction rz generalizing i with
          | nil => exact .inl ⟨by simp, by simp⟩
          | @cons x y xs ys rv rvs ihh =>
            cases i with
            | zero => exact .inr ⟨x, y, rfl, rfl, rv⟩
            | succ i => simpa using ihh i
        rcases gt with ⟨e1, e2⟩ | ⟨x, y, e1, e2, rv⟩
        · exact .inl ⟨by rw [e1]; rfl, by rw [e2]; rfl⟩
        · rcases ih with ⟨e3, e4⟩ | ⟨a, b, e3, e4, rvs⟩
          · exact .inl ⟨by rw [e1, e3]; rfl, by rw [e2, e4]; rfl⟩
          · exact .inr ⟨x :: a, y :: b, by rw [e1, e3]; rfl, by rw [e2, e4]; rfl, .cons rv rvs⟩
    rcases this perm with ⟨e1, e2⟩ | ⟨a, b, e1, e2, r⟩
    · rw [e1, e2]; exact .nil
    · rw [e1, e2]; exact r
  · exact .nil
/-- f(k = v, ..) -/
theorem pe_callK0 {CX : CXT} {k : Nat} {f : Addr} {fd : FuncData} {ps ks : List Str} {sp : Sp} {E : L2.St → XK} {x : Str} {p pos : Pos} {kws : List Keyword} {tk : TA} {g : List Value → List Value → List Value} {gV : List V → List V → List V} (Fk : FnOk X.prog X.w X.K X.mg X.base CX k f fd ps sp) (hr : Room k X.A) (hg : Gl X x) (hm : X.mg x = some (.ref f)) (hk : PySem.W.keepIn X.K (.ref f) = true) (hb : KBinds X.K fd ps ks g gV) (hx : ∀ σ, PassesAt CX X σ (E σ))
    (hkw : PK X kws tk) (hall : (backToKw pos (keywordEach kws X.env)).all (·.1.isSome) = true) (hks : (backToKw pos (keywordEach kws X.env)).filterMap (·.1) = ks) (hdb : (x == ("__debug__" : Str)) = false)
    (hpl : ((backTo pos (starEach [] X.env)).any (·.1) || (backToKw pos (keywordEach kws X.env)).any (·.1.isNone)) = false) :
    PE X (.Call (.Name x p) [] kws pos) (fun σ H Q => tk σ H fun zs H2 => sp (gV [] zs) H2 Q (E σ)) := by
  refine ⟨fun pins s σ H Q I h => ?_⟩
  refine wpAny_Call_Name_kw (ld_glob I hg hm ?_ hdb)
  refine PySem.W.callWith_KW0 (h₀ := X.base) I.ok.mod.kin hk hall ?_ hpl
  refine thn (hkw.run pos pins s σ H _ I h) fun ws s2 ⟨zs, H2, I2, rz, q2⟩ => ⟨I2.kIn, ?_⟩
  rw [hks]
  have r2 : Vals (gV [] zs) (g [] ws) := hb.rel .nil rz
  have hl : (g [] ws).length = ps.length := by rw [← r2.length]; exact Fk.len _ _ _ _ q2
  refine wpAny_call (codeAny_mono (Fk.run X.A X.stack s2 H2 ⟨[], ks.zip ws⟩ (g [] ws) (gV [] zs) Q (E σ) hr I2.env0 (hb.to s2 [] ws I2.kIn hl) r2 q2) fun r s' hq => ?_)
  cases r with
  | error e => exact hx σ pins H2 s2 e s' I2 hq
  | ok fl =>
    cases fl with
    | ret u => exact I2.after hq
    | next => exact False.elim hq
    | brk => exact False.elim hq
    | cont => exact False.elim hq
theorem posOf_none : ∀ (n : Nat) (bs : List Bool), bs.all (!·) = true → posOf n bs = []
  | _, [], _ => rfl
  | n, b :: bs, h => by
    rw [List.all_cons, Bool.and_eq_true] at h
    cases b with
    | true => cases h.1
    | false => rw [posOf]; exact posOf_none _ bs h.2
theorem se_callk {f : Nat} {x : Str} {np : Nat} {ks : List Str} {perm : List Nat} {kws : List Keyword} {irs : List IE} {p pos : Pos} (tk : Takes X Wx) (fn : FnAtK X B F f x np ks perm) (hg : Gl X x) (hd : (x == ("__debug__" : Str)) = false) (ha : PK X kws (tAs B X.K F Wx irs))
    (hall : (backToKw pos (keywordEach kws X.env)).all (·.1.isSome) = true) (hks : (backToKw pos (keywordEach kws X.env)).filterMap (·.1) = ks) (hpl : ((backTo pos (starEach [] X.env)).any (·.1) || (backToKw pos (keywordEach kws X.env)).any (·.1.isNone)) = false)
    (hio : (irs.map IE.ioB).all (!·) = true) (hn : perm.length = np) : SEx X B F Wx (.Call (.Name x p) [] kws pos) (.callk f perm irs) := by
  obtain ⟨k, fa, fd, ps, ok, hr, hm, hk, hb⟩ := fn.ex
  have hp := pe_callK0 (E := WE Wx) (p := p) (pos := pos) ok hr hg hm hk hb (fun σ => passAt tk σ) ha hall hks hd hpl
  refine ⟨SE.core (core := fun env => (evArgs F irs env).bind fun r => (Res.of (kwArgs perm r.2)).bind fun as => callRes F f as r.1) (PE.imp hp fun σ H Q ⟨Fz, S, env, R, p⟩ => ?_) (fun m env hm => by cases m <;> simp only [evX]), fun _ _ => rfl⟩
  refine ⟨Fz, S, env, R, ?_⟩
  have eq : IE.quiet (.callk f perm irs) = IE.quiets irs := by rw [IE.quiet]
  dsimp only at p
  rw [eq] at p
  cases eA : evArgs F irs env with
  | stuck => rw [eA] at p; exact False.elim p
  | exc c d e => rw [eA] at p; exact p
  | ok r =>
    obtain ⟨env1, as⟩ := r
    rw [eA] at p
    intro vs H' Fz' S' U R' g c ra fr
    have kd := args_kinds eA
    cases ek : kwArgs perm as with
    | none => simp only [Res.bind, ek, Res.of] at p; exact False.elim p
    | some as' =>
      simp only [Res.bind, ek, Res.of] at p
      obtain ⟨vs', ev, ra', hb', hl'⟩ := ra.perm (by rw [kd]; exact hio) ek
      have e0 : kwG perm ([] : List V) vs = vs' := by simp [kwG, ev]
      rw [e0]
      exact call_ans R' g ra' Fresh.nil (posOf_none _ _ hb') (hl'.trans hn) (fun z => ⟨hb', c z⟩) p
end
end TA

set_option Elab.async false
set_option linter.all false
set_option maxRecDepth 100000
/-! TaTry0: several except clauses, each with a name or without (both proofs of the kit's Exc and TryMany put together). -/
namespace TA
open PySem PySem.Spec PyProof.Rows L2
def asD (o : Option Nat) (D : Ends) : Ends := match o with
  | none => D
  | some i => { nx := fun σ' H' => D.nx (σ'.set i none) H', rt := D.rt, bk := fun σ' H' => D.bk (σ'.set i none) H', ct := fun σ' H' => D.ct (σ'.set i none) H' }
def asS (o : Option Nat) (a : Addr) (σ : L2.St) : L2.St := match o with
  | none => σ
  | some i => σ.set i (some (.ref a))
structure Cl where
  c : Value
  as : Option Nat
  ts : Addr → Value → Option Addr → TS
/-- what the clauses wish of an exception of the body, one after the other -/
def wHs (K : PySem.W.Frag) (Wout : WX) (D : Ends) : List Cl → WX
  | [] => Wout
  | h :: r => fun cls d σ H => ∃ b, PySem.W.exmOne K cls h.c = some b ∧ (b = true → ∀ a, H a = none → h.ts a cls d (asD h.as D) (asS h.as a σ) H) ∧ (b = false → wHs K Wout D r cls d σ H)
abbrev SuOk (X : Cx) (suite : List Stmt) (ts : Addr → Value → Option Addr → TS) : Prop := ∀ (a : Addr) (oe : Obj) (cls : Value) (d : Option Addr) (pn : List (Addr × Obj)), Zc cls d oe → (∃ vs, oe.data = .fields vs) → PSs (X.suite a ((a, oe) :: pn)) suite (ts a cls d)
inductive ClsOk (X : Cx) : List ExceptHandler → List Cl → Prop
  | nil : ClsOk X [] []
  | cons {x : Str} {c : Value} {ts : Addr → Value → Option Addr → TS} {b₀ : Stmt} {suite : List Stmt} {np pos' : Pos} {hds : List ExceptHandler} {l : List Cl} (hc : Names X x c) (hsu : SuOk X (b₀ :: suite) ts) (r : ClsOk X hds l) :
      ClsOk X (.ExceptHandler (some (.Name x np)) none (b₀ :: suite) pos' :: hds) (⟨c, none, ts⟩ :: l)
  | as {x n : Str} {i : Nat} {c : Value} {ts : Addr → Value → Option Addr → TS} {b₀ : Stmt} {suite : List Stmt} {np pos' : Pos} {hds : List ExceptHandler} {l : List Cl} (hc : Names X x c) (hi : X.N[i]? = some n) (hln : X.env.kindOf n = some .local) (hsu : SuOk X (b₀ :: suite) ts) (r : ClsOk X hds l) :
      ClsOk X (.ExceptHandler (some (.Name x np)) (some n) (b₀ :: suite) pos' :: hds) (⟨c, some i, ts⟩ :: l)
section
variable {X : Cx} {body : List Stmt} {h₀ : ExceptHandler} {hds : List ExceptHandler} {l : List Cl} {pos : Pos} {tb : WX → TS} {Wout : WX}
theorem ps_try_hs (hs : X.stack = X.env :: X.outer) (hf : X.env.frame = some X.env.locals) (hN : X.N.Nodup) (tk : Takes X Wout)
    (hb : ∀ (W : WX) (pn : List (Addr × Obj)) (xe : Value → Shared → Prop), Takes (X.tr pn xe) W → PassesOwn (model X.prog X.w) X.A X.env xe → PSs (X.tr pn xe) body (tb W))
    (hh : ClsOk X (h₀ :: hds) l) : PS X (.Try body (h₀ :: hds) [] [] pos) (fun D σ H => tb (wHs X.K Wout D l) D σ H) := by
  refine ⟨fun pins s σ H D I h => ?_⟩
  have ok := I.ok
  have hfr : X.A.frames = some (X.env :: X.outer) := by rw [ok.frames, hs]
  refine wpAny_Try_except ?_
  refine wpAny_mono ((hb (wHs X.K Wout D l) (X.pn ++ pins) (fun e s₁ => wpAny (model X.prog X.w) X.A (noteFrame e X.env) (fun _ s₂ => wpAny (model X.prog X.w) X.A (setFlight e none) (fun _ s₃ =>
    wpAny (model X.prog X.w) X.A (handleBy e X.env (h₀ :: hds)) (SP X pins D) X.xe s₃) X.xe s₂) X.xe s₁) (fun u s' xx => ?_) PassesOwn.looking).run [] s σ H D (I.toTry _) h) (fun f s1 hsp => ?_) (fun e s1 he => he)
  · obtain ⟨a, B, sI, pins', σ', H', cls, d, rfl, J', nb, up, sky, na, os, ag, w⟩ := xx
    have J : Inv X pins σ' H' sI := J'.ofTry ok
    have sky' : Sky B (X.env :: X.outer) a (Zc cls d) X.env.locals s'.heap := by rw [← hs]; exact sky
    show wpAny (model X.prog X.w) X.A (noteFrame (.ref a) X.env) _ _ _
    refine Sky.land Zc.steady hfr hf sky' fun h3 fl3 up3 => ?_
    have J3 : Inv X pins σ' H' { s' with heap := h3 } := J.landed nb fl3.1 (up.trans up3) os ag
    obtain ⟨oe3, vs3, he3, hz3, hd3⟩ := fl3.there
    have notFr : ∀ {h : Heap} {o : Obj} {vs : Array Value}, h.FunFrames B (X.env :: X.outer) → h.get? a = some o → o.data = .fields vs → a ∉ frs (X.env :: X.outer) := fun {h o vs} ff e dd hm => by
      obtain ⟨_, o', e', hnf⟩ := ff.mem hm
      rw [e] at e'; cases e'
      exact hnf _ dd
    have nfr := notFr fl3.2.2.1 he3 hd3
    have nL : a ≠ X.env.locals := fun z => nfr (List.mem_filterMap.mpr ⟨X.env, List.mem_cons_self, by rw [hf, z]⟩)
    have nF : a ∉ X.fs := fun hm => by
      obtain ⟨e, he, q⟩ := List.mem_filterMap.mp hm
      exact nfr (List.mem_filterMap.mpr ⟨e, List.mem_cons_of_mem _ he, q⟩)
    have S3 := J3.suite he3 hd3 na nL nF
    have LT : PySem.W.Looks (model X.prog X.w) h3 (typeOf (.ref a)) cls := fun A Q E s k q => wpAny_typeOf_ref (k _ _ he3) (by rw [hz3.1]; exact q)
    have test : ∀ {x : Str} {c : Value} {np : Pos}, Names X x c → ∀ {Q : Value → Shared → Prop} {E : Value → Shared → Prop}, Q c { s' with heap := h3 } → wpAny (model X.prog X.w) (X.A.mark (some (.ref a))) (eval (.Name x np) X.env) Q E { s' with heap := h3 } := fun {x c np} hc {Q E} q => by
      obtain ⟨hg, hdbg, hm | ⟨hm, hv, hnn⟩⟩ := hc
      · exact ld_glob (X := X.suite a ((a, oe3) :: (X.pn ++ pins))) S3 hg hm q hdbg
      · exact ld_blt (X := X.suite a ((a, oe3) :: (X.pn ++ pins))) S3 hg hm hv q hnn hdbg
    have go : ∀ {hds' : List ExceptHandler} {l' : List Cl}, ClsOk X hds' l' → wHs X.K Wout D l' cls d σ' H' →
        wpAny (model X.prog X.w) X.A (handleBy (.ref a) X.env hds') (SP X pins D) X.xe { s' with heap := h3 } := by
      intro hds' l' hk
      induction hk with
      | nil =>
        intro w
        refine wpAny_handleBy_nil ?_
        obtain ⟨k1, k2, k3, oe, vs, T, oT, ts', he, hz, hd, h1, hr⟩ := id fl3
        unfold PySem.passOn
        refine wpAny_bind (wpAny_field he hd h1 ?_)
        rw [if_neg (show ¬ ((Value.ref T == Value.none) = true) from by simp)]
        have fin : wpAny (model X.prog X.w) X.A (setFlight (.ref a) X.env.frame) (fun _ s4 => wpAny (model X.prog X.w) X.A (throw (.ref a) : Sem Flow) (SP X pins D) X.xe s4) X.xe { s' with heap := h3 } := by
          rw [hf]
          refine HandSPX.setFlight_upZ fl3 fun h4 hh4 up4 => wpAny_throw (tk _ _ ?_)
          exact ⟨a, B, sI, pins, σ', H', cls, d, rfl, J, nb, (up.trans up3).trans up4, .inr (.inr (by rw [hs]; exact hh4)), na, os, ag, w⟩
        first
          | exact wpAny_bind (wpAny_pure (wpAny_bind fin))
          | exact wpAny_bind fin
      | @cons x c ts b₀ suite np pos' hds2 l2 hc hsu r ih =>
        intro w
        obtain ⟨b, hb1, hyes, hno⟩ := w
        refine wpAny_handleBy_cons (codeAny_handlers_test ?_) (by intro q; cases q)
        have LM := PySem.W.exm_one (M := model X.prog X.w) (J3.kIn) LT hb1
        refine test hc (LM.here ?_)
        cases b with
        | true =>
          refine codeAny_handlers_suite ?_
          refine HandSPX.lands_againZ fl3 fun h4 fl4 up4 => ?_
          have J4 : Inv X pins σ' H' { s' with heap := h4 } := J.landed nb fl4.1 ((up.trans up3).trans up4) os ag
          obtain ⟨oe4, vs4, he4, hz4, hd4⟩ := fl4.there
          have S4 := J4.suite he4 hd4 na nL nF
          refine wpAny_mono ((hsu a oe4 cls d (X.pn ++ pins) hz4 ⟨_, hd4⟩).run [] _ _ H' _ S4 (hyes rfl a na)) (fun f s6 hsp => ?_) (fun _ _ z => False.elim z)
          cases f with
          | next =>
            obtain ⟨σ6, H6, S6, q6⟩ := hsp
            exact ⟨_, _, S6.unsuite ok, q6⟩
          | brk =>
            obtain ⟨σ6, H6, S6, q6⟩ := hsp
            exact ⟨_, _, S6.unsuite ok, q6⟩
          | cont =>
            obtain ⟨σ6, H6, S6, q6⟩ := hsp
            exact ⟨_, _, S6.unsuite ok, q6⟩
          | ret u =>
            obtain ⟨v6, σ6, H6, S6, r6, q6⟩ := hsp
            exact ⟨_, _, _, S6.unsuite ok, r6, q6⟩
        | false =>
          show wpAny _ X.A (handleBy (.ref a) X.env hds2) _ _ _
          exact ih (hno rfl)
      | @as x n i c ts b₀ suite np pos' hds2 l2 hc hi hln hsu r ih =>
        intro w
        obtain ⟨b, hb1, hyes, hno⟩ := w
        have hloc : Loc X.env.scope n := .inl hln
        refine wpAny_handleBy_cons (codeAny_handlers_test ?_) (by intro q; cases q)
        have LM := PySem.W.exm_one (M := model X.prog X.w) (J3.kIn) LT hb1
        refine test hc (LM.here ?_)
        cases b with
        | true =>
          refine codeAny_handlers_suite_as ?_
          refine HandSPX.lands_againZ fl3 fun h4 fl4 up4 => ?_
          have J4 : Inv X pins σ' H' { s' with heap := h4 } := J.landed nb fl4.1 ((up.trans up3).trans up4) os ag
          obtain ⟨oe4, vs4, he4, hz4, hd4⟩ := fl4.there
          have S4 := J4.suite he4 hd4 na nL nF
          refine store_ok (X := X.suite a ((a, oe4) :: (X.pn ++ pins))) (v := .ref a) S4 hN hi hloc rfl (fun s5 S5 => ?_) (.inr hln)
          refine wpAny_mono ((hsu a oe4 cls d (X.pn ++ pins) hz4 ⟨_, hd4⟩).run [] s5 _ H' _ S5 (hyes rfl a na)) (fun f s6 hsp => ?_) (fun _ _ z => False.elim z)
          have end_ : ∀ {σ6 : L2.St} {H6 : Hp} {Q : Shared → Prop}, Inv (X.suite a ((a, oe4) :: (X.pn ++ pins))) [] σ6 H6 s6 → (∀ s7, Inv X pins (σ6.set i none) H6 s7 → Q s7) →
              wpAny (model X.prog X.w) X.A (do bindName X.env n .none; unbindBehindTheSuite X.env n pos') (fun _ s7 => Q s7) X.xe s6 := fun {σ6 H6 Q} S6 hq => gone_ok (S6.unsuite ok) hN hi hln hq
          cases f with
          | next =>
            obtain ⟨σ6, H6, S6, q6⟩ := hsp
            exact end_ S6 fun s7 J7 => ⟨_, _, J7, q6⟩
          | brk =>
            obtain ⟨σ6, H6, S6, q6⟩ := hsp
            exact end_ S6 fun s7 J7 => ⟨_, _, J7, q6⟩
          | cont =>
            obtain ⟨σ6, H6, S6, q6⟩ := hsp
            exact end_ S6 fun s7 J7 => ⟨_, _, J7, q6⟩
          | ret u =>
            obtain ⟨v6, σ6, H6, S6, r6, q6⟩ := hsp
            exact end_ S6 fun s7 J7 => ⟨_, _, _, J7, r6, q6⟩
        | false =>
          show wpAny _ X.A (handleBy (.ref a) X.env hds2) _ _ _
          exact ih (hno rfl)
    exact go hh w
  · cases f with
    | next =>
      obtain ⟨σ', H', J', q⟩ := hsp
      exact wpAny_execs_nil ⟨σ', H', J'.ofTry ok, q⟩
    | brk =>
      obtain ⟨σ', H', J', q⟩ := hsp
      exact ⟨σ', H', J'.ofTry ok, q⟩
    | cont =>
      obtain ⟨σ', H', J', q⟩ := hsp
      exact ⟨σ', H', J'.ofTry ok, q⟩
    | ret u =>
      obtain ⟨v, σ', H', J', r, q⟩ := hsp
      exact ⟨v, σ', H', J'.ofTry ok, r, q⟩
end
end TA

set_option Elab.async false
set_option linter.all false
set_option maxRecDepth 100000
/-! TaTry: try. -/
namespace TA
open PySem PySem.Spec PyProof.Rows L2
/-- except C as e: told = ('..', e.fld) -/
inductive HdOk (X : Cx) (B : Tb) (sub : Subs) (ios : List Nat) : ExceptHandler → (Nat × Option Nat × HS) → Prop
  | setT {k ie i : Nat} {xc n told z fld : Str} {np pn pz pt pa pe pos pos' : Pos} {j kt : Nat} (hio1 : ios.contains ie = false) (hio2 : ios.contains i = false) (hc : Names X xc (.ref (B.CA k))) (hi : X.N[ie]? = some n) (hln : X.env.kindOf n = some .local) (hd : (n == ("__debug__" : Str)) = false) (hcd : (n == ("__classdict__" : Str)) = false)
      (ht : Nam X i told) (T : XfC X.K (B.CA k)) (hno : PySem.W.findIn X.K (.ref (B.CA k)) fld = some none) (hA : B.AT k = fld) (hone : ∀ c, sub c k = true → c = k) (hex : ∀ c, PySem.W.exmOne X.K (.ref (B.CA c)) (.ref (B.CA k)) = some (sub c k))
      (hsw : swapsWith (.Tuple [.Constant (.str z) j pz, .Attribute (.Name n pe) fld pa] kt pt) (some (.Name told pn)) pos.line X.env = pure false) :
      HdOk X B sub ios (.ExceptHandler (some (.Name xc np)) (some n) [.Assign [.Name told pn] (.Tuple [.Constant (.str z) j pz, .Attribute (.Name n pe) fld pa] kt pt) pos] pos') (k, some ie, .setT i [.lit (.str z), .fld])
inductive HdsOk (X : Cx) (B : Tb) (sub : Subs) (ios : List Nat) : List ExceptHandler → List (Nat × Option Nat × HS) → Prop
  | nil : HdsOk X B sub ios [] []
  | cons {h : ExceptHandler} {hs : List ExceptHandler} {i : Nat × Option Nat × HS} {is : List (Nat × Option Nat × HS)} : HdOk X B sub ios h i → HdsOk X B sub ios hs is → HdsOk X B sub ios (h :: hs) (i :: is)
section
variable {X : Cx} {B : Tb} {K : PySem.W.Frag} {F : Nat → List W → FRes} {sub : Subs} {fu : Nat} {ios : List Nat} {Wx : WX} {H H' H0 H1 : Hp} {Fz Fz' Fz1 Fz0 : Addr → Prop} {S S' S1 S0 : Own} {σ : L2.St} {m : Md} {q q' : Bool} {Q Q' : VK} {env : Env} {D : Ends}
theorem Rel.asU (R : Rel K H Fz S σ env) (i : Nat) (x : Option V) : Rel K H Fz S (σ.set i x) (env.set i none) where
  well := R.well
  len := by rw [List.length_set, List.length_set]; exact R.len
  rep := fun j w' h => by
    by_cases e : j = i
    · subst e
      rw [List.getElem?_set] at h
      split at h
      · split at h <;> cases h
      · exact absurd rfl ‹_›
    · rw [List.getElem?_set_ne (Ne.symm e)] at h
      obtain ⟨v, e', r⟩ := R.rep j w' h
      exact ⟨v, by rw [List.getElem?_set_ne (Ne.symm e)]; exact e', r⟩
/-- what the suite is handed -/
def tsH (B : Tb) (K : PySem.W.Frag) (sub : Subs) (ios : List Nat) (k ie : Nat) (hs : HS) (a : Addr) (cls : Value) (d : Option Addr) : TS := fun D σ H =>
  ∃ Fz S env c dd, Rel K H Fz S σ env ∧ ExcAt B K H Fz c dd cls d ∧ sub c k = true ∧ σ[ie]? = some (some (.ref a)) ∧ PSt B K H Fz S σ ios D WF (hs.run sub c dd env)
/-- the clauses, as the evaluator tries them -/
def wCat (B : Tb) (K : PySem.W.Frag) (sub : Subs) (ios : List Nat) (Wout : WX) (D : Ends) (hs : List (Nat × Option Nat × HS)) : WX := fun cls d σ H =>
  ∃ Fz S env c dd, Rel K H Fz S σ env ∧ ExcAt B K H Fz c dd cls d ∧ PSt B K H Fz S σ ios D Wout (catchL sub c dd env hs)
theorem su_setT {i ie k : Nat} {n told z fld : Str} {pn pz pt pa pe pos : Pos} {j kt : Nat} (hio2 : ios.contains i = false) (hN : X.N.Nodup) (hi : X.N[ie]? = some n) (hln : X.env.kindOf n = some .local) (hd : (n == ("__debug__" : Str)) = false) (hcd : (n == ("__classdict__" : Str)) = false)
    (ht : Nam X i told) (T : XfC X.K (B.CA k)) (hno : PySem.W.findIn X.K (.ref (B.CA k)) fld = some none) (hA : B.AT k = fld) (hone : ∀ c, sub c k = true → c = k)
    (hsw : swapsWith (.Tuple [.Constant (.str z) j pz, .Attribute (.Name n pe) fld pa] kt pt) (some (.Name told pn)) pos.line X.env = pure false) :
    SuOk X [.Assign [.Name told pn] (.Tuple [.Constant (.str z) j pz, .Attribute (.Name n pe) fld pa] kt pt) pos] (tsH B X.K sub ios k ie (.setT i [.lit (.str z), .fld])) := by
  intro a oe cls d pn' hz hf
  have hv : Vis X.env.scope n := .inl hln
  have pv : PE (X.suite a ((a, oe) :: pn')) (.Name n pe) (tVar ie) := pe_var (X := X.suite a ((a, oe) :: pn')) hi hv hd hcd
  have px := pe_xf (pos := pa) T hno hz hf pv (by rfl)
  have pt' := pe_tup (X := X.suite a ((a, oe) :: pn')) (x1 := kt) (pos := pt) (pa_cons (pe_str (x := z) (j := j) (pos := pz)) (pa_cons px pa_nil rfl) rfl)
  have ps := ps_set (X := X.suite a ((a, oe) :: pn')) (pos := pos) hN ht.at_ ht.loc pt' hsw ht.fn
  refine PSs.imp (pss_cons ps pss_nil) fun D σ H ⟨Fz, S, env, c, dd, R, ⟨ecls, dx, v, ed, hx, rd⟩, hs, hσ, p⟩ => ?_
  have ec := hone c hs
  subst ec
  show (tAsg _ _) _ σ H
  refine ⟨.ref a, hσ, rfl, ecls, dx, _, v, ed, hx, ?_, ?_⟩
  · rw [← hA]
    simp
  · show ([V.str z, v] : List V).length ≤ sizeLine ∧ _
    refine ⟨by rw [sizeLine_eq]; show 2 ≤ 16777216; decide, fun pp hp => ?_⟩
    obtain ⟨R1, g1, c1⟩ := R.new (.tup [.str z, v]) hp
    have R2 := R1.frozen (fun a => a = pp) fun a e => by
      subst e
      exact ⟨by rw [upd_same]; simp, fun i z => (R.well.own i a z).1 hp⟩
    have g2 : Grow H Fz S (upd H pp (.tup [.str z, v])) (fun b => Fz b ∨ b = pp) S := g1.frozen _ fun a e => .inl (by rw [e]; exact hp)
    have rt : RepD X.K (upd H pp (.tup [.str z, v])) (fun b => Fz b ∨ b = pp) (.ref pp) (.tuple [.str z, dd]) := .tup (.inl (.of upd_same)) (.cons (.str z) (.cons (rd.grow g2) .nil))
    obtain ⟨R3, g3⟩ := R2.asgN g2 (i := i) (RepW.val rt) Fresh.nil
    exact p _ _ _ _ (Kp.refl.set hio2) R3 g3
theorem hd_cl (hN : X.N.Nodup) {eh : ExceptHandler} {i : Nat × Option Nat × HS} (h : HdOk X B sub ios eh i) : ∃ cl : Cl, (∀ hds l, ClsOk X hds l → ClsOk X (eh :: hds) (cl :: l)) ∧ (∀ c, PySem.W.exmOne X.K (.ref (B.CA c)) cl.c = some (sub c i.1)) ∧
    ∀ (Wout : WX) (D : Ends) (cls : Value) (d : Option Addr) (σ : L2.St) (H : Hp) (Fz : Addr → Prop) (S : Own) (env : Env) (c : Nat) (dd : TA.D), Rel X.K H Fz S σ env → ExcAt B X.K H Fz c dd cls d → sub c i.1 = true →
      PSt B X.K H Fz S σ ios D Wout (if asOk env i.2.1 then (i.2.2.run sub c dd (wipeO env i.2.1)).wipe i.2.1 else .stuck) → ∀ a, H a = none → cl.ts a cls d (asD cl.as D) (asS cl.as a σ) H := by
  cases h with
  | @setT k ie i xc n told z fld np pn pz pt pa pe pos pos' j kt hio1 hio2 hc hi hln hd hcd ht T hno hA hone hex hsw =>
    refine ⟨⟨.ref (B.CA k), some ie, tsH B X.K sub ios k ie (.setT i [.lit (.str z), .fld])⟩, fun hds l h1 => .as hc hi hln (su_setT (ios := ios) hio2 hN hi hln hd hcd ht T hno hA hone hsw) h1, hex, ?_⟩
    intro Wout D cls d σ H Fz S env c dd R x hs p a na
    split at p
    · rename_i hok
      have lt : ie < σ.length := by rw [← R.len]; exact of_decide_eq_true hok
      refine ⟨Fz, S, env.set ie none, c, dd, R.asU ie _, x, hs, List.getElem?_set_self lt, ?_⟩
      intro σ' H' Fz' S' k' R' g'
      exact p _ H' Fz' S' (((Kp.refl.set hio1).trans k').set hio1) (R'.asU ie none) g'
    · exact False.elim p
theorem hds_cls {Wout : WX} (hN : X.N.Nodup) {hds : List ExceptHandler} {hs : List (Nat × Option Nat × HS)} (hh : HdsOk X B sub ios hds hs) : ∃ l, ClsOk X hds l ∧ ∀ D cls d σ H, wCat B X.K sub ios Wout D hs cls d σ H → wHs X.K Wout D l cls d σ H := by
  induction hh with
  | nil => exact ⟨[], .nil, fun D cls d σ H ⟨Fz, S, env, c, dd, R, x, p⟩ => p σ H Fz S cls d Kp.refl R (Grow.refl _ _ _) x⟩
  | @cons eh hds i is h hs ih =>
    obtain ⟨l, h1, h2⟩ := ih
    obtain ⟨cl, k1, k2, k3⟩ := hd_cl (ios := ios) hN h
    refine ⟨cl :: l, k1 _ _ h1, ?_⟩
    rintro D cls d σ H ⟨Fz, S, env, c, dd, R, x, p⟩
    rw [catchL] at p
    refine ⟨sub c i.1, by rw [x.1]; exact k2 c, fun hs a na => ?_, fun hs => ?_⟩
    · rw [hs, if_pos rfl] at p
      exact k3 Wout D cls d σ H Fz S env c dd R x hs p a na
    · rw [hs, if_neg Bool.false_ne_true] at p
      exact h2 D cls d σ H ⟨Fz, S, env, c, dd, R, x, p⟩
theorem ss_try {body : List Stmt} {sb : List IS} {h₀ : ExceptHandler} {hds : List ExceptHandler} {hs : List (Nat × Option Nat × HS)} {pos : Pos} (hst : X.stack = X.env :: X.outer) (hf : X.env.frame = some X.env.locals) (hN : X.N.Nodup) (tk : Takes X Wx)
    (hb : ∀ (W : WX) (pn : List (Addr × Obj)) (xe : Value → Shared → Prop), Takes (X.tr pn xe) W → PassesOwn (model X.prog X.w) X.A X.env xe → PSs (X.tr pn xe) body (tSs B X.K F sub fu ios W sb))
    (hh : HdsOk X B sub ios (h₀ :: hds) hs) : PS X (.Try body (h₀ :: hds) [] [] pos) (tSt B X.K F sub fu ios Wx (.tryS sb hs)) := by
  obtain ⟨l, h1, h2⟩ := hds_cls (ios := ios) (Wout := Wx) hN hh
  refine PS.imp (ps_try_hs (tb := fun W => tSs B X.K F sub fu ios W sb) hst hf hN tk hb h1) fun D σ H ⟨Fz, S, env, R, p⟩ => ⟨Fz, S, env, R, ?_⟩
  rw [evS] at p
  cases ev : evSs F sub fu ios sb env with
  | stuck => rw [ev] at p; exact p
  | next e => rw [ev] at p; exact p
  | brk e => rw [ev] at p; exact p
  | cont e => rw [ev] at p; exact p
  | ret w e => rw [ev] at p; exact p
  | exc c d e =>
    rw [ev] at p
    intro σ' H' Fz' S' cls od k' R' g' x
    exact h2 D cls od σ' H' ⟨Fz', S', e, c, d, R', x, PSt.shift k' g' p⟩
end
end TA

set_option Elab.async false
set_option linter.all false
set_option maxRecDepth 100000
set_option maxHeartbeats 2000000
/-! TaSet0: set comprehensions of ints and texts (the kit's proof for truth values, turned to sets of keys). -/
namespace TA
open PySem PySem.Spec PyProof.Rows L2 PpSet
section
variable {X : Cx}
/-- {elt for target in iter if ..}, elt an int or a text: D the new set -/
def tSk (P : Program) (w : World) (wi : TI) (g : TG) (tt : TT) (te : TE) (vs : List Nat) : TE := fun σ H Q => wi σ H fun J H1 => ∀ D, H1 D = none → ∃ W : Nat → Nat → Hp → Prop, (∃ m, W 0 m (upd H1 D (SetK P w D (fun _ => false) 0))) ∧ ∀ i m H, W i m H →
  (J.stop i H ∧ Q (.ref D) H) ∨ (J.go i H ∧ ∃ Nx : Hp → Prop, (∀ H', Nx H' → ∃ m', m' < m ∧ W (i + 1) m' H') ∧ ∀ x H', J.yld i H x H' → g x (wipe σ vs) H' fun σ2 H2 => wipe σ2 vs = wipe σ vs ∧ tt σ2 H2 fun b H3 =>
    if b = true then te σ2 H3 fun y H4 => ∃ (k : Key) (S : Key → Bool) (n : Nat), y = kV k ∧ H4 D = some (SetK P w D S n) ∧ n + 1 < scanBound ∧ Nx (upd H4 D (SetK P w D (fun j => S j || decide (j = k)) (if S k = true then n else n + 1))) else Nx H3)
theorem sk_core {pins : List (Addr × Obj)} {s : Shared} {σ : L2.St} {H : Hp} {Q : VK} {elt tg iter : Expr} {ifs : List Expr} {scope : Scope} {own : List (PySem.Str × Nat)} {pos pos' : Pos} {wi : TI} {g : TG} {tt : TT} {te : TE} {use : Option (Value → Sem Unit)} {Qf : Value → Shared → Prop}
    (hc : X.calm = true) (hN : X.N.Nodup) (I : Inv X pins σ H s) (hi : PI X tg iter wi) (ok : BlkOk X.N X.env.scope scope own)
    (hg : ∀ (s : Shared) (H : Hp) (C : Addr) (cl : List (PySem.Str × Addr)) (fp : List Addr), PG (X.blk s H scope (compEnvC scope cl C X.env) fp) tg g) (ht : ∀ (s : Shared) (H : Hp) (C : Addr) (cl : List (PySem.Str × Addr)) (fp : List Addr), PTs (X.blk s H scope (compEnvC scope cl C X.env) fp) ifs tt)
    (he : ∀ (s : Shared) (H : Hp) (C : Addr) (cl : List (PySem.Str × Addr)) (fp : List Addr), PE (X.blk s H scope (compEnvC scope cl C X.env) fp) elt te) (hs : ∀ x, foldedSetIterable iter X.env x = pure x)
    (h : tSk X.prog X.w wi g tt te (own.map (·.2)) σ H Q)
    (hRR : ∀ D C s' m H', Inv X pins σ H' s' → Q (.ref D) H' → s'.heap.Ns C m → FpOk X pins H' C → compPost (model X.prog X.w) X.A X.xe use Qf (.ref D) C (.ok .next) s') :
    wpAny (model X.prog X.w) X.A (comprehension (.SetComp elt [⟨tg, iter, ifs, 0⟩] scope pos) scope X.env pos' (newSet (.type "set")) false (eval iter X.env) use) Qf X.xe s := by
  have hfree : ∀ y ∈ scope.names, y.2 = .free → ∃ c, X.env.cells.lookup y.1 = some c := fun y hy e => by
    rcases ok.free y hy e with k | k
    · exact I.ok.has _ (.inl k)
    · exact I.ok.has _ (.inr k)
  refine wpAny_comprehension_free (use := use) rfl hs (closure_ok hfree) ok.kind (fun y hy e => by rw [ok.uniq y hy, e])
    (thn (hi.run pins s σ H _ I h) fun xv s1 hx => thn hx fun itv s2 h2 => ?_)
  obtain ⟨it, fp, tn, J, H2, e, I2, T, st2, f2, q⟩ := h2
  subst e
  refine newSet_ok (newEnv_comp ?_)
  generalize hD : s2.heap.objs.size = D
  have hDn : H2 D = none := I2.hok.fresh (Nat.le_of_eq hD)
  obtain ⟨W, ⟨m0, w0⟩, turn⟩ := q D hDn
  -- the new list
  generalize hs3 : ({ s2 with heap := s2.heap.push { cls := .type "set", dict := none, data := .set #[] 0 (.fresh 0 0 (!X.w.params.followText "set-order")) } } : Shared) = s3
  have I3 : Inv X pins σ (upd H2 D (SetK X.prog X.w D (fun _ => false) 0)) s3 := by
    rw [← hs3]
    refine I2.laid (t' := s2.toks) (fun b o e => Heap.get?_push_of_some _ e) (Nat.le_of_eq hD) ?_
    rw [← hD]
    exact setK_new ⟨_, #[], 0, _, Heap.get?_push_size _ rfl, ⟨rfl, rfl, rfl⟩, rfl, (fun e he => by simp at he), (fun k => by simp), (by decide), (by rfl), rfl⟩
  have h3 : s3.heap = s2.heap.push { cls := .type "set", dict := none, data := .set #[] 0 (.fresh 0 0 (!X.w.params.followText "set-order")) } := by rw [← hs3]
  have sz : ∀ b ∈ fp, b < s2.heap.objs.size := fun b hb => by
    obtain ⟨o, e, _⟩ := T.obj _ _ st2 b hb
    exact Heap.lt_size e
  have f3 : ∀ b ∈ fp, FpOk X pins (upd H2 D (SetK X.prog X.w D (fun _ => false) 0)) b ∧ b < s3.heap.objs.size := fun b hb => by
    have hlt := sz b hb
    refine ⟨⟨?_, (f2 b hb).2⟩, by rw [h3, Heap.size_push]; exact Nat.lt_succ_of_lt hlt⟩
    rw [upd_ne (by rw [← hD]; exact Nat.ne_of_lt hlt)]
    exact (f2 b hb).1
  have st3 : tn 0 s3.heap := T.keep _ _ _ st2 fun b _ o e => by rw [h3]; exact Heap.get?_push_of_some _ e
  have I4 := block_start I3 ok hN f3
  have pg := hg s3 (upd H2 D (SetK X.prog X.w D (fun _ => false) 0)) s3.heap.objs.size (cellsFrom (s3.heap.objs.size + 1) scope.names (cloFrom X.env.cells scope.names [])) fp
  have pt := ht s3 (upd H2 D (SetK X.prog X.w D (fun _ => false) 0)) s3.heap.objs.size (cellsFrom (s3.heap.objs.size + 1) scope.names (cloFrom X.env.cells scope.names [])) fp
  have pe := he s3 (upd H2 D (SetK X.prog X.w D (fun _ => false) 0)) s3.heap.objs.size (cellsFrom (s3.heap.objs.size + 1) scope.names (cloFrom X.env.cells scope.names [])) fp
  show codeAny _ _ (.compStart (.SetComp elt [⟨tg, iter, ifs, 0⟩] scope pos) 0 (.ref it) (.ref D) (compEnvC scope (cellsFrom (s3.heap.objs.size + 1) scope.names (cloFrom X.env.cells scope.names [])) s3.heap.objs.size X.env)) (compPost (model X.prog X.w) X.A X.xe use Qf (.ref D) s3.heap.objs.size) { s3 with heap := pushCells (s3.heap.push { cls := .type "dict", data := .dict #[] }) scope.names }
  have nfp : ∀ b ∈ fp, (upd H2 D (SetK X.prog X.w D (fun _ => false) 0)) b = none := fun b hb => (f3 b hb).1.1
  generalize hce : compEnvC scope (cellsFrom (s3.heap.objs.size + 1) scope.names (cloFrom X.env.cells scope.names [])) s3.heap.objs.size X.env = ce at I4 pg pt pe ⊢
  have cL : ce.locals = s3.heap.objs.size := by subst hce; rfl
  generalize hH3 : upd H2 D (SetK X.prog X.w D (fun _ => false) 0) = H3 at I3 I4 pg pt pe w0 nfp f3
  generalize hs4 : ({ s3 with heap := pushCells (s3.heap.push { cls := .type "dict", data := .dict #[] }) scope.names } : Shared) = s4 at I4 ⊢
  have st4 : tn 0 s4.heap := T.keep _ _ _ st3 fun b _ o e => by rw [← hs4]; exact pushCells_keeps _ _ _ _ (Heap.get?_push_of_some _ e)
  have stat : ∀ {σ' : L2.St} {H' : Hp} {s' : Shared}, Inv (X.blk s3 H3 scope ce fp) [] σ' H' s' → (∀ b ∈ fp, H' b = none) → ∀ b ∈ fp, FpOk (X.blk s3 H3 scope ce fp) [] H' b := fun {σ' H' s'} I' hn b hb =>
    ⟨hn b hb, (I'.ok.exf b hb).1, I'.ok.exfs b hb, .inl hb, fun x c e => (I'.ok.exf b hb).2 x c e, fun p hp => absurd (show p ∈ ([] : List (Addr × Obj)) ++ [] from hp) (by simp)⟩
  have loop : codeAny (model X.prog X.w) X.A (.compLoop (.SetComp elt [⟨tg, iter, ifs, 0⟩] scope pos) 0 (.ref it) (.ref D) ce) (compPost (model X.prog X.w) X.A X.xe use Qf (.ref D) s3.heap.objs.size) s4 := by
    refine compLoopS_any (fun n s' => ∃ i H', Inv (X.blk s3 H3 scope ce fp) [] (wipe σ (own.map (·.2))) H' s' ∧ tn i s'.heap ∧ (∀ b ∈ fp, H' b = none) ∧ W i n H') ?_ m0 ⟨0, H3, I4, st4, nfp, w0⟩
    rintro n s5 ⟨i, H5, I5, st5, n5, w5⟩
    rcases turn i n H5 w5 with ⟨stop, qq⟩ | ⟨go, Nx, hNx, step⟩
    · have td := T.done (X.blk s3 H3 scope ce fp) rfl rfl rfl hc i [] s5 _ H5 (fun _ _ => False) I5 (stat I5 n5) st5 stop
      refine thnF td fun r s6 ⟨hr, I6⟩ => ?_
      subst hr
      -- back in the def's context
      have I7 : Inv X pins σ H5 s6 := I3.call' (ch := fp) I6.os I6.base I6.hok I6.bare fun b hb => ⟨(f3 b hb).1.2.2.2.1, (f3 b hb).1.2.1, (f3 b hb).1.2.2.2.2.1, (f3 b hb).1.2.2.2.2.2⟩
      have nC : H5 s3.heap.objs.size = none := by
        have z : H5 ce.locals = none := I6.free
        rw [cL] at z
        exact z
      obtain ⟨m, hn, _⟩ := I6.loc
      have hn : s6.heap.Ns ce.locals m := hn
      rw [cL] at hn
      exact hRR D s3.heap.objs.size s6 m H5 I7 qq hn (I3.fpOk (Nat.le_refl _) nC)
    · have ti := T.item (X.blk s3 H3 scope ce fp) rfl rfl rfl hc i [] s5 _ H5 (fun _ _ => False) I5 (stat I5 n5) st5 go
      refine thnF ti fun r s6 ⟨u, hr, h6⟩ => ?_
      subst hr
      refine thnF h6 fun _ s7 ⟨x, H7, I7, r7, y7, st7, n7⟩ => ?_
      have I7' := I7.pinned (stat I7 n7) (T.obj _ _ st7)
      refine thnF (pg.run _ s7 _ H7 x u _ I7' r7 (step x H7 y7)) fun _ s8 ⟨σ8, H8, I8, hw8, q8⟩ => ?_
      refine thnF (pt.run _ s8 σ8 H8 _ I8 q8) fun b s9 ⟨H9, I9, q9⟩ => ?_
      -- the turn's end
      have fin : ∀ {s' : Shared} {H' : Hp}, Inv (X.blk s3 H3 scope ce fp) ([] ++ pinsAt fp s7.heap) σ8 H' s' → Nx H' → ∃ m, m < n ∧ ∃ i H', Inv (X.blk s3 H3 scope ce fp) [] (wipe σ (own.map (·.2))) H' s' ∧ tn i s'.heap ∧ (∀ b ∈ fp, H' b = none) ∧ W i m H' := fun {s' H'} I' nx => by
        obtain ⟨m', hm, w'⟩ := hNx H' nx
        have pin' : ∀ b ∈ fp, ∀ o, s7.heap.get? b = some o → s'.heap.get? b = some o ∧ H' b = none := fun b hb o e =>
          let z := I'.pin (b, o) (List.mem_append_right _ (List.mem_append_right _ (mem_pinsAt hb e)))
          ⟨z.1, z.2.1⟩
        have hl : (wipe σ (own.map (·.2))).length = σ8.length := by rw [← hw8, wipe_length]
        refine ⟨m', hm, i + 1, H', (I'.unpinned (pins := [])).weak hl (fun j v e => ?_), T.keep _ _ _ st7 fun b hb o e => (pin' b hb o e).1, fun b hb => ?_, w'⟩
        · rw [← hw8] at e
          exact (wipe_some e).1
        · obtain ⟨o, e, _⟩ := T.obj _ _ st7 b hb
          exact (pin' b hb o e).2
      cases b with
      | false =>
        simp only [Bool.false_eq_true, if_false] at q9 ⊢
        exact fin I9 q9
      | true =>
        simp only [if_true] at q9 ⊢
        refine thnF (pe.run _ s9 σ8 H9 _ I9 q9) fun z s10 ⟨yv, H10, I10, r10, cb, S0, n0, ey, hD10, hz10, nx⟩ => ?_
        subst ey
        refine wpAny_mono (mt_saddK (X := X.blk s3 H3 scope ce fp) _ s10 σ8 H10 (.ref D) [kV cb] (.ref D) [z] (fun _ H' => Nx H') I10 rfl (.cons r10 .nil) ⟨D, cb, S0, n0, rfl, rfl, hD10, hz10, nx⟩) (fun v s11 ⟨y11, H11, I11, _, q11⟩ => fin I11 q11) fun _ _ z => z.elim
  exact codeAny_compStart_set loop (T.self X.A 0 _ _ _ st4 loop)
/-- as a value -/
theorem pe_sk {elt tg iter : Expr} {ifs : List Expr} {scope : Scope} {own : List (PySem.Str × Nat)} {pos : Pos} {wi : TI} {g : TG} {tt : TT} {te : TE} (hc : X.calm = true) (hN : X.N.Nodup) (hi : PI X tg iter wi) (ok : BlkOk X.N X.env.scope scope own)
    (hg : ∀ (s : Shared) (H : Hp) (C : Addr) (cl : List (PySem.Str × Addr)) (fp : List Addr), PG (X.blk s H scope (compEnvC scope cl C X.env) fp) tg g) (ht : ∀ (s : Shared) (H : Hp) (C : Addr) (cl : List (PySem.Str × Addr)) (fp : List Addr), PTs (X.blk s H scope (compEnvC scope cl C X.env) fp) ifs tt)
    (he : ∀ (s : Shared) (H : Hp) (C : Addr) (cl : List (PySem.Str × Addr)) (fp : List Addr), PE (X.blk s H scope (compEnvC scope cl C X.env) fp) elt te) (hs : ∀ x, foldedSetIterable iter X.env x = pure x := by intro _; rfl) :
    PE X (.SetComp elt [⟨tg, iter, ifs, 0⟩] scope pos) (tSk X.prog X.w wi g tt te (own.map (·.2))) := by
  refine ⟨fun pins s σ H Q I h => ?_⟩
  rw [eval_SetComp]
  refine sk_core hc hN I hi ok hg ht he hs h fun D C s' m H' I' q hn f => ⟨m, hn, fun h'' sb => ?_⟩
  obtain ⟨f0, f1, f2, f3, f4, f5⟩ := f
  exact ⟨.ref D, H', I'.turned (t' := s'.toks) (fun b o hb e => (sb.2 b hb).trans e) f0 f1 f3 f4 f5, rfl, q⟩
end
end TA

set_option Elab.async false
set_option linter.all false
set_option maxRecDepth 100000
/-! TaSet: set comprehensions of ints and texts, their size. -/
namespace TA
open PySem PySem.Spec PyProof.Rows L2 PpSet
section
variable {X : Cx} {B : Tb} {K : PySem.W.Frag} {F : Nat → List W → FRes} {sub : Subs} {fu : Nat} {ios : List Nat} {Wx : WX} {H H' H0 H1 : Hp} {Fz Fz' Fz1 Fz0 : Addr → Prop} {S S' S1 S0 : Own} {σ : L2.St} {m : Md} {q q' : Bool} {Q Q' : VK} {env env' : Env} {D : Ends}
/-- name = {..} on one line, the name a local -/
theorem ps_setSk {i : Nat} {y : Str} {py : Pos} {elt tg iter : Expr} {ifs : List Expr} {scope : Scope} {own : List (Str × Nat)} {pos spos : Pos} {wi : TI} {g : TG} {tt : TT} {te : TE} (hc : X.calm = true) (hN : X.N.Nodup) (hy : X.N[i]? = some y) (hyl : X.env.scope.names.lookup y = some .local)
    (hsw : swapsWith (.SetComp elt [⟨tg, iter, ifs, 0⟩] scope pos) (some (.Name y py)) spos.line X.env = pure true) (hi : PI X tg iter wi) (ok : BlkOk X.N X.env.scope scope own)
    (hg : ∀ (s : Shared) (H : Hp) (C : Addr) (cl : List (Str × Addr)) (fp : List Addr), PG (X.blk s H scope (compEnvC scope cl C X.env) fp) tg g) (ht : ∀ (s : Shared) (H : Hp) (C : Addr) (cl : List (Str × Addr)) (fp : List Addr), PTs (X.blk s H scope (compEnvC scope cl C X.env) fp) ifs tt)
    (he : ∀ (s : Shared) (H : Hp) (C : Addr) (cl : List (Str × Addr)) (fp : List Addr), PE (X.blk s H scope (compEnvC scope cl C X.env) fp) elt te) (hs : ∀ x, foldedSetIterable iter X.env x = pure x) :
    PS X (.Assign [.Name y py] (.SetComp elt [⟨tg, iter, ifs, 0⟩] scope pos) spos) (tAsg (tSk X.prog X.w wi g tt te (own.map (·.2))) (gName i)) := by
  refine ⟨fun pins s σ H D I h => ?_⟩
  rw [exec_Assign_Name_used _ _ _ _ hsw]
  refine wpAny_bind (wpAny_standAt (wpAny_bind ?_))
  show wpAny _ X.A (do let _ ← comprehension (.SetComp elt [⟨tg, iter, ifs, 0⟩] scope pos) scope X.env (firstIterPos [⟨tg, iter, ifs, 0⟩] pos) (newSet (.type "set")) false (eval iter X.env) (some (assign (.Name y py) X.env))) _ _ s
  have h : tSk X.prog X.w wi g tt te (own.map (·.2)) σ H (fun x H1 => gName i x σ H1 D.nx) := h
  refine wpAny_bind (thn (sk_core (Qf := fun _ s' => SP X pins D .next s') hc hN I hi ok hg ht he hs h fun L C s' m H' I' q hn f => ?_) fun _ s' hq => wpAny_pure (wpAny_pure hq))
  show wpAny _ _ (assign (.Name y py) X.env (.ref L)) _ _ _
  refine wpAny_assign_Name (store_ok2 (v := V.ref L) I' hN hy (.inl hyl) rfl (fun s2 I2 ⟨a, sb, ha⟩ => ?_) (.inr hyl))
  obtain ⟨f0, f1, f2, f3, f4, f5⟩ := f
  have haC : C ≠ a := by
    rcases ha with z | z
    · rw [z]; exact f1
    · exact fun e => f4 y a z e.symm
  refine ⟨m, hn.sameBut sb haC, fun h3 sb3 => ?_⟩
  exact ⟨_, H', I2.turned (t' := s2.toks) (fun b o hb e => (sb3.2 b hb).trans e) f0 f1 f3 f4 f5, q⟩
/-! ### what the evaluator says -/
theorem stepC_calm {is own : List Nat} {tup : Bool} {icond ielt : IE} {d : TA.D} {e : Env} {c : Nat} {x : TA.D} {e' : Env} : stepC F is tup icond ielt own d e ≠ .exc c x e' := by
  intro h
  unfold stepC at h
  cases et : e.target is tup d with
  | none => rw [et] at h; cases h
  | some e1 =>
    rw [et] at h
    simp only [Res.of, Res.bind] at h
    cases ev : evX F icond .test e1 with
    | stuck => rw [ev] at h; cases h
    | exc => rw [ev] at h; cases h
    | ok r =>
      obtain ⟨e2, w⟩ := r
      rw [ev] at h
      simp only [Res.calm, Res.bool, Res.bind] at h
      split at h
      · split at h
        · cases ev2 : evX F ielt .val e2 with
          | stuck => rw [ev2] at h; cases h
          | exc => rw [ev2] at h; cases h
          | ok r => rw [ev2] at h; cases h
        · cases h
      · cases h
theorem compL_calm {step : TA.D → Env → Res (Env × Option W)} (hs : ∀ d e c x e', step d e ≠ .exc c x e') : ∀ {ds : List TA.D} {env : Env} {acc : List W} {c : Nat} {x : TA.D} {e' : Env}, compL step ds env acc ≠ .exc c x e'
  | [], _, _, _, _, _, h => by rw [compL] at h; cases h
  | d :: ds, env, acc, c, x, e', h => by
    rw [compL] at h
    cases es : step d env with
    | stuck => rw [es] at h; cases h
    | exc c2 x2 e2 => exact hs _ _ _ _ _ es
    | ok r =>
      rw [es] at h
      simp only [Res.bind] at h
      split at h
      · exact compL_calm hs h
      · split at h
        · exact compL_calm hs h
        · cases h
theorem compL_pre {step : TA.D → Env → Res (Env × Option W)} : ∀ {ds : List TA.D} {env e : Env} {acc ws : List W}, compL step ds env acc = .ok (e, ws) → ∃ r, ws = acc ++ r
  | [], _, _, _, _, h => by rw [compL] at h; cases h; exact ⟨[], by simp⟩
  | d :: ds, env, e, acc, ws, h => by
    rw [compL] at h
    cases es : step d env with
    | stuck => rw [es] at h; cases h
    | exc c2 x2 e2 => rw [es] at h; cases h
    | ok r =>
      rw [es] at h
      simp only [Res.bind] at h
      split at h
      · exact compL_pre h
      · split at h
        · obtain ⟨r', e⟩ := compL_pre h
          exact ⟨_ :: r', by rw [e, List.append_assoc]; rfl⟩
        · cases h
theorem toDs_appS : ∀ {as bs : List W} {ds : List TA.D}, W.toDs (as ++ bs) = some ds → ∃ xs ys, W.toDs as = some xs ∧ W.toDs bs = some ys ∧ ds = xs ++ ys
  | [], bs, ds, h => ⟨[], ds, by rw [W.toDs], h, rfl⟩
  | a :: as, bs, ds, h => by
    rw [List.cons_append, W.toDs] at h
    obtain ⟨d, ed, h⟩ := Option.bind_eq_some_iff.mp h
    obtain ⟨es, ee, rfl⟩ := Option.map_eq_some_iff.mp h
    obtain ⟨xs, ys, e1, e2, e3⟩ := toDs_appS ee
    exact ⟨d :: xs, ys, by rw [W.toDs, ed, Option.bind_some, e1]; rfl, e2, by rw [e3]; rfl⟩
theorem flat_val {w : W} {d : TA.D} (e : w.toD = some d) (h : flatK d = true) : w = .val d := by
  cases w with
  | val x => rw [W.toD] at e; cases e; rfl
  | lst ws => rw [W.toD] at e; obtain ⟨x, _, rfl⟩ := Option.map_eq_some_iff.mp e; cases h
  | dic ks ws => rw [W.toD] at e; obtain ⟨x, _, rfl⟩ := Option.map_eq_some_iff.mp e; cases h
  | set ds => rw [W.toD] at e; cases e
theorem setW_some {ws : List W} {w : W} (h : setW ws = some w) : ∃ ds, W.toDs ws = some ds ∧ ds.all flatK = true ∧ ds.length ≤ 1000 ∧ w = .set (ds.foldl (fun acc d => insK d acc) []) := by
  unfold setW at h
  obtain ⟨ds, e, h⟩ := Option.bind_eq_some_iff.mp h
  split at h
  · rename_i hc
    cases h
    rw [Bool.and_eq_true, decide_eq_true_eq] at hc
    exact ⟨ds, e, hc.1, hc.2, rfl⟩
  · cases h
theorem flat_key {v : V} {d : TA.D} (r : RepD K H Fz v d) (h : flatK d = true) : ∃ k, v = kV k ∧ d = kD k := by
  cases r with
  | int i => exact ⟨.inl i, rfl, rfl⟩
  | str x => exact ⟨.inr x, rfl, rfl⟩
  | _ => cases h
/-- the set as it grows -/
def InS (cur : List TA.D) (S : Key → Bool) (n : Nat) : Prop := (∀ k, S k = cur.any (eqK (kD k))) ∧ n = cur.length
theorem InS.add {cur : List TA.D} {S : Key → Bool} {n : Nat} (h : InS cur S n) (k : Key) : InS (insK (kD k) cur) (fun j => S j || decide (j = k)) (if S k = true then n else n + 1) := by
  unfold insK
  rw [← h.1 k]
  cases hs : S k with
  | true =>
    rw [if_pos rfl, if_pos rfl]
    refine ⟨fun j => ?_, h.2⟩
    show (S j || decide (j = k)) = _
    by_cases e : j = k
    · subst e; rw [hs, ← h.1, hs]; rfl
    · rw [decide_eq_false e, Bool.or_false, h.1]
  | false =>
    rw [if_neg Bool.false_ne_true, if_neg Bool.false_ne_true]
    refine ⟨fun j => ?_, by rw [List.length_append, h.2]; rfl⟩
    show (S j || decide (j = k)) = _
    rw [List.any_append, ← h.1]
    simp [eqK_kD]
theorem insK_len (d : TA.D) (cur : List TA.D) : (insK d cur).length ≤ cur.length + 1 := by
  unfold insK
  split
  · omega
  · simp
theorem fold_len : ∀ (ds cur : List TA.D), (ds.foldl (fun acc d => insK d acc) cur).length ≤ cur.length + ds.length
  | [], _ => by simp
  | d :: ds, cur => by
    rw [List.foldl_cons]
    have := fold_len ds (insK d cur)
    have := insK_len d cur
    simp; omega
/-- nobody's object is turned -/
theorem Rel.pokeU (R : Rel K H Fz S σ env) {d : Addr} {o u : HO} (h : H d = some o) (ho : ∀ vs, o ≠ .tup vs) (nf : ¬ Fz d) (no : ∀ i, d ∉ S i) : Rel K (upd H d u) Fz S σ env := by
  have th : ∀ a, H a ≠ none → upd H d u a ≠ none := fun a z => by
    by_cases e : a = d
    · subst e; rw [upd_same]; simp
    · rw [upd_ne e]; exact z
  refine ⟨⟨fun a f => th a (R.well.fz a f), fun i a z => ⟨th a (R.well.own i a z).1, (R.well.own i a z).2⟩, R.well.dis, R.well.nod⟩, R.len, fun i w e => ?_⟩
  obtain ⟨v, ev, r⟩ := R.rep i w e
  refine ⟨v, ev, r.mono (fun _ f => f) (fun a x f rt => ?_) fun a ha x eo => ?_⟩
  · have ne : a ≠ d := fun z => by
      subst z
      rcases f with f | ⟨vs, f⟩
      · exact nf f
      · subst f
        have := rt.2 (.inl ⟨_, rfl⟩)
        rw [h] at this
        exact ho _ (Option.some.inj this)
    unfold Rt Rd
    rw [upd_ne ne]
    exact rt
  · rw [upd_ne (fun z => no i (by rw [← z]; exact ha))]; exact eo
theorem sk_run {P : Program} {w : World} {J : It} {ds : List TA.D} {is own : List Nat} {tup : Bool} {icond ielt : IE} {tg : Expr} {g : TG} {Dl : Addr} (ok : ItOf K J H1 Fz1 ds) (g1 : Grow H0 Fz0 S0 H1 Fz1 S1) (c1 : q = true → Calm H0 H1) (R1 : Rel K H1 Fz1 S1 σ env) (tgt : Tgt X K tg is tup g) (hsub : ∀ i ∈ is, i ∈ own) (hD : H1 Dl = none)
    (hq : q = true → IE.quiet icond = true ∧ IE.quiet ielt = true)
    (p : PX B K H0 Fz0 S0 σ .val q Q Wx ((compL (stepC F is tup icond ielt own) ds (env.wipe own) []).bind fun r => out1 (r.1.restore env own) (setW r.2))) :
    ∃ W : Nat → Nat → Hp → Prop, (∃ m, W 0 m (upd H1 Dl (SetK P w Dl (fun _ => false) 0))) ∧ ∀ i m H, W i m H →
      (J.stop i H ∧ Q (.ref Dl) H) ∨ (J.go i H ∧ ∃ Nx : Hp → Prop, (∀ H', Nx H' → ∃ m', m' < m ∧ W (i + 1) m' H') ∧ ∀ x H', J.yld i H x H' → g x (L2.wipe σ own) H' fun σ2 H2 => L2.wipe σ2 own = L2.wipe σ own ∧ tTs B K F WF icond σ2 H2 fun b H3 =>
        if b = true then tX B K F WF ielt .val σ2 H3 fun y H4 => ∃ (k : Key) (S : Key → Bool) (n : Nat), y = kV k ∧ H4 Dl = some (SetK P w Dl S n) ∧ n + 1 < scanBound ∧ Nx (upd H4 Dl (SetK P w Dl (fun j => S j || decide (j = k)) (if S k = true then n else n + 1))) else Nx H3) := by
  let P' : Nat → Hp → Prop := fun i H' => ∃ Fz' S' env' acc xs Sk n, Rel K H' Fz' S' (L2.wipe σ own) env' ∧ Grow H1 Fz1 (offO S1 own) H' Fz' S' ∧ H' Dl = some (SetK P w Dl Sk n) ∧ W.toDs acc = some xs ∧ InS (xs.foldl (fun acc d => insK d acc) []) Sk n ∧ Fresh H1 H' Fz' S' [Dl] ∧ (q = true → Calm H1 H') ∧
    PX B K H0 Fz0 S0 σ .val q Q Wx ((compL (stepC F is tup icond ielt own) (ds.drop i) env' acc).bind fun r => out1 (r.1.restore env own) (setW r.2))
  have R1w : Rel K H1 Fz1 (offO S1 own) (L2.wipe σ own) (env.wipe own) := (R1.wiped own).offL own fun i w e => (env_wipe_some e).2
  refine ⟨fun i m H' => m = ds.length - i ∧ i ≤ ds.length ∧ P' i H', ⟨ds.length, by simp, Nat.zero_le _, ?_⟩, ?_⟩
  · obtain ⟨R2, g2, c2⟩ := R1w.new (SetK P w Dl (fun _ => false) 0) hD
    refine ⟨Fz1, _, _, [], [], _, _, R2, g2, upd_same, by rw [W.toDs], ⟨fun k => rfl, rfl⟩, ⟨by simp, fun a ha => ?_⟩, fun _ => c2, p⟩
    obtain rfl : a = Dl := by simpa using ha
    exact ⟨hD, fun f => R1.well.fz _ f hD, fun i z => (R1w.well.own i _ z).1 hD⟩
  rintro i m H' ⟨rfl, hi, Fz', S', env', acc, xs, Sk, n, R', g', hDl, ta, ins, fr, c', p'⟩
  obtain ⟨o1, o2⟩ := ok H' Fz' g'.fz g'.rd
  by_cases hlt : i < ds.length
  · refine .inr ?_
    obtain ⟨d, ed⟩ : ∃ d, ds[i]? = some d := ⟨_, List.getElem?_eq_getElem hlt⟩
    obtain ⟨go, yl⟩ := o1 i d ed
    have hd : ds.drop i = d :: ds.drop (i + 1) := by
      obtain ⟨hl, e⟩ := List.getElem?_eq_some_iff.mp ed
      rw [List.drop_eq_getElem_cons hl, e]
    rw [hd, compL] at p'
    refine ⟨go, P' (i + 1), fun H2 h2 => ⟨ds.length - (i + 1), by omega, rfl, hlt, h2⟩, fun x H'' hy => ?_⟩
    obtain ⟨rfl, rd⟩ := yl x H'' hy
    cases et : env'.target is tup d with
    | none => simp only [stepC, et, Res.of, Res.bind] at p'; exact False.elim p'
    | some e1 =>
      simp only [stepC, et, Res.of, Res.bind] at p'
      refine tgt.run rd R' (Grow.refl _ _ _) et fun σ2 S2 sm R2 g2 => ⟨by rw [sm own hsub, wipe_wipe], Fz', S2, e1, R2, ?_⟩
      have hw : L2.wipe σ2 own = L2.wipe σ own := by rw [sm own hsub, wipe_wipe]
      have thD : ∀ a ∈ [Dl], H'' a ≠ none := fun a ha => by
        obtain rfl := List.mem_singleton.mp ha
        rw [hDl]; simp
      cases ev : evX F icond .test e1 with
      | stuck => rw [ev] at p'; exact False.elim p'
      | exc c d e => rw [ev] at p'; exact False.elim p'
      | ok r =>
        obtain ⟨e2, w2⟩ := r
        rw [ev] at p'
        intro b H3 Fz3 S3 R3 g3 c3 ew
        dsimp only at ew
        subst ew
        have gA : Grow H'' Fz' S' H3 Fz3 S3 := g2.trans g3
        have fr3 := fr.grow thD gA
        have hD3 : H3 Dl = some (SetK P w Dl Sk n) := gA.keep _ _ hDl (fr.2 Dl (List.mem_cons_self ..)).2.2 (fr.2 Dl (List.mem_cons_self ..)).2.1
        cases b with
        | false =>
          rw [if_neg Bool.false_ne_true]
          have Rw := R3.wiped own
          rw [hw] at Rw
          refine ⟨Fz3, S3, e2.wipe own, acc, xs, Sk, n, Rw, g'.trans gA, hD3, ta, ins, fr3, fun z => (c' z).trans (c3 (hq z).1), ?_⟩
          simp only [Res.calm, Res.bool, Res.bind] at p'
          exact p'
        | true =>
          rw [if_pos rfl]
          refine ⟨Fz3, S3, e2, R3, ?_⟩
          cases ev4 : evX F ielt .val e2 with
          | stuck => simp only [Res.calm, Res.bool, Res.bind, ev4] at p'; exact False.elim p'
          | exc c d e => simp only [Res.calm, Res.bool, Res.bind, ev4] at p'; exact False.elim p'
          | ok r =>
            obtain ⟨e4, w4⟩ := r
            simp only [Res.calm, Res.bool, Res.bind, ev4, if_true] at p'
            intro v H4 Fz4 S4 R4 g4 c4 ⟨U, rw4, fr4⟩
            by_cases hz : szOk (acc.length + 1) = true
            · rw [if_pos hz] at p'
              have p' : PX B K H0 Fz0 S0 σ .val q Q Wx ((compL (stepC F is tup icond ielt own) (ds.drop (i + 1)) (e4.wipe own) (acc ++ [w4])).bind fun r => out1 (r.1.restore env own) (setW r.2)) := p'
              have gB : Grow H'' Fz' S' H4 Fz4 S4 := gA.trans g4
              have thD3 : ∀ a ∈ [Dl], H3 a ≠ none := fun a ha => gA.there a (thD a ha)
              have frB := fr3.grow thD3 g4
              have nD := frB.2 Dl (List.mem_cons_self ..)
              have hD4 : H4 Dl = some (SetK P w Dl Sk n) := g4.keep _ _ hD3 (fr3.2 Dl (List.mem_cons_self ..)).2.2 (fr3.2 Dl (List.mem_cons_self ..)).2.1
              -- the item is a key
              have hk : ∃ k, w4 = .val (kD k) ∧ v = kV k ∧ xs.length ≤ 1000 := by
                cases ec : compL (stepC F is tup icond ielt own) (ds.drop (i + 1)) (e4.wipe own) (acc ++ [w4]) with
                | stuck => rw [ec] at p'; exact False.elim p'
                | exc c x e => exact absurd ec (compL_calm fun _ _ _ _ _ => stepC_calm)
                | ok r =>
                  obtain ⟨e5, ws⟩ := r
                  obtain ⟨rest, er⟩ := compL_pre ec
                  rw [ec] at p'
                  simp only [Res.bind, out1] at p'
                  cases es : setW ws with
                  | none => rw [es] at p'; exact False.elim p'
                  | some wv =>
                    obtain ⟨zs, e1, e2, e3, e4⟩ := setW_some es
                    rw [er] at e1
                    obtain ⟨a1, a2, e5, e6, rfl⟩ := toDs_appS e1
                    obtain ⟨b1, b2, e7, e8, rfl⟩ := toDs_appS e5
                    rw [ta] at e7
                    cases e7
                    rw [W.toDs] at e8
                    obtain ⟨d1, ed1, e8⟩ := Option.bind_eq_some_iff.mp e8
                    rw [W.toDs] at e8
                    cases e8
                    have hf : flatK d1 = true := by
                      rw [List.all_append, List.all_append] at e2
                      simp only [Bool.and_eq_true, List.all_cons, List.all_nil] at e2
                      exact e2.1.2.1
                    have ew := flat_val ed1 hf
                    subst ew
                    cases rw4 with
                    | val rv =>
                      obtain ⟨k, ek, ekd⟩ := flat_key rv hf
                      subst ekd
                      refine ⟨k, rfl, ek, ?_⟩
                      simp only [List.length_append] at e3
                      omega
              obtain ⟨k, rfl, rfl, hl⟩ := hk
              have gC := g'.trans gB
              have ne1 : ∀ a o, H1 a = some o → a ≠ Dl := fun a o e z => by rw [z, hD] at e; cases e
              have rdk : ∀ a u, Fx Fz4 a u → Rt H4 a u → Rt (upd H4 Dl (SetK P w Dl (fun j => Sk j || decide (j = k)) (if Sk k = true then n else n + 1))) a u := fun a u f rt => by
                have ne : a ≠ Dl := fun z => by
                  subst z
                  rcases f with f | ⟨us, f⟩
                  · exact nD.2.1 f
                  · subst f
                    have := rt.2 (.inl ⟨_, rfl⟩)
                    rw [hD4] at this
                    cases this
                unfold Rt Rd
                rw [upd_ne ne]
                exact rt
              refine ⟨k, Sk, n, rfl, hD4, ?_, Fz4, S4, e4.wipe own, acc ++ [.val (kD k)], xs ++ [kD k], _, _, ?_, ?_, upd_same, ?_, ?_, frB, fun z => ?_, p'⟩
              · have h1 := fold_len xs []
                have h2 := ins.2
                have : scanBound = 4096 := rfl
                simp at h1
                omega
              · have Rw := (R4.wiped own).pokeU (u := SetK P w Dl (fun j => Sk j || decide (j = k)) (if Sk k = true then n else n + 1)) hD4 (fun vs z => by cases z) nD.2.1 nD.2.2
                rw [hw] at Rw
                exact Rw
              · refine ⟨fun a o e no nf => ?_, fun a u f rt => rdk a u (f.imp (gC.fz a) id) (gC.rd a u f rt), gC.fz, gC.new, gC.own, fun a e => ?_⟩
                · rw [upd_ne (ne1 a o e)]
                  exact gC.keep a o e no nf
                · by_cases z : a = Dl
                  · subst z; rw [upd_same]; simp
                  · rw [upd_ne z]; exact gC.there a e
              · have : ∀ {as : List W} {ys : List TA.D}, W.toDs as = some ys → W.toDs (as ++ [.val (kD k)]) = some (ys ++ [kD k]) := by
                  intro as
                  induction as with
                  | nil => intro ys h; rw [W.toDs] at h; cases h; rfl
                  | cons a as ih =>
                    intro ys h
                    rw [W.toDs] at h
                    obtain ⟨d, ed, h⟩ := Option.bind_eq_some_iff.mp h
                    obtain ⟨es, ee, rfl⟩ := Option.map_eq_some_iff.mp h
                    rw [List.cons_append, W.toDs, ed, Option.bind_some, ih ee]
                    rfl
                exact this ta
              · rw [List.foldl_append]
                exact ins.add k
              · have cc := ((c' z).trans (c3 (hq z).1)).trans (c4 (hq z).2)
                intro a u rt
                have ne : a ≠ Dl := fun y => by
                  subst y
                  rcases rt.1 with y | ⟨o, y⟩ <;> rw [hD] at y <;> cases y
                have := cc a u rt
                unfold Rt Rd at this ⊢
                rw [upd_ne ne]
                exact this
            · rw [if_neg hz] at p'; exact False.elim p'
  · have e : i = ds.length := by omega
    subst e
    rw [List.drop_length, compL] at p'
    refine .inl ⟨o2 _ (Nat.le_refl _), ?_⟩
    simp only [Res.bind, out1] at p'
    obtain ⟨R3, g3⟩ := R1.restored R' g'
    cases es : setW acc with
    | none => rw [es] at p'; exact False.elim p'
    | some wv =>
      obtain ⟨zs, e1, e2, e3, e4⟩ := setW_some es
      rw [ta] at e1
      cases e1
      subst e4
      rw [es] at p'
      refine p' (.ref Dl) H' Fz' _ R3 (g1.trans g3) (fun z => (c1 z).trans (c' z)) ⟨[Dl], .set (P := P) (w := w) (S := Sk) (by rw [hDl, ins.2]), ?_⟩
      have f := fr.back g1.there
      refine ⟨f.1, fun a ha => ⟨(f.2 a ha).1, (f.2 a ha).2.1, fun i z => ?_⟩⟩
      unfold onO at z
      split at z
      · exact (R1.well.own i a z).1 (fr.2 a ha).1
      · exact (f.2 a ha).2.2 i z
end
end TA

set_option Elab.async false
set_option linter.all false
set_option maxRecDepth 100000
/-! TaSet2: the rules of sets. -/
namespace TA
open PySem PySem.Spec PyProof.Rows L2 PpSet
section
variable {X : Cx} {B : Tb} {K : PySem.W.Frag} {F : Nat → List W → FRes} {sub : Subs} {fu : Nat} {ios : List Nat} {Wx : WX} {H H' H0 H1 : Hp} {Fz Fz' Fz1 Fz0 : Addr → Prop} {S S' S1 S0 : Own} {σ : L2.St} {m : Md} {q q' : Bool} {Q Q' : VK} {env env' : Env} {D : Ends}
theorem call_lenK : CallR X (.builtin "len") (fun xs H Q => ∃ (a : Addr) (P : Program) (w : World) (S : Key → Bool) (n : Nat), xs = [.ref a] ∧ H a = some (SetK P w a S n) ∧ Q (.int n) H) := by
  intro pins s σ H xs us Q I r h
  obtain ⟨a, P, w, S, n, rfl, ha, q⟩ := h
  cases r with
  | cons r1 r2 =>
    cases r2
    cases r1
    obtain ⟨o, es, ep, t, ho, hx, hd, _, _, hz, hf, hn⟩ := (I.hok a _ ha).1
    have hsb : scanBound = 4096 := rfl
    exact call_len_set ho hx hd hf (by omega) ⟨.int _, H, I.tok _, ⟨_, rfl⟩, by rw [hn]; exact q⟩
theorem se_lens {j : Nat} {x : Str} {p p2 pos : Pos} (hg : Gl X "len") (hm : X.mg "len" = none) (hN : X.N[j]? = some x) (hv : Vis X.env.scope x) (hd : (x == ("__debug__" : Str)) = false) (hcd : (x == ("__classdict__" : Str)) = false) :
    SEx X B F Wx (.Call (.Name "len" p) [.Name x p2] [] pos) (.lens j) := by
  have hp := pe_callB (call_lenK (X := X)) hg hm boot_len (pa_cons (pe_var (pos := p2) hN hv hd hcd) pa_nil rfl) (p := p) (pos := pos)
  refine ⟨SE.core (core := fun env => (env.get j).bind fun w => match w with
    | .set ds => .ok (env, .val (.int ds.length))
    | _ => .stuck) (PE.imp hp fun σ H Q ⟨Fz, S, env, R, p⟩ => ?_) (fun m env hm => by cases m <;> simp only [evX] <;> rfl), fun _ _ => rfl⟩
  dsimp only at p
  rcases get_cases env j with ⟨w, eg, ei⟩ | eg
  · rw [eg] at p
    obtain ⟨v, hv', r⟩ := R.rep j w ei
    generalize S j = Tj at r
    cases r with
    | @set a P w' S' ds ha => exact ⟨_, hv', a, P, w', S', _, rfl, ha, p.endD R (Grow.refl _ _ _) (fun _ => Calm.refl _) (.int _)⟩
    | val => exact False.elim p
    | lst => exact False.elim p
    | dK => exact False.elim p
    | dT => exact False.elim p
  · rw [eg] at p; exact False.elim p
abbrev scCore (F : Nat → List W → FRes) (ielt : IE) (is : List Nat) (tup : Bool) (k : ItK) (its : List IE) (icond : IE) (own : List Nat) : Env → Res (Env × W) := fun env => (evEs F its .val env).bind fun r => (Res.of (itemsOf k r.2)).bind fun ds =>
  (compL (stepC F is tup icond ielt own) ds (r.1.wipe own) []).bind fun q => out1 (q.1.restore r.1 own) (setW q.2)
theorem sc_tr {P : Program} {w : World} {ielt icond : IE} {is own : List Nat} {tup : Bool} {k : ItK} {its : List IE} {tg : Expr} {g : TG} (tgt : Tgt X K tg is tup g) (hsub : ∀ i ∈ is, i ∈ own)
    (h : ∃ Fz S env, Rel K H Fz S σ env ∧ PX B K H Fz S σ .val (IE.quiet (.lc true ielt is tup k its icond own)) Q Wx (scCore F ielt is tup k its icond own env)) : tSk P w (tIt B K F Wx k its) g (tTs B K F WF icond) (tX B K F WF ielt .val) own σ H Q := by
  obtain ⟨Fz, S, env, R, p⟩ := h
  have hq : IE.quiet (.lc true ielt is tup k its icond own) = (IE.quiet ielt && IE.quiets its && IE.quiet icond) := by rw [IE.quiet]
  refine ⟨Fz, S, env, R, ?_⟩
  unfold itsR
  cases ev : evEs F its .val env with
  | stuck => simp only [scCore, ev, Res.bind] at p; exact False.elim p
  | exc c d e => simp only [scCore, ev, Res.bind] at p; exact p
  | ok r =>
    obtain ⟨e, ws⟩ := r
    simp only [scCore, ev, Res.bind] at p ⊢
    cases ei : itemsOf k ws with
    | none => simp only [ei, Res.of] at p; exact False.elim p
    | some ds =>
      simp only [ei, Res.of] at p ⊢
      intro J H1 Fz1 S1 R1 g1 c1 ok Dl hD
      rw [hq] at p
      exact sk_run (q := IE.quiet ielt && IE.quiets its && IE.quiet icond) ok g1 (fun z => c1 (by simp only [Bool.and_eq_true] at z; exact z.1.2)) R1 tgt hsub hD (fun z => by simp only [Bool.and_eq_true] at z; exact ⟨z.2, z.1.1⟩) p
theorem ss_asgSc {i : Nat} {y : Str} {py : Pos} {elt tg iter : Expr} {ifs : List Expr} {scope : Scope} {own : List (Str × Nat)} {ielt icond : IE} {is : List Nat} {tup : Bool} {k : ItK} {its : List IE} {pos spos : Pos} (hio : ios.contains i = false) (hc : X.calm = true) (hN : X.N.Nodup) (hy : X.N[i]? = some y) (hyl : X.env.scope.names.lookup y = some .local)
    (hsw : swapsWith (.SetComp elt [⟨tg, iter, ifs, 0⟩] scope pos) (some (.Name y py)) spos.line X.env = pure true) (hi : PI X tg iter (tIt B X.K F Wx k its)) (b : Blk X B F elt tg ifs scope own ielt icond is tup)
    (hs : ∀ x, foldedSetIterable iter X.env x = pure x) : PS X (.Assign [.Name y py] (.SetComp elt [⟨tg, iter, ifs, 0⟩] scope pos) spos) (tSt B X.K F sub fu ios Wx (.asg i (.lc true ielt is tup k its icond (own.map (·.2))))) := by
  obtain ⟨g, ht⟩ := b.tgt
  refine PS.imp (ps_setSk (tt := tTs B X.K F WF icond) (te := tX B X.K F WF ielt .val) hc hN hy hyl hsw hi b.ok (fun s H C cl fp => (ht s H C cl fp).pg) b.cnd (fun s H C cl fp => (b.elt s H C cl fp).se .val (by decide)) hs) fun D σ H ⟨Fz, S, env, R, p⟩ => ?_
  rw [evS] at p
  refine sc_tr (Wx := Wx) (ht X.s_0 X.H_0 0 [] []) b.sub ⟨Fz, S, env, R, ?_⟩
  have e : evX F (.lc true ielt is tup k its icond (own.map (·.2))) .val env = scCore F ielt is tup k its icond (own.map (·.2)) env := by
    simp only [evX, if_true]
    rfl
  rw [e] at p
  refine p.x fun e w ev p1 v H' Fz' S' T R' g r fr => ?_
  obtain ⟨R2, g2⟩ := R'.asgN g (i := i) r fr
  exact p1 _ H' Fz' _ (Kp.refl.set hio) R2 g2
end
end TA

set_option Elab.async false
set_option linter.all false
set_option maxRecDepth 100000
/-! TaCk1: a written expression beside its IR: what is to be checked (Bool), what is known. -/
namespace TA
open PySem PySem.Spec PyProof.Rows L2
/-- the names of the module that a def may use -/
structure Tab where
  fns : Nat → Option (Str × Nat × List Nat)
  kws : Nat → Option (Str × Nat × List Str × List Nat)
  gls : Nat → Option (Str × D)
  gds : Nat → Option (Str × List D × List D)
  ers : Nat → Option Str
  hds : Nat → Option (Str × Str)
  blts : List Str
/-- where it stands -/
structure Ck where
  N : List Str
  sc : Scope
  fnB : Str → Bool
/-- what is known of the module -/
structure Gd (X : Cx) (B : Tb) (F : Nat → List W → FRes) (T : Tab) : Prop where
  fn : ∀ f x np ios, T.fns f = some (x, np, ios) → FnAt X B F f x np ios
  kw : ∀ f x np ks perm, T.kws f = some (x, np, ks, perm) → FnAtK X B F f x np ks perm
  gl : ∀ g x d, T.gls g = some (x, d) → ∃ v u, X.mg x = some u ∧ RelV v u ∧ ∀ H Fz, RepD X.K H Fz v d
  gd : ∀ g x ks vs, T.gds g = some (x, ks, vs) → ∃ d, GDict X d ks vs ∧ X.mg x = some (.ref d)
  er : ∀ c x, T.ers c = some x → ErrAt X B c x
  bl : ∀ x, x ∈ T.blts → X.mg x = none
  hu : X.A.units + 64 < cLine
  hr : Room 2 X.A
/-- what is known of the place -/
structure Gx (X : Cx) (B : Tb) (F : Nat → List W → FRes) (T : Tab) (C : Ck) (Wx : WX) : Prop where
  gd : Gd X B F T
  calm : X.calm = true
  nd : X.N.Nodup
  N : X.N = C.N
  sc : X.env.scope = C.sc
  fn : ∀ x, C.fnB x = true → X.fn x = true
  tk : Takes X Wx
def visB (sc : Scope) (x : Str) : Bool := match sc.names.lookup x with
  | some .local => true
  | some .cell => true
  | some .free => true
  | _ => false
def locB (sc : Scope) (x : Str) : Bool := match sc.names.lookup x with
  | some .local => true
  | some .cell => true
  | _ => false
def lclB (sc : Scope) (x : Str) : Bool := match sc.names.lookup x with
  | some .local => true
  | _ => false
def glbB (sc : Scope) (x : Str) : Bool := match sc.names.lookup x with
  | some .globalImplicit => true
  | _ => false
def ckVis (C : Ck) (x : Str) (i : Nat) : Bool := decide (C.N[i]? = some x) && visB C.sc x && !(x == ("__debug__" : Str)) && !(x == ("__classdict__" : Str))
def ckNam (C : Ck) (x : Str) (i : Nat) : Bool := decide (C.N[i]? = some x) && locB C.sc x && (C.fnB x || lclB C.sc x)
def ckGlob (C : Ck) (x : Str) : Bool := glbB C.sc x && !(x == ("__debug__" : Str))
def ckB (T : Tab) (C : Ck) (x : Str) : Bool := glbB C.sc x && T.blts.contains x
def opB : Operator → BOp → Bool
  | .Add, .add => true | .Sub, .sub => true | .Mult, .mul => true | .FloorDiv, .fdiv => true | .Mod, .mod => true | .Pow, .pow => true
  | _, _ => false
def opC : CmpOp → COp → Bool
  | .Eq, .eq => true | .NotEq, .ne => true | .Lt, .lt => true | .LtE, .le => true | .Gt, .gt => true | .GtE, .ge => true
  | .In, .isin => true | .NotIn, .notin => true | .Is, .isnone => true | .IsNot, .notnone => true
  | _, _ => false
section
variable {X : Cx} {B : Tb} {F : Nat → List W → FRes} {Wx : WX} {T : Tab} {C : Ck}
theorem vis_ok {sc : Scope} {x : Str} (h : visB sc x = true) : Vis sc x := by
  unfold visB at h
  split at h
  · exact .inl ‹_›
  · exact .inr (.inl ‹_›)
  · exact .inr (.inr ‹_›)
  · cases h
theorem loc_ok {sc : Scope} {x : Str} (h : locB sc x = true) : Loc sc x := by
  unfold locB at h
  split at h
  · exact .inl ‹_›
  · exact .inr ‹_›
  · cases h
theorem lcl_ok {sc : Scope} {x : Str} (h : lclB sc x = true) : sc.names.lookup x = some .local := by
  unfold lclB at h
  split at h
  · assumption
  · cases h
theorem glb_ok {sc : Scope} {x : Str} (h : glbB sc x = true) : sc.names.lookup x = some .globalImplicit := by
  unfold glbB at h
  split at h
  · assumption
  · cases h
theorem ckVis_ok (G : Gx X B F T C Wx) {x : Str} {i : Nat} (h : ckVis C x i = true) : X.N[i]? = some x ∧ Vis X.env.scope x ∧ (x == ("__debug__" : Str)) = false ∧ (x == ("__classdict__" : Str)) = false := by
  unfold ckVis at h
  simp only [Bool.and_eq_true, decide_eq_true_eq, Bool.not_eq_true'] at h
  exact ⟨by rw [G.N]; exact h.1.1.1, by rw [G.sc]; exact vis_ok h.1.1.2, h.1.2, h.2⟩
theorem ckNam_ok (G : Gx X B F T C Wx) {x : Str} {i : Nat} (h : ckNam C x i = true) : Nam X i x := by
  unfold ckNam at h
  simp only [Bool.and_eq_true, decide_eq_true_eq, Bool.or_eq_true] at h
  exact ⟨by rw [G.N]; exact h.1.1, by rw [G.sc]; exact loc_ok h.1.2, h.2.imp (G.fn x) fun z => by rw [G.sc]; exact lcl_ok z⟩
theorem glb_gl (G : Gx X B F T C Wx) {x : Str} (h : glbB C.sc x = true) : Gl X x := by
  show X.env.scope.names.lookup x = some .globalImplicit
  rw [G.sc]
  exact glb_ok h
theorem ckGlob_ok (G : Gx X B F T C Wx) {x : Str} (h : ckGlob C x = true) : Gl X x ∧ (x == ("__debug__" : Str)) = false := by
  unfold ckGlob at h
  simp only [Bool.and_eq_true, Bool.not_eq_true'] at h
  exact ⟨glb_gl G h.1, h.2⟩
theorem ckB_ok (G : Gx X B F T C Wx) {x : Str} (h : ckB T C x = true) : Gl X x ∧ X.mg x = none := by
  unfold ckB at h
  simp only [Bool.and_eq_true, List.contains_iff_mem] at h
  exact ⟨glb_gl G h.1, G.gd.bl x h.2⟩
theorem bin_rule {op : Operator} {o : BOp} (h : opB op o = true) : ∃ r, OpR X (binaryOp op) r ∧ Ans X B Wx r (binD o) := by
  unfold opB at h
  split at h
  · exact ⟨_, op_addA, ans_add⟩
  · exact ⟨_, op_subA, ans_sub⟩
  · exact ⟨_, op_mulA, ans_mul⟩
  · exact ⟨_, op_fdivW, ans_fdiv⟩
  · exact ⟨_, op_mod, ans_mod⟩
  · exact ⟨_, op_pow, ans_pow⟩
  · cases h
theorem cmp_rule (hu : X.A.units + 64 < cLine) {op : CmpOp} {o : COp} (h : opC op o = true) : ∃ r, OpR X (compareOp op) r ∧ AnsC X r o := by
  unfold opC at h
  split at h
  · exact ⟨_, op_eqX hu, ansc_eq⟩
  · exact ⟨_, op_neX hu, ansc_ne⟩
  · exact ⟨_, op_lt, ansc_lt⟩
  · exact ⟨_, op_le, ansc_le⟩
  · exact ⟨_, op_gt, ansc_gt⟩
  · exact ⟨_, op_ge, ansc_ge⟩
  · exact ⟨_, op_inA hu, ansc_in⟩
  · exact ⟨_, op_notInA hu, ansc_notin⟩
  · exact ⟨_, op_isN, ansc_isN⟩
  · exact ⟨_, op_notN, ansc_notN⟩
  · cases h
/-- k in D, k not in D as a test -/
theorem st_gin {neg : Bool} {g : Nat} {ks vs : List D} {d : Addr} {a : Expr} {ia : IE} {x : Str} {p pos : Pos} (G : GDict X d ks vs) (hg : Gl X x) (hm : X.mg x = some (.ref d)) (hd : (x == ("__debug__" : Str)) = false) (ha : SEx X B F Wx a ia) (hk : behindInMarks (if neg then .NotIn else .In) (.Name x p) = false) :
    PT X (.Compare a [if neg then .NotIn else .In] [.Name x p] pos) (tTs B X.K F Wx (.gin neg g ks ia)) := by
  have eq : IE.quiet (.gin neg g ks ia) = IE.quiet ia := by rw [IE.quiet]
  obtain ⟨es, n, kd⟩ := G.kd
  have ho : OpR X (compareOp (if neg then .NotIn else .In)) (fun x y H Q => ∃ (z : Str) (r : Option Value), x = .str z ∧ y = .ref d ∧ PySem.W.nsIn X.K d z = some r ∧ Q (.bl (if neg then !r.isSome else r.isSome)) H) := by
    cases neg with
    | false => exact op_in_kd kd
    | true => exact op_notIn_kd kd
  refine PT.imp (pt_cmpR ho (ha.se .val (by decide)) (pe_glob hg hm (show RelV (.ref d) (.ref d) from rfl) hd) hk) fun σ H Q ⟨Fz, S, env, R, p⟩ => ?_
  have e : evX F (.gin neg g ks ia) .test env = Md.fin .test ((evX F ia .val env).bind fun r => (Res.of r.2.toD).bind fun x => out1 r.1 (ginW neg ks x)) := by simp only [evX]
  rw [e] at p
  have p := p.px (fun e w h => by
    cases e1 : evX F ia .val env with
    | stuck => rw [e1] at h; cases h
    | exc => rw [e1] at h; cases h
    | ok r =>
      rw [e1] at h
      simp only [Res.bind] at h
      cases e2 : r.2.toD with
      | none => rw [e2] at h; cases h
      | some y =>
        rw [e2] at h
        simp only [Res.of, Res.bind] at h
        cases y <;> simp only [ginW, out1] at h <;> cases h
        exact ⟨_, rfl⟩)
  refine ⟨Fz, S, env, R, PX.bind p (Grow.refl _ _ _) (fun _ => Calm.refl _) (fun z => eq ▸ z) fun e1 w1 ev1 p1 v1 H1 Fz1 S1 R1 g1 g1' c1 c1' ⟨T, rw1, fr1⟩ => ?_⟩
  obtain ⟨dx, ex, p1⟩ := p1.of
  obtain ⟨w, ew, p1⟩ := p1.out1
  obtain ⟨R2, g2⟩ := R1.sink g1 fr1 rw1.there
  have rx := rw1.sunk ex
  cases dx with
  | str z =>
    cases ew
    obtain ⟨r, hr, hi⟩ := G.has z
    rw [rx.str_inv]
    refine ⟨z, r, rfl, rfl, hr, ?_⟩
    rw [hi]
    exact p1.endD R2 g2 c1' (.bl _)
  | _ => cases ew
end
end TA

set_option Elab.async false
set_option linter.all false
set_option maxRecDepth 100000
/-! TaCk2: a written expression beside its IR: the parts. -/
namespace TA
open PySem PySem.Spec PyProof.Rows L2
abbrev Ckr := Bool → Ck → Expr → IE → Bool
def isBl : Expr → Bool
  | .BoolOp .. => true
  | _ => false
def ckEs (f : Expr → IE → Bool) : List Expr → List IE → Bool
  | [], [] => true
  | e :: es, i :: is => f e i && ckEs f es is
  | _, _ => false
def isValK (i : IE) : Bool := match i.ark with
  | .val => true
  | _ => false
def ckA (C : Ck) (f : Expr → IE → Bool) (e : Expr) (i : IE) : Bool := match i with
  | .io j => (match e with
    | .Name x _ => ckVis C x j
    | _ => false)
  | .iot k => f e k
  | k => isValK k && f e k
def ckAs (C : Ck) (f : Expr → IE → Bool) : List Expr → List IE → Bool
  | [], [] => true
  | e :: es, i :: is => ckA C f e i && ckAs C f es is
  | _, _ => false
def ckLit : Expr → D → Bool
  | .Constant (.str x) _ _, .str y => decide (x = y)
  | .Constant (.int i) _ _, .int j => decide (i = j)
  | .Constant (.bool a) _ _, .bool b => decide (a = b)
  | .Constant .none _ _, .none => true
  | _, _ => false
def notSlice : Expr → Bool
  | .Slice .. => false
  | _ => true
def notSet : Expr → Bool
  | .Set .. => false
  | _ => true
def txtB (e : Expr) (y : Str) : Bool := match e with
  | .Constant (.str x) _ _ => decide (x = y)
  | _ => false
def ckTxt : List Expr → List Str → Bool
  | [], [] => true
  | e :: es, y :: ys => txtB e y && ckTxt es ys
  | _, _ => false
mutual
def datB : D → D → Bool
  | .none, .none => true
  | .bool a, .bool b => a == b
  | .int i, .int j => i == j
  | .str x, .str y => x == y
  | .list xs, .list ys => datsB xs ys
  | .tuple xs, .tuple ys => datsB xs ys
  | _, _ => false
def datsB : List D → List D → Bool
  | [], [] => true
  | x :: xs, y :: ys => datB x y && datsB xs ys
  | _, _ => false
end
mutual
theorem datB_ok : ∀ {a b : D}, datB a b = true → a = b
  | .none, b, h => by cases b <;> first | rfl | (simp [datB] at h)
  | .bool a, b, h => by cases b <;> first | (simp [datB] at h; done) | (simp [datB] at h; rw [h])
  | .int i, b, h => by cases b <;> first | (simp [datB] at h; done) | (simp [datB] at h; rw [h])
  | .str x, b, h => by cases b <;> first | (simp [datB] at h; done) | (simp [datB] at h; rw [h])
  | .list xs, b, h => by cases b <;> first | (simp [datB] at h; done) | (rw [datB] at h; rw [datsB_ok h])
  | .tuple xs, b, h => by cases b <;> first | (simp [datB] at h; done) | (rw [datB] at h; rw [datsB_ok h])
  | .dict _, b, h => by cases b <;> simp [datB] at h
theorem datsB_ok : ∀ {a b : List D}, datsB a b = true → a = b
  | [], [], _ => rfl
  | [], _ :: _, h => by simp [datsB] at h
  | _ :: _, [], h => by simp [datsB] at h
  | x :: xs, y :: ys, h => by
    rw [datsB, Bool.and_eq_true] at h
    rw [datB_ok h.1, datsB_ok h.2]
end
def optE : List (Option Expr) → Option (List Expr)
  | [] => some []
  | some e :: es => (optE es).map fun r => e :: r
  | none :: _ => none
section
variable {B : Tb} {F : Nat → List W → FRes} {T : Tab}
/-- the checker is right about smaller ones -/
def IHok (B : Tb) (F : Nat → List W → FRes) (T : Tab) (f : Ckr) : Prop := ∀ (t : Bool) (C : Ck) (e : Expr) (ir : IE) (X : Cx) (Wx : WX), Gx X B F T C Wx → f t C e ir = true →
  (t = false → SEx X B F Wx e ir) ∧ (t = true → PT X e (tTs B X.K F Wx ir) ∧ (isBl e = true → PW X e (tTs B X.K F Wx ir)))
variable {f : Ckr} {X : Cx} {Wx : WX} {C : Ck}
theorem IHok.e (ih : IHok B F T f) (G : Gx X B F T C Wx) {e : Expr} {ir : IE} (h : f false C e ir = true) : SEx X B F Wx e ir := (ih false C e ir X Wx G h).1 rfl
theorem IHok.t (ih : IHok B F T f) (G : Gx X B F T C Wx) {e : Expr} {ir : IE} (h : f true C e ir = true) : PT X e (tTs B X.K F Wx ir) := ((ih true C e ir X Wx G h).2 rfl).1
theorem ckEs_ok (ih : IHok B F T f) (G : Gx X B F T C Wx) : ∀ {es : List Expr} {is : List IE}, ckEs (f false C) es is = true → PA X es (tVs B X.K F Wx is) ∧ (∀ e ∈ es, NoStar e) ∧ es.length = is.length
  | [], [], _ => ⟨pvs_nil, fun _ h => (nomatch h), rfl⟩
  | [], _ :: _, h => by simp [ckEs] at h
  | _ :: _, [], h => by simp [ckEs] at h
  | e :: es, i :: is, h => by
    rw [ckEs, Bool.and_eq_true] at h
    obtain ⟨h1, h2, h3⟩ := ckEs_ok ih G h.2
    have s := ih.e G h.1
    exact ⟨pvs_cons s h1, fun z hz => (List.mem_cons.mp hz).elim (fun y => y ▸ s.ns) (h2 z), by simp [h3]⟩
theorem valK_ok {i : IE} (h : isValK i = true) : i.ark = .val := by
  unfold isValK at h
  split at h
  · assumption
  · cases h
theorem ckAs_ok (ih : IHok B F T f) (G : Gx X B F T C Wx) : ∀ {es : List Expr} {is : List IE}, ckAs C (f false C) es is = true → PA X es (tAs B X.K F Wx is) ∧ ∀ e ∈ es, NoStar e
  | [], [], _ => ⟨pas_nil, fun _ h => nomatch h⟩
  | [], _ :: _, h => by simp [ckAs] at h
  | _ :: _, [], h => by simp [ckAs] at h
  | e :: es, i :: is, h => by
    rw [ckAs, Bool.and_eq_true] at h
    obtain ⟨h1, h2⟩ := ckAs_ok ih G h.2
    have h0 := h.1
    unfold ckA at h0
    split at h0
    · split at h0
      · obtain ⟨a, b, c, d⟩ := ckVis_ok G h0
        exact ⟨pas_io a b c d h1, fun z hz => (List.mem_cons.mp hz).elim (fun y => y ▸ fun _ _ => rfl) (h2 z)⟩
      · cases h0
    · have s := ih.e G h0
      exact ⟨pas_iot s h1, fun z hz => (List.mem_cons.mp hz).elim (fun y => y ▸ s.ns) (h2 z)⟩
    · rw [Bool.and_eq_true] at h0
      have s := ih.e G h0.2
      exact ⟨pas_val (valK_ok h0.1) s h1, fun z hz => (List.mem_cons.mp hz).elim (fun y => y ▸ s.ns) (h2 z)⟩
theorem ckLit_ok {e : Expr} {d : D} (h : ckLit e d = true) : SEx X B F Wx e (.lit d) := by
  unfold ckLit at h
  split at h
  · rw [of_decide_eq_true h]; exact se_const pe_str (fun _ _ => rfl) fun _ _ _ => .str _
  · rw [of_decide_eq_true h]; exact se_const pe_int (fun _ _ => rfl) fun _ _ _ => .int _
  · rw [of_decide_eq_true h]; exact se_const pe_bl (fun _ _ => rfl) fun _ _ _ => .bl _
  · exact se_const pe_non (fun _ _ => rfl) fun _ _ _ => .non
  · cases h
theorem plain_ok {e : Expr} (h : notSlice e = true) : PlainIx e := by
  cases e <;> first | (intro _ _; rfl) | cases h
theorem fold_ok {e : Expr} {env : PySem.Env} (h : notSet e = true) : ∀ x, foldedSetIterable e env x = pure x := by
  cases e <;> first | (intro _; rfl) | cases h
theorem ckTxt_ok : ∀ {es : List Expr} {xs : List Str}, ckTxt es xs = true → TxtEs es xs
  | [], [], _ => .nil
  | [], _ :: _, h => by simp [ckTxt] at h
  | _ :: _, [], h => by simp [ckTxt] at h
  | e :: es, y :: ys, h => by
    rw [ckTxt, Bool.and_eq_true] at h
    have h0 := h.1
    unfold txtB at h0
    split at h0
    · rw [← of_decide_eq_true h0]
      exact .cons (ckTxt_ok h.2)
    · cases h0
theorem optE_ok : ∀ {os : List (Option Expr)} {es : List Expr}, optE os = some es → os = es.map some
  | [], es, h => by rw [optE] at h; cases h; rfl
  | some e :: os, es, h => by
    rw [optE] at h
    obtain ⟨r, er, rfl⟩ := Option.map_eq_some_iff.mp h
    rw [optE_ok er]
    rfl
  | none :: _, _, h => by rw [optE] at h; cases h
end
end TA

set_option Elab.async false
set_option linter.all false
set_option maxRecDepth 100000
/-! TaCk3: a written expression beside its IR: calls, built-ins, comprehensions. -/
namespace TA
open PySem PySem.Spec PyProof.Rows L2
def ckFn (T : Tab) (C : Ck) (f : Ckr) (g : Nat) (args : List IE) (x : Str) (es : List Expr) : Bool := ckGlob C x && !es.isEmpty && (match T.fns g with
  | some (y, np, ios) => decide (x = y) && decide (posOf 0 (args.map IE.ioB) = ios) && decide (args.length = np)
  | none => false) && ckAs C (f false C) es args
def ckGl (T : Tab) (C : Ck) (g : Nat) (d : D) (x : Str) : Bool := ckGlob C x && (match T.gls g with
  | some (y, d') => decide (x = y) && datB d d'
  | none => false)
def ckGd (T : Tab) (C : Ck) (g : Nat) (ks : List D) (vs : Option (List D)) (x : Str) : Bool := ckGlob C x && (match T.gds g with
  | some (y, ks', vs') => decide (x = y) && datsB ks ks' && (match vs with
    | some vs => datsB vs vs'
    | none => true)
  | none => false)
def ckP (C : Ck) (f : Ckr) (e : Option Expr) (i : IE) : Bool := match e with
  | none => i.isNo
  | some e => !i.isNo && f false C e i
def tyNm : Cls → Str
  | .str => "str" | .int => "int" | .bool => "bool" | .list => "list" | .tuple => "tuple" | .dict => "dict" | .row => ""
def ck1 (T : Tab) (C : Ck) (f : Ckr) (nm : Str) (fn : Str) (es : List Expr) (args : List IE) : Bool := match es, args with
  | [e], [a] => decide (fn = nm) && ckB T C nm && f false C e a
  | _, _ => false
def ckIsi (T : Tab) (C : Ck) (f : Ckr) (c : Cls) (fn : Str) (es : List Expr) (args : List IE) : Bool := match es, args with
  | [e, .Name t _], [a] => decide (fn = "isinstance") && ckB T C "isinstance" && decide (c ≠ .row) && decide (t = tyNm c) && ckB T C (tyNm c) && f false C e a
  | [e, .Tuple [.Name t _, .Name u _] _ _], [a] => decide (fn = "isinstance") && ckB T C "isinstance" && decide (c = .row) && decide (t = "list") && decide (u = "tuple") && ckB T C "list" && ckB T C "tuple" && f false C e a
  | _, _ => false
def ckMax2 (T : Tab) (C : Ck) (f : Ckr) (fn : Str) (es : List Expr) (args : List IE) : Bool := match es, args with
  | [e, e'], [a, a'] => decide (fn = "max") && ckB T C "max" && f false C e a && f false C e' a'
  | _, _ => false
def ckBlt (T : Tab) (C : Ck) (f : Ckr) (b : BI) (fn : Str) (es : List Expr) (args : List IE) : Bool := match b with
  | .len => ck1 T C f "len" fn es args
  | .int => ck1 T C f "int" fn es args
  | .ord => ck1 T C f "ord" fn es args
  | .tuple => ck1 T C f "tuple" fn es args
  | .list => ck1 T C f "list" fn es args
  | .max1 => ck1 T C f "max" fn es args
  | .sorted => ck1 T C f "sorted" fn es args
  | .dict => ck1 T C f "dict" fn es args
  | .isi c => ckIsi T C f c fn es args
  | .max2 => ckMax2 T C f fn es args
  | _ => false
section
variable {B : Tb} {F : Nat → List W → FRes} {T : Tab} {f : Ckr} {X : Cx} {Wx : WX} {C : Ck}
theorem ckFn_ok (ih : IHok B F T f) (G : Gx X B F T C Wx) {g : Nat} {args : List IE} {x : Str} {es : List Expr} {p pos : Pos} (h : ckFn T C f g args x es = true) : SEx X B F Wx (.Call (.Name x p) es [] pos) (.call g args) := by
  unfold ckFn at h
  simp only [Bool.and_eq_true] at h
  obtain ⟨⟨⟨h1, h2⟩, h3⟩, h4⟩ := h
  obtain ⟨a1, a2⟩ := ckGlob_ok G h1
  obtain ⟨b1, b2⟩ := ckAs_ok ih G h4
  split at h3
  · rename_i y np ios e
    simp only [Bool.and_eq_true, decide_eq_true_eq] at h3
    obtain ⟨⟨rfl, k2⟩, k3⟩ := h3
    cases es with
    | nil => simp at h2
    | cons e0 es => exact se_call G.tk (G.gd.fn g x np ios e) a1 a2 b1 b2 k2 k3
  · cases h3
theorem ckGl_ok (G : Gx X B F T C Wx) {g : Nat} {d : D} {x : Str} {p : Pos} (h : ckGl T C g d x = true) : SEx X B F Wx (.Name x p) (.gl g d) := by
  unfold ckGl at h
  rw [Bool.and_eq_true] at h
  obtain ⟨a1, a2⟩ := ckGlob_ok G h.1
  have h2 := h.2
  split at h2
  · rename_i y d' e
    rw [Bool.and_eq_true] at h2
    obtain rfl := of_decide_eq_true h2.1
    obtain rfl := datB_ok h2.2
    obtain ⟨v, u, k1, k2, k3⟩ := G.gd.gl g _ _ e
    exact se_gl a1 k1 k2 k3 a2
  · cases h2
theorem ckGd_ok (G : Gx X B F T C Wx) {g : Nat} {ks : List D} {vs : Option (List D)} {x : Str} (h : ckGd T C g ks vs x = true) : ∃ vs' d, GDict X d ks vs' ∧ X.mg x = some (.ref d) ∧ Gl X x ∧ (x == ("__debug__" : Str)) = false ∧ ∀ v, vs = some v → v = vs' := by
  unfold ckGd at h
  rw [Bool.and_eq_true] at h
  obtain ⟨a1, a2⟩ := ckGlob_ok G h.1
  have h2 := h.2
  split at h2
  · rename_i y ks' vs' e
    simp only [Bool.and_eq_true] at h2
    obtain rfl := of_decide_eq_true h2.1.1
    obtain rfl := datsB_ok h2.1.2
    obtain ⟨d, k1, k2⟩ := G.gd.gd g _ _ _ e
    refine ⟨vs', d, k1, k2, a1, a2, fun v ev => ?_⟩
    have h3 := h2.2
    rw [ev] at h3
    exact datsB_ok h3
  · cases h2
theorem ckP_ok (ih : IHok B F T f) (G : Gx X B F T C Wx) {e : Option Expr} {i : IE} (h : ckP C f e i = true) : SPt X B F Wx e i := by
  unfold ckP at h
  split at h
  · cases i <;> first | exact .no | cases h
  · rw [Bool.and_eq_true, Bool.not_eq_true'] at h
    exact .some (ih.e G h.2) h.1
theorem ck1_ok (ih : IHok B F T f) (G : Gx X B F T C Wx) {nm fn : Str} {es : List Expr} {args : List IE} (h : ck1 T C f nm fn es args = true) : ∃ e a, es = [e] ∧ args = [a] ∧ fn = nm ∧ Gl X nm ∧ X.mg nm = none ∧ SEx X B F Wx e a := by
  unfold ck1 at h
  split at h
  · rename_i e a
    simp only [Bool.and_eq_true] at h
    obtain ⟨a1, a2⟩ := ckB_ok G h.1.2
    exact ⟨_, _, rfl, rfl, of_decide_eq_true h.1.1, a1, a2, ih.e G h.2⟩
  · cases h
theorem tyNm_ok {c : Cls} (h : c ≠ .row) : bootBuiltins (tyNm c) = some (.type (clsN c)) ∧ tyNm c ≠ "__name__" ∧ (tyNm c == ("__debug__" : Str)) = false := by
  cases c with
  | str => exact ⟨boot_str, by decide, by decide⟩
  | int => exact ⟨boot_int, by decide, by decide⟩
  | bool => exact ⟨boot_bool, by decide, by decide⟩
  | list => exact ⟨boot_list, by decide, by decide⟩
  | tuple => exact ⟨boot_tuple, by decide, by decide⟩
  | dict => exact ⟨boot_dict, by decide, by decide⟩
  | row => exact absurd rfl h
theorem ckIsi_ok (ih : IHok B F T f) (G : Gx X B F T C Wx) {c : Cls} {fn : Str} {es : List Expr} {args : List IE} {p pos : Pos} (h : ckIsi T C f c fn es args = true) : SEx X B F Wx (.Call (.Name fn p) es [] pos) (.blt (.isi c) args) := by
  unfold ckIsi at h
  split at h
  · rename_i e t p2 a
    simp only [Bool.and_eq_true] at h
    obtain ⟨⟨⟨⟨⟨h1, h2⟩, h3⟩, h4⟩, h5⟩, h6⟩ := h
    obtain rfl := of_decide_eq_true h1
    obtain rfl := of_decide_eq_true h4
    have h3 : c ≠ .row := of_decide_eq_true h3
    obtain ⟨a1, a2⟩ := ckB_ok G h2
    obtain ⟨b1, b2⟩ := ckB_ok G h5
    obtain ⟨c1, c2, c3⟩ := tyNm_ok h3
    exact se_isi1 h3 a1 a2 b1 b2 c1 c2 c3 (ih.e G h6)
  · rename_i e t p1 u p2 k tp a
    simp only [Bool.and_eq_true] at h
    obtain ⟨⟨⟨⟨⟨⟨⟨h1, h2⟩, h3⟩, h4⟩, h5⟩, h6⟩, h7⟩, h8⟩ := h
    obtain rfl := of_decide_eq_true h1
    obtain rfl := of_decide_eq_true h3
    obtain rfl := of_decide_eq_true h4
    obtain rfl := of_decide_eq_true h5
    obtain ⟨a1, a2⟩ := ckB_ok G h2
    obtain ⟨b1, b2⟩ := ckB_ok G h6
    obtain ⟨c1, c2⟩ := ckB_ok G h7
    exact se_isiR a1 a2 b1 b2 c1 c2 boot_list boot_tuple (ih.e G h8)
  · cases h
theorem ckMax2_ok (ih : IHok B F T f) (G : Gx X B F T C Wx) {fn : Str} {es : List Expr} {args : List IE} {p pos : Pos} (h : ckMax2 T C f fn es args = true) : SEx X B F Wx (.Call (.Name fn p) es [] pos) (.blt .max2 args) := by
  unfold ckMax2 at h
  split at h
  · rename_i e e' a a'
    simp only [Bool.and_eq_true] at h
    obtain ⟨⟨⟨h1, h2⟩, h3⟩, h4⟩ := h
    obtain rfl := of_decide_eq_true h1
    obtain ⟨a1, a2⟩ := ckB_ok G h2
    have s1 := ih.e G h3
    have s2 := ih.e G h4
    exact se_max2 (t := tNil) (pe_callB (call_max2 G.calm) a1 a2 boot_max (pvs_cons s1 (pvs_cons s2 pvs_nil)) (by decide) (by decide) (s1.ns _ _) (by
      have e1 : starEach [e'] X.env = _ := s2.ns [] X.env
      rw [e1]
      rfl)) (fun _ _ => rfl)
  · cases h
theorem ckBlt_ok (ih : IHok B F T f) (G : Gx X B F T C Wx) {b : BI} {fn : Str} {es : List Expr} {args : List IE} {p pos : Pos} (h : ckBlt T C f b fn es args = true) : SEx X B F Wx (.Call (.Name fn p) es [] pos) (.blt b args) := by
  unfold ckBlt at h
  split at h
  · obtain ⟨e, a, rfl, rfl, rfl, g, m, s⟩ := ck1_ok ih G h
    exact se_fun1 call_lenA g m boot_len (by decide) (by decide) s ansb_len
  · obtain ⟨e, a, rfl, rfl, rfl, g, m, s⟩ := ck1_ok ih G h
    exact se_ty1 call_int1 g m boot_int (by decide) (by decide) s ansb_int
  · obtain ⟨e, a, rfl, rfl, rfl, g, m, s⟩ := ck1_ok ih G h
    exact se_fun1 call_ord g m boot_ord (by decide) (by decide) s ansb_ord
  · obtain ⟨e, a, rfl, rfl, rfl, g, m, s⟩ := ck1_ok ih G h
    exact se_ty1 call_tuple_of g m boot_tuple (by decide) (by decide) s ansb_tuple
  · obtain ⟨e, a, rfl, rfl, rfl, g, m, s⟩ := ck1_ok ih G h
    exact se_ty1 (call_listA G.calm) g m boot_list (by decide) (by decide) s ansb_list
  · obtain ⟨e, a, rfl, rfl, rfl, g, m, s⟩ := ck1_ok ih G h
    exact se_fun1 (cr_max G.calm) g m boot_max (by decide) (by decide) s ansb_max1
  · obtain ⟨e, a, rfl, rfl, rfl, g, m, s⟩ := ck1_ok ih G h
    exact se_fun1 cr_sortedI g m boot_sorted (by decide) (by decide) s ansb_sorted
  · obtain ⟨e, a, rfl, rfl, rfl, g, m, s⟩ := ck1_ok ih G h
    exact se_ty1 call_dictA g m boot_dict (by decide) (by decide) s ansb_dict
  · exact ckIsi_ok ih G h
  · exact ckMax2_ok ih G h
  · cases h
end
end TA

set_option Elab.async false
set_option linter.all false
set_option maxRecDepth 100000
/-! TaCk4: a written expression beside its IR: comprehensions, all of it. -/
namespace TA
open PySem PySem.Spec PyProof.Rows L2
def nmB (C : Ck) (e : Expr) (i : Nat) : Bool := match e with
  | .Name x _ => ckNam C x i
  | _ => false
def ckNms (C : Ck) : List Expr → List Nat → Bool
  | [], [] => true
  | e :: es, i :: is => nmB C e i && ckNms C es is
  | _, _ => false
def ckTg (C : Ck) (e : Expr) (is : List Nat) (tup : Bool) : Bool := match tup with
  | true => (match e with
    | .Tuple es _ _ => ckNms C es is
    | _ => false)
  | false => (match e, is with
    | .Name x _, [i] => ckNam C x i
    | _, _ => false)
def tgG (K : PySem.W.Frag) (is : List Nat) (tup : Bool) : TG := match tup with
  | true => gRow K is
  | false => gName (is.headD 0)
def ckIt (T : Tab) (C : Ck) (f : Ckr) (k : ItK) (its : List IE) (e : Expr) : Bool := notSet e && (match k with
  | .seq => (match its with
    | [i] => f false C e i
    | _ => false)
  | .rng1 => (match e, its with
    | .Call (.Name fn _) [a] [] _, [i] => decide (fn = "range") && ckB T C "range" && f false C a i
    | _, _ => false)
  | .rng2 => (match e, its with
    | .Call (.Name fn _) [a, b] [] _, [i, j] => decide (fn = "range") && ckB T C "range" && f false C a i && f false C b j
    | _, _ => false))
def ckIfs (C : Ck) (f : Ckr) (ifs : List Expr) (c : IE) : Bool := match ifs with
  | [] => (match c with
    | .lit (.bool true) => true
    | _ => false)
  | [e] => f true C e c
  | _ => false
def ownP (C : Ck) (own : List Nat) : List (Str × Nat) := own.map fun i => ((C.N[i]?).getD "", i)
def blkCk (C : Ck) (scope : Scope) : Ck := { N := C.N, sc := relS scope C.sc, fnB := fun x => scope.names.lookup x == some .cell }
def ckBlk (C : Ck) (f : Ckr) (elt tg : Expr) (ifs : List Expr) (scope : Scope) (ielt : IE) (is : List Nat) (tup : Bool) (ic : IE) (own : List Nat) : Bool :=
  blkC C.N C.sc scope (ownP C own) && is.all own.contains && ckTg (blkCk C scope) tg is tup && ckIfs (blkCk C scope) f ifs ic && f false (blkCk C scope) elt ielt
section
variable {B : Tb} {F : Nat → List W → FRes} {T : Tab} {f : Ckr} {X : Cx} {Wx : WX} {C : Ck}
theorem ckNms_ok (G : Gx X B F T C Wx) : ∀ {es : List Expr} {is : List Nat}, ckNms C es is = true → NmEs X es is
  | [], [], _ => .nil
  | [], _ :: _, h => by simp [ckNms] at h
  | _ :: _, [], h => by simp [ckNms] at h
  | e :: es, i :: is, h => by
    rw [ckNms, Bool.and_eq_true] at h
    have h0 := h.1
    unfold nmB at h0
    split at h0
    · exact .cons (ckNam_ok G h0) (ckNms_ok G h.2)
    · cases h0
theorem ckTg_ok (G : Gx X B F T C Wx) {e : Expr} {is : List Nat} {tup : Bool} (h : ckTg C e is tup = true) : Tgt X X.K e is tup (tgG X.K is tup) := by
  cases tup with
  | true =>
    unfold ckTg at h
    dsimp only at h
    split at h
    · exact tgt_row G.calm G.nd (ckNms_ok G h)
    · cases h
  | false =>
    unfold ckTg at h
    dsimp only at h
    split at h
    · exact tgt_name G.nd (ckNam_ok G h)
    · cases h
theorem ckIt_ok (ih : IHok B F T f) (G : Gx X B F T C Wx) {k : ItK} {its : List IE} {tg e : Expr} (h : ckIt T C f k its e = true) : PI X tg e (tIt B X.K F Wx k its) ∧ ∀ x, foldedSetIterable e X.env x = pure x := by
  unfold ckIt at h
  rw [Bool.and_eq_true] at h
  refine ⟨?_, fold_ok h.1⟩
  have h0 := h.2
  split at h0
  · split at h0
    · exact it_seq (ih.e G h0)
    · cases h0
  · split at h0
    · simp only [Bool.and_eq_true] at h0
      obtain rfl := of_decide_eq_true h0.1.1
      obtain ⟨a1, a2⟩ := ckB_ok G h0.1.2
      have s := ih.e G h0.2
      exact it_rng1 a1 a2 (pvs_cons s pvs_nil) s.ns
    · cases h0
  · split at h0
    · simp only [Bool.and_eq_true] at h0
      obtain rfl := of_decide_eq_true h0.1.1.1
      obtain ⟨a1, a2⟩ := ckB_ok G h0.1.1.2
      have s := ih.e G h0.1.2
      have s' := ih.e G h0.2
      exact it_rng2 a1 a2 (pvs_cons s (pvs_cons s' pvs_nil)) s.ns s'.ns
    · cases h0
theorem ckIfs_ok (ih : IHok B F T f) (G : Gx X B F T C WF) {ifs : List Expr} {c : IE} (h : ckIfs C f ifs c = true) : Cnd X B F ifs c := by
  unfold ckIfs at h
  split at h
  · split at h
    · exact cnd_nil
    · cases h
  · exact cnd_one (ih.t G h)
  · cases h
theorem takesF {X : Cx} : Takes X WF := fun _ _ x => by
  obtain ⟨_, _, _, _, _, _, _, _, _, _, _, _, _, _, _, _, z⟩ := x
  exact z.elim
theorem Gd.blk (G : Gd X B F T) (s : Shared) (H : Hp) (scope : Scope) (ce : PySem.Env) (fp : List Addr) : Gd (X.blk s H scope ce fp) B F T :=
  ⟨fun f x np ios e => ⟨(G.fn f x np ios e).ex⟩, fun f x np ks perm e => ⟨(G.kw f x np ks perm e).ex⟩, G.gl, fun g x ks vs e => by
    obtain ⟨d, h1, h2⟩ := G.gd g x ks vs e
    exact ⟨d, ⟨h1.kd, h1.has, h1.val⟩, h2⟩, fun c x e => ⟨(G.er c x e).ex⟩, G.bl, G.hu, G.hr⟩
theorem Gx.blk (G : Gx X B F T C Wx) (s : Shared) (H : Hp) (scope : Scope) (Cl : Addr) (cl : List (Str × Addr)) (fp : List Addr) : Gx (X.blk s H scope (compEnvC scope cl Cl X.env) fp) B F T (blkCk C scope) WF where
  gd := G.gd.blk s H scope _ fp
  calm := G.calm
  nd := G.nd
  N := G.N
  sc := by
    show relS scope X.env.scope = relS scope C.sc
    rw [G.sc]
  fn := fun x h => h
  tk := takesF
theorem ownP_snd (C : Ck) (own : List Nat) : (ownP C own).map (·.2) = own := by
  unfold ownP
  rw [List.map_map]
  conv => rhs; rw [← List.map_id own]
  rfl
theorem ckBlk_ok (ih : IHok B F T f) (G : Gx X B F T C Wx) {elt tg : Expr} {ifs : List Expr} {scope : Scope} {ielt : IE} {is : List Nat} {tup : Bool} {ic : IE} {own : List Nat} (h : ckBlk C f elt tg ifs scope ielt is tup ic own = true) : Blk X B F elt tg ifs scope (ownP C own) ielt ic is tup := by
  unfold ckBlk at h
  simp only [Bool.and_eq_true] at h
  obtain ⟨⟨⟨⟨h1, h2⟩, h3⟩, h4⟩, h5⟩ := h
  refine ⟨by rw [G.N, G.sc]; exact blkOk_by h1, ⟨tgG X.K is tup, fun s H Cl cl fp => ckTg_ok (G.blk s H scope Cl cl fp) h3⟩, fun s H Cl cl fp => ckIfs_ok ih (G.blk s H scope Cl cl fp) h4, fun s H Cl cl fp => ih.e (G.blk s H scope Cl cl fp) h5, fun i hi => ?_⟩
  rw [ownP_snd]
  rw [List.all_eq_true] at h2
  exact List.contains_iff_mem.mp (h2 i hi)
end
/-! ### all of it -/
def ckV (T : Tab) (f : Ckr) (C : Ck) (e : Expr) (ir : IE) : Bool := match ir with
  | .loc i => (match e with
    | .Name x _ => ckVis C x i
    | _ => false)
  | .lit d => ckLit e d
  | .gl g d => (match e with
    | .Name x _ => ckGl T C g d x
    | _ => false)
  | .tup irs => (match e with
    | .Tuple es _ _ => ckEs (f false C) es irs
    | _ => false)
  | .lst irs => (match e with
    | .List es _ => ckEs (f false C) es irs
    | _ => false)
  | .dicE _ => (match e with
    | .Dict [] [] _ => true
    | _ => false)
  | .dicL ks vs => (match e with
    | .Dict kes ves _ => (match optE kes with
      | some kes => ckTxt kes ks && ckTxt ves vs && (dicLW ks vs).isSome
      | none => false)
    | _ => false)
  | .bin o a b => (match e with
    | .BinOp ea op eb _ => opB op o && f false C ea a && f false C eb b
    | _ => false)
  | .neg a => (match e with
    | .UnaryOp .USub ea _ => f false C ea a
    | _ => false)
  | .idx a k => (match e with
    | .Subscript ea ek _ => notSlice ek && f false C ea a && f false C ek k
    | _ => false)
  | .slc a lo hi => (match e with
    | .Subscript ea (.Slice elo ehi none _) _ => f false C ea a && ckP C f elo lo && ckP C f ehi hi
    | _ => false)
  | .call g args => (match e with
    | .Call (.Name x _) es [] _ => ckFn T C f g args x es
    | _ => false)
  | .callk g perm args => (match e, args with
    | .Call (.Name x _) [] [⟨some k1, e1, _⟩, ⟨some k2, e2, _⟩, ⟨some k3, e3, _⟩] _, [a1, a2, a3] => ckGlob C x && (match T.kws g with
      | some (y, np, ks, pm) => decide (x = y) && decide (pm = perm) && decide (perm.length = np) && decide (ks = [k1, k2, k3])
      | none => false) && isValK a1 && isValK a2 && isValK a3 && f false C e1 a1 && f false C e2 a2 && f false C e3 a3
    | _, _ => false)
  | .blt b args => (match e with
    | .Call (.Name fn _) es [] _ => ckBlt T C f b fn es args
    | _ => false)
  | .mth mi j args => (match e with
    | .Call (.Attribute (.Name x _) nm apos) es [] pos => ckVis C x j && decide (nm = mtName mi) && decide (es.length ≤ 1) && (apos.endLine == pos.line) && ckEs (f false C) es args
    | _ => false)
  | .lens j => (match e with
    | .Call (.Name fn _) [.Name x _] [] _ => decide (fn = "len") && ckB T C "len" && ckVis C x j
    | _ => false)
  | .gix g ks vs a => (match e with
    | .Subscript (.Name x _) ek _ => notSlice ek && ckGd T C g ks (some vs) x && f false C ek a
    | _ => false)
  | .lc st ielt is tup k its ic own => (match st, e with
    | false, .ListComp elt [⟨tg, iter, ifs, 0⟩] scope _ => ckIt T C f k its iter && ckBlk C f elt tg ifs scope ielt is tup ic own
    | _, _ => false)
  | _ => false
def ckCmp (T : Tab) (f : Ckr) (C : Ck) (a : Expr) (ops : List CmpOp) (bs : List Expr) (ir : IE) : Bool := match ir with
  | .cmp o ia ib => (match ops, bs with
    | [op], [b] => opC op o && notSet b && f false C a ia && f false C b ib
    | _, _ => false)
  | .chn o o' ia ib ic => (match ops, bs with
    | [op, op'], [b, c] => opC op o && opC op' o' && notSet c && f false C a ia && f false C b ib && f false C c ic
    | _, _ => false)
  | .gin neg g ks ia => (match ops, bs with
    | [op], [.Name x _] => decide (op = if neg then .NotIn else .In) && ckGd T C g ks none x && f false C a ia
    | _, _ => false)
  | _ => false
def okT : Expr → Bool
  | .BoolOp .. => false
  | .Compare .. => false
  | .IfExp .. => false
  | .UnaryOp .Not .. => false
  | _ => true
def ck (T : Tab) : Nat → Ckr
  | 0, _, _, _, _ => false
  | n + 1, t, C, e, ir => match e with
    | .BoolOp op vs pos => (match vs with
      | [] => false
      | [a] => ck T n t C a ir
      | a :: b :: rest => (match op, ir with
        | .And, .and ia ib => ck T n t C a ia && ck T n t C (.BoolOp op (b :: rest) pos) ib
        | .Or, .or ia ib => ck T n t C a ia && ck T n t C (.BoolOp op (b :: rest) pos) ib
        | _, _ => false))
    | .UnaryOp .Not a _ => (match ir with
      | .not ia => ck T n t C a ia
      | _ => false)
    | .Compare a ops bs _ => ckCmp T (ck T n) C a ops bs ir
    | e => okT e && !ir.logic && ckV T (ck T n) C e ir
end TA

set_option Elab.async false
set_option linter.all false
set_option maxRecDepth 100000
/-! TaCk5: a written expression beside its IR: the checker is right. -/
namespace TA
open PySem PySem.Spec PyProof.Rows L2
section
variable {B : Tb} {F : Nat → List W → FRes} {T : Tab} {f : Ckr} {X : Cx} {Wx : WX} {C : Ck}
theorem okT_ok {e : Expr} (h : okT e = true) (env : PySem.Env) : ∀ whole, isTrue e env whole = (do let v ← whole; standAt e.pos; holding [v] (truthy v)) := by
  cases e with
  | BoolOp => cases h
  | Compare => cases h
  | IfExp => cases h
  | UnaryOp op => cases op <;> first | (intro _; rfl) | cases h
  | _ => intro _; rfl
theorem notSet_marks {op : CmpOp} {e : Expr} (h : notSet e = true) : behindInMarks op e = false := by
  cases e <;> first | rfl | cases h
theorem ckV_ok (ih : IHok B F T f) (G : Gx X B F T C Wx) {e : Expr} {ir : IE} (h : ckV T f C e ir = true) : SEx X B F Wx e ir := by
  cases ir with
  | loc i =>
    unfold ckV at h; dsimp only at h
    split at h
    · obtain ⟨a, b, c, d⟩ := ckVis_ok G h
      exact se_loc a b c d
    · cases h
  | lit d => exact ckLit_ok h
  | gl g d =>
    unfold ckV at h; dsimp only at h
    split at h
    · exact ckGl_ok G h
    · cases h
  | tup irs =>
    unfold ckV at h; dsimp only at h
    split at h
    · exact se_tup (ckEs_ok ih G h).1
    · cases h
  | lst irs =>
    unfold ckV at h; dsimp only at h
    split at h
    · exact se_lst (ckEs_ok ih G h).1
    · cases h
  | dicE =>
    unfold ckV at h; dsimp only at h
    split at h
    · exact se_dicE
    · cases h
  | dicL ks vs =>
    unfold ckV at h; dsimp only at h
    split at h
    · split at h
      · rename_i kes e
        simp only [Bool.and_eq_true] at h
        rw [optE_ok e]
        exact se_dicL (ckTxt_ok h.1.1) (ckTxt_ok h.1.2) fun z => by rw [z] at h; cases h.2
      · cases h
    · cases h
  | bin o a b =>
    unfold ckV at h; dsimp only at h
    split at h
    · simp only [Bool.and_eq_true] at h
      obtain ⟨r, h1, h2⟩ := bin_rule (X := X) (B := B) (Wx := Wx) h.1.1
      exact se_bin h1 (ih.e G h.1.2) (ih.e G h.2) h2
    · cases h
  | neg a =>
    unfold ckV at h; dsimp only at h
    split at h
    · exact se_neg (ih.e G h)
    · cases h
  | idx a k =>
    unfold ckV at h; dsimp only at h
    split at h
    · simp only [Bool.and_eq_true] at h
      exact se_idx G.gd.hu (ih.e G h.1.2) (ih.e G h.2) (plain_ok h.1.1)
    · cases h
  | slc a lo hi =>
    unfold ckV at h; dsimp only at h
    split at h
    · simp only [Bool.and_eq_true] at h
      exact se_slc (ih.e G h.1.1) (ckP_ok ih G h.1.2) (ckP_ok ih G h.2)
    · cases h
  | call g args =>
    unfold ckV at h; dsimp only at h
    split at h
    · exact ckFn_ok ih G h
    · cases h
  | callk g perm args =>
    unfold ckV at h; dsimp only at h
    split at h
    · rename_i x p k1 e1 p1 k2 e2 p2 k3 e3 p3 pos a1 a2 a3
      simp only [Bool.and_eq_true] at h
      obtain ⟨⟨⟨⟨⟨⟨⟨h1, h2⟩, h3⟩, h4⟩, h5⟩, h6⟩, h7⟩, h8⟩ := h
      obtain ⟨g1, g2⟩ := ckGlob_ok G h1
      split at h2
      · rename_i y np ks pm e
        simp only [Bool.and_eq_true, decide_eq_true_eq] at h2
        obtain ⟨⟨⟨rfl, rfl⟩, m1⟩, rfl⟩ := h2
        refine se_callk G.tk (G.gd.kw g x np _ pm e) g1 g2 (pks_val (valK_ok h3) (ih.e G h6) (pks_val (valK_ok h4) (ih.e G h7) (pks_val (valK_ok h5) (ih.e G h8) pks_nil))) rfl rfl rfl ?_ m1
        simp [IE.ioB, valK_ok h3, valK_ok h4, valK_ok h5]
      · cases h2
    · cases h
  | blt b args =>
    unfold ckV at h; dsimp only at h
    split at h
    · exact ckBlt_ok ih G h
    · cases h
  | mth mi j args =>
    unfold ckV at h; dsimp only at h
    split at h
    · rename_i x p nm apos es pos
      simp only [Bool.and_eq_true] at h
      obtain ⟨⟨⟨⟨h1, h2⟩, h3⟩, h4⟩, h5⟩ := h
      obtain ⟨a, b, c, d⟩ := ckVis_ok G h1
      obtain rfl := of_decide_eq_true h2
      obtain ⟨k1, k2, k3⟩ := ckEs_ok ih G h5
      have h3 : es.length ≤ 1 := of_decide_eq_true h3
      refine se_mth a b c d k1 ?_ ?_ h4
      · match es, h3, k2 with
        | [], _, _ => exact .inl rfl
        | [e], _, k2 => exact .inr ⟨e, rfl, k2 e (List.mem_cons_self ..)⟩
      · rintro rfl
        exact List.eq_nil_of_length_eq_zero k3.symm
    · cases h
  | lens j =>
    unfold ckV at h; dsimp only at h
    split at h
    · simp only [Bool.and_eq_true] at h
      obtain rfl := of_decide_eq_true h.1.1
      obtain ⟨a1, a2⟩ := ckB_ok G h.1.2
      obtain ⟨a, b, c, d⟩ := ckVis_ok G h.2
      exact se_lens a1 a2 a b c d
    · cases h
  | gix g ks vs a =>
    unfold ckV at h; dsimp only at h
    split at h
    · simp only [Bool.and_eq_true] at h
      obtain ⟨vs', d, k1, k2, k3, k4, k5⟩ := ckGd_ok G h.1.2
      obtain rfl := k5 vs rfl
      exact se_gix k1 k3 k2 k4 (ih.e G h.2) (plain_ok h.1.1)
    · cases h
  | lc st ielt is tup k its ic own =>
    unfold ckV at h; dsimp only at h
    split at h
    · rename_i elt tg iter ifs scope pos
      rw [Bool.and_eq_true] at h
      obtain ⟨k1, k2⟩ := ckIt_ok (tg := tg) ih G h.1
      have r := se_lc (pos := pos) G.calm G.nd k1 (ckBlk_ok ih G h.2) k2
      rw [ownP_snd] at r
      exact r
    · cases h
  | _ => cases h
theorem ckCmp_ok (ih : IHok B F T f) (G : Gx X B F T C Wx) {a : Expr} {ops : List CmpOp} {bs : List Expr} {pos : Pos} {ir : IE} (h : ckCmp T f C a ops bs ir = true) : SEx X B F Wx (.Compare a ops bs pos) ir ∧ PT X (.Compare a ops bs pos) (tTs B X.K F Wx ir) := by
  unfold ckCmp at h
  split at h
  · split at h
    · simp only [Bool.and_eq_true] at h
      obtain ⟨r, h1, h2⟩ := cmp_rule G.gd.hu h.1.1.1
      exact ⟨se_cmp h1 (ih.e G h.1.2) (ih.e G h.2) (notSet_marks h.1.1.2) h2, st_cmp h1 (ih.e G h.1.2) (ih.e G h.2) (notSet_marks h.1.1.2) h2⟩
    · cases h
  · split at h
    · simp only [Bool.and_eq_true] at h
      obtain ⟨⟨⟨⟨⟨h1, h2⟩, h3⟩, h4⟩, h5⟩, h6⟩ := h
      obtain ⟨r, a1, a2⟩ := cmp_rule G.gd.hu h1
      obtain ⟨r', b1, b2⟩ := cmp_rule G.gd.hu h2
      have hm := fun op op' b => show lastMarks [op, op'] [b, _] = false from notSet_marks (op := op') h3
      exact ⟨se_chn a1 b1 (ih.e G h4) (ih.e G h5) (ih.e G h6) (hm _ _ _) a2 b2, st_chn a1 b1 (ih.e G h4) (ih.e G h5) (ih.e G h6) (hm _ _ _) a2 b2⟩
    · cases h
  · split at h
    · simp only [Bool.and_eq_true] at h
      obtain rfl := of_decide_eq_true h.1.1
      obtain ⟨vs', d, k1, k2, k3, k4, k5⟩ := ckGd_ok G h.1.2
      exact ⟨se_gin k1 k3 k2 k4 (ih.e G h.2) rfl, st_gin k1 k3 k2 k4 (ih.e G h.2) rfl⟩
    · cases h
  · cases h
theorem okT_bl {e : Expr} (h : okT e = true) (y : isBl e = true) : False := by
  cases e <;> first | (cases y; done) | (cases h; done)
theorem ck_ok : ∀ n : Nat, IHok B F T (ck T n)
  | 0, _, _, _, _, _, _, _, h => by cases h
  | n + 1, t, C, e, ir, X, Wx, G, h => by
    have ih : IHok B F T (ck T n) := ck_ok n
    unfold ck at h
    split at h
    · rename_i op vs pos
      split at h
      · cases h
      · rename_i a
        obtain ⟨h1, h2⟩ := ih t C a ir X Wx G h
        refine ⟨fun z => se_one (h1 z), fun z => ?_⟩
        have pw : PW X (.BoolOp op [a] pos) (tTs B X.K F Wx ir) := by
          cases op with
          | And => exact pw_and1 (h2 z).1
          | Or => exact pw_or1 (h2 z).1
        exact ⟨pw.pt, fun _ => pw⟩
      · rename_i a b rest
        split at h
        · rw [Bool.and_eq_true] at h
          obtain ⟨a1, a2⟩ := ih t C a _ X Wx G h.1
          obtain ⟨b1, b2⟩ := ih t C _ _ X Wx G h.2
          refine ⟨fun z => se_and (a1 z) (b1 z), fun z => ?_⟩
          have pw := st_and (a2 z).1 ((b2 z).2 rfl)
          exact ⟨pw.pt, fun _ => pw⟩
        · rw [Bool.and_eq_true] at h
          obtain ⟨a1, a2⟩ := ih t C a _ X Wx G h.1
          obtain ⟨b1, b2⟩ := ih t C _ _ X Wx G h.2
          refine ⟨fun z => se_or (a1 z) (b1 z), fun z => ?_⟩
          have pw := st_or (a2 z).1 ((b2 z).2 rfl)
          exact ⟨pw.pt, fun _ => pw⟩
        · cases h
    · split at h
      · obtain ⟨h1, h2⟩ := ih t C _ _ X Wx G h
        exact ⟨fun z => se_not (h1 z), fun z => ⟨st_not (h2 z).1, fun y => by cases y⟩⟩
      · cases h
    · obtain ⟨h1, h2⟩ := ckCmp_ok (pos := _) ih G h
      exact ⟨fun _ => h1, fun _ => ⟨h2, fun y => by cases y⟩⟩
    · simp only [Bool.and_eq_true, Bool.not_eq_true'] at h
      have s := ckV_ok ih G h.2
      refine ⟨fun _ => s, fun _ => ⟨st_truth s h.1.2 (okT_ok h.1.1 X.env), fun y => ?_⟩⟩
      exact (okT_bl h.1.1 y).elim
end
end TA

set_option Elab.async false
set_option linter.all false
set_option maxRecDepth 100000
/-! TaCk6: a written statement beside its IR. -/
namespace TA
open PySem PySem.Spec PyProof.Rows L2
/-- what is known of the classes that are caught -/
structure Gh (X : Cx) (B : Tb) (T : Tab) (sub : Subs) : Prop where
  hd : ∀ k x fld, T.hds k = some (x, fld) → X.mg x = some (.ref (B.CA k)) ∧ XfC X.K (B.CA k) ∧ PySem.W.findIn X.K (.ref (B.CA k)) fld = some none ∧ B.AT k = fld ∧ (∀ c, sub c k = true → c = k) ∧ ∀ c, PySem.W.exmOne X.K (.ref (B.CA c)) (.ref (B.CA k)) = some (sub c k)
/-- what is known of the place of a statement -/
structure Gs (X : Cx) (B : Tb) (F : Nat → List W → FRes) (T : Tab) (C : Ck) (sub : Subs) (Wx : WX) : Prop where
  gx : Gx X B F T C Wx
  gh : Gh X B T sub
  po : PassesOwn (model X.prog X.w) X.A X.env X.xe
  st : X.stack = X.env :: X.outer
  fr : X.env.frame = some X.env.locals
  kd : X.env.scope.kind = .function
def notComp : Expr → Bool
  | .ListComp .. => false
  | .SetComp .. => false
  | .DictComp .. => false
  | _ => true
def notTup : Expr → Bool
  | .Tuple .. => false
  | _ => true
def swB (C : Ck) (y : Str) (scope : Scope) (py pos : Pos) : Bool := lclB C.sc y && (py.line == pos.line) && !(scope.names.any fun (n, k) => n == y && (k == .local || k == .cell))
def ckHd (T : Tab) (ios : List Nat) (C : Ck) (h : ExceptHandler) (i : Nat × Option Nat × HS) : Bool := match h, i with
  | .ExceptHandler (some (.Name xc _)) (some n) [.Assign [.Name told _] (.Tuple [.Constant (.str z) _ _, .Attribute (.Name n' _) fld _] _ _) _] _, (k, some ie, .setT j [.lit (.str z'), .fld]) =>
    (match T.hds k with
    | some (x, f) => decide (xc = x) && decide (fld = f)
    | none => false) && decide (n = n') && decide (z = z') && ckGlob C xc && decide (C.N[ie]? = some n) && lclB C.sc n && !(n == ("__debug__" : Str)) && !(n == ("__classdict__" : Str)) && ckNam C told j && !ios.contains ie && !ios.contains j
  | _, _ => false
def ckHds (T : Tab) (ios : List Nat) (C : Ck) : List ExceptHandler → List (Nat × Option Nat × HS) → Bool
  | [], [] => true
  | h :: hs, i :: is => ckHd T ios C h i && ckHds T ios C hs is
  | _, _ => false
def ckAsg (T : Tab) (f : Ckr) (C : Ck) (i : Nat) (y : Str) (py : Pos) (e : Expr) (ir : IE) : Bool := match e with
  | .ListComp elt [⟨tg, iter, ifs, 0⟩] scope pos => (match ir with
    | .lc false ielt is tup k its ic own => swB C y scope py pos && decide (C.N[i]? = some y) && ckIt T C f k its iter && ckBlk C f elt tg ifs scope ielt is tup ic own
    | _ => false)
  | .SetComp elt [⟨tg, iter, ifs, 0⟩] scope pos => (match ir with
    | .lc true ielt is tup k its ic own => swB C y scope py pos && decide (C.N[i]? = some y) && ckIt T C f k its iter && ckBlk C f elt tg ifs scope ielt is tup ic own
    | _ => false)
  | e => notComp e && ckNam C y i && f false C e ir
def isLoc : IE → Bool
  | .loc _ => true
  | _ => false
def ckRet (f : Ckr) (C : Ck) (ios : List Nat) (e : Expr) (ir : IE) : Bool := match ir with
  | .loc i => if ios.contains i then f false C e ir else (match e with
    | .Name x _ => ckVis C x i
    | _ => false)
  | _ => f false C e ir
def ckS1 (T : Tab) (f : Ckr) (ios : List Nat) (rec : List Stmt → List IS → Bool) (C : Ck) (s : Stmt) (i : IS) : Bool := match i with
  | .pass => (match s with
    | .Pass _ => true
    | .Expr (.Constant (.str _) _ _) _ => true
    | _ => false)
  | .brk => (match s with
    | .Break _ => true
    | _ => false)
  | .cont => (match s with
    | .Continue _ => true
    | _ => false)
  | .ex ir => (match s with
    | .Expr e _ => notComp e && f false C e ir
    | _ => false)
  | .ret ir => (match s with
    | .Return (some e) _ => ckRet f C ios e ir
    | _ => false)
  | .retN => (match s with
    | .Return none _ => true
    | _ => false)
  | .ifS c a b => (match s with
    | .If ec ea eb _ => f true C ec c && rec ea a && rec eb b
    | _ => false)
  | .forS is tup k its body => (match s with
    | .For tg iter b [] _ => is.all (fun i => !ios.contains i) && ckIt T C f k its iter && ckTg C tg is tup && rec b body
    | _ => false)
  | .whileS c body => (match s with
    | .While ec b [] _ => f true C ec c && rec b body
    | _ => false)
  | .asg i ir => (match s with
    | .Assign [.Name x px] e _ => !ios.contains i && ckAsg T f C i x px e ir
    | _ => false)
  | .asgT is ir => (match s with
    | .Assign [.Tuple es _ _] e _ => is.all (fun i => !ios.contains i) && notTup e && ckNms C es is && f false C e ir
    | _ => false)
  | .sidx j k e => (match s with
    | .Assign [.Subscript (.Name x _) ke _] ee _ => notSlice ke && ckVis C x j && f false C ke k && f false C ee e
    | _ => false)
  | .raise c args => (match s, args with
    | .Raise (some (.Call (.Name x _) [e] [] _)) none _, [ie] => ckGlob C x && (match T.ers c with
      | some y => decide (x = y)
      | none => false) && f false C e ie
    | _, _ => false)
  | .tryS sb hs => (match s with
    | .Try body (h0 :: hds) [] [] _ => rec body sb && ckHds T ios C (h0 :: hds) hs
    | _ => false)
  | _ => false
def ckSs (T : Tab) (f : Ckr) (ios : List Nat) (C : Ck) : Nat → List Stmt → List IS → Bool
  | 0, _, _ => false
  | n + 1, ss, is => match ss, is with
    | [], [] => true
    | s :: ss, i :: is => ckS1 T f ios (ckSs T f ios C n) C s i && ckSs T f ios C n ss is
    | _, _ => false
section
variable {B : Tb} {F : Nat → List W → FRes} {T : Tab} {f : Ckr} {X : Cx} {Wx : WX} {C : Ck} {sub : Subs} {fu : Nat} {ios : List Nat}
theorem notComp_sw {e : Expr} {t : Option Expr} {l : Nat} {env : PySem.Env} (h : notComp e = true) : swapsWith e t l env = pure false := by
  cases e <;> first | rfl | (cases h; done)
theorem sub_sw {e ve ke : Expr} {pos : Pos} {l : Nat} {env : PySem.Env} : swapsWithSole [.Subscript ve ke pos] e l env = pure false := by
  cases e <;> rfl
theorem tup_sw {e : Expr} {es : List Expr} {k : Nat} {pos : Pos} {l : Nat} {env : PySem.Env} : swapsWithSole [.Tuple es k pos] e l env = pure false := by
  cases e <;> rfl
theorem sub_st {e ve ke : Expr} {pos : Pos} {env : PySem.Env} : swappedStores [.Subscript ve ke pos] e env = pure none := by
  cases e <;> rfl
theorem tup_st {e : Expr} {es : List Expr} {k : Nat} {pos : Pos} {env : PySem.Env} (h : notTup e = true) : swappedStores [.Tuple es k pos] e env = pure none := by
  cases e <;> first | rfl | (cases h; done)
theorem swB_ok (G : Gs X B F T C sub Wx) {y : Str} {scope : Scope} {py pos : Pos} (h : swB C y scope py pos = true) : X.env.scope.names.lookup y = some .local ∧ (∀ elt gs l, swapsWith (.ListComp elt gs scope pos) (some (.Name y py)) l X.env = pure true) ∧ ∀ elt gs l, swapsWith (.SetComp elt gs scope pos) (some (.Name y py)) l X.env = pure true := by
  unfold swB at h
  simp only [Bool.and_eq_true, Bool.not_eq_true'] at h
  have hy : X.env.scope.names.lookup y = some .local := by rw [G.gx.sc]; exact lcl_ok h.1.1
  refine ⟨hy, fun elt gs l => sw_true G.kd hy h.1.2 h.2, fun elt gs l => ?_⟩
  have ky : X.env.kindOf y = some .local := hy
  have hb : X.env.blockKind = .function := by unfold Env.blockKind; rw [G.kd]; rfl
  have ha := h.2
  have hl := h.1.2
  unfold swapsWith
  simp only [hb, ky, ha, Expr.pos, hl]
  rfl
theorem Gs.tr (G : Gs X B F T C sub Wx) {pn : List (Addr × Obj)} {xe : Value → Shared → Prop} {W : WX} (tk : Takes (X.tr pn xe) W) (po : PassesOwn (model X.prog X.w) X.A X.env xe) : Gs (X.tr pn xe) B F T C sub W where
  gx := { gd := ⟨fun f x np ios e => ⟨(G.gx.gd.fn f x np ios e).ex⟩, fun f x np ks perm e => ⟨(G.gx.gd.kw f x np ks perm e).ex⟩, G.gx.gd.gl, fun g x ks vs e => by
            obtain ⟨d, h1, h2⟩ := G.gx.gd.gd g x ks vs e
            exact ⟨d, ⟨h1.kd, h1.has, h1.val⟩, h2⟩, fun c x e => ⟨(G.gx.gd.er c x e).ex⟩, G.gx.gd.bl, G.gx.gd.hu, G.gx.gd.hr⟩
          calm := G.gx.calm, nd := G.gx.nd, N := G.gx.N, sc := G.gx.sc, fn := G.gx.fn, tk := tk }
  gh := ⟨G.gh.hd⟩
  po := po
  st := G.st
  fr := G.fr
  kd := G.kd
theorem ckHd_ok (G : Gs X B F T C sub Wx) {h : ExceptHandler} {i : Nat × Option Nat × HS} (hc : ckHd T ios C h i = true) : HdOk X B sub ios h i := by
  unfold ckHd at hc
  split at hc
  · rename_i xc np n told pn z j pz n' pe fld pa kt pt pos pos' k ie jj z'
    simp only [Bool.and_eq_true, Bool.not_eq_true'] at hc
    obtain ⟨⟨⟨⟨⟨⟨⟨⟨⟨⟨h1, h2⟩, h3⟩, h4⟩, h5⟩, h6⟩, h7⟩, h8⟩, h9⟩, h10⟩, h11⟩ := hc
    obtain rfl := of_decide_eq_true h2
    obtain rfl := of_decide_eq_true h3
    split at h1
    · rename_i x ff e
      rw [Bool.and_eq_true] at h1
      obtain rfl := of_decide_eq_true h1.1
      obtain rfl := of_decide_eq_true h1.2
      obtain ⟨a1, a2, a3, a4, a5, a6⟩ := G.gh.hd k _ _ e
      obtain ⟨g1, g2⟩ := ckGlob_ok G.gx h4
      exact .setT h10 h11 ⟨g1, g2, .inl a1⟩ (by rw [G.gx.N]; exact of_decide_eq_true h5) (show X.env.scope.names.lookup n = some .local by rw [G.gx.sc]; exact lcl_ok h6) h7 h8 (ckNam_ok G.gx h9) a2 a3 a4 a5 a6 rfl
    · cases h1
  · cases hc
theorem ckHds_ok (G : Gs X B F T C sub Wx) : ∀ {hs : List ExceptHandler} {is : List (Nat × Option Nat × HS)}, ckHds T ios C hs is = true → HdsOk X B sub ios hs is
  | [], [], _ => .nil
  | [], _ :: _, h => by simp [ckHds] at h
  | _ :: _, [], h => by simp [ckHds] at h
  | h :: hs, i :: is, hc => by
    rw [ckHds, Bool.and_eq_true] at hc
    exact .cons (ckHd_ok G hc.1) (ckHds_ok G hc.2)
end
end TA

set_option Elab.async false
set_option linter.all false
set_option maxRecDepth 100000
/-! TaCk7: a written statement beside its IR: the checker is right. -/
namespace TA
open PySem PySem.Spec PyProof.Rows L2
section
variable {B : Tb} {F : Nat → List W → FRes} {T : Tab} {f : Ckr} {X : Cx} {Wx : WX} {C : Ck} {sub : Subs} {fu : Nat} {ios : List Nat}
def RecOk (B : Tb) (F : Nat → List W → FRes) (T : Tab) (C : Ck) (sub : Subs) (fu : Nat) (ios : List Nat) (rec : List Stmt → List IS → Bool) : Prop := ∀ (X : Cx) (Wx : WX) (ss : List Stmt) (is : List IS), Gs X B F T C sub Wx → rec ss is = true → PSs X ss (tSs B X.K F sub fu ios Wx is)
theorem ckAsg_ok (ih : IHok B F T f) (G : Gs X B F T C sub Wx) {i : Nat} {y : Str} {py pos : Pos} {e : Expr} {ir : IE} (hio : ios.contains i = false) (h : ckAsg T f C i y py e ir = true) : PS X (.Assign [.Name y py] e pos) (tSt B X.K F sub fu ios Wx (.asg i ir)) := by
  unfold ckAsg at h
  split at h
  · rename_i elt tg iter ifs scope p
    split at h
    · simp only [Bool.and_eq_true] at h
      obtain ⟨⟨⟨h1, h2⟩, h3⟩, h4⟩ := h
      obtain ⟨a1, a2, a3⟩ := swB_ok G h1
      obtain ⟨k1, k2⟩ := ckIt_ok (tg := tg) ih G.gx h3
      have r := ss_asgLc (sub := sub) (fu := fu) (ios := ios) (py := py) (pos := p) (spos := pos) hio G.gx.calm G.gx.nd (by rw [G.gx.N]; exact of_decide_eq_true h2) a1 (a2 _ _ _) k1 (ckBlk_ok ih G.gx h4) k2
      rw [ownP_snd] at r
      exact r
    · cases h
  · rename_i elt tg iter ifs scope p
    split at h
    · simp only [Bool.and_eq_true] at h
      obtain ⟨⟨⟨h1, h2⟩, h3⟩, h4⟩ := h
      obtain ⟨a1, a2, a3⟩ := swB_ok G h1
      obtain ⟨k1, k2⟩ := ckIt_ok (tg := tg) ih G.gx h3
      have r := ss_asgSc (sub := sub) (fu := fu) (ios := ios) (py := py) (pos := p) (spos := pos) hio G.gx.calm G.gx.nd (by rw [G.gx.N]; exact of_decide_eq_true h2) a1 (a3 _ _ _) k1 (ckBlk_ok ih G.gx h4) k2
      rw [ownP_snd] at r
      exact r
    · cases h
  · simp only [Bool.and_eq_true] at h
    have n := ckNam_ok G.gx h.1.2
    exact ss_asg hio G.gx.nd n.at_ n.loc (ih.e G.gx h.2) (notComp_sw h.1.1) n.fn
theorem ckRet_ok (ih : IHok B F T f) (G : Gs X B F T C sub Wx) {e : Expr} {ir : IE} {pos : Pos} (h : ckRet f C ios e ir = true) : PS X (.Return (some e) pos) (tSt B X.K F sub fu ios Wx (.ret ir)) := by
  unfold ckRet at h
  split at h
  · rename_i i
    split at h
    · rename_i hi
      refine ss_ret (ih.e G.gx h) fun env => ?_
      rw [retR, if_pos hi]
      simp only [evX]
    · rename_i hi
      split at h
      · obtain ⟨a, b, c, d⟩ := ckVis_ok G.gx h
        exact ss_retL a b c d (by simpa using hi)
      · cases h
  · rename_i hne
    refine ss_ret (ih.e G.gx h) fun env => ?_
    cases ir <;> first | rfl | exact (hne _ rfl).elim
theorem alls_ok {is ios : List Nat} (h : is.all (fun i => !ios.contains i) = true) : ∀ i ∈ is, ios.contains i = false := fun i hi => by
  rw [List.all_eq_true] at h
  have := h i hi
  rwa [Bool.not_eq_true'] at this
theorem ckS1_ok (ih : IHok B F T f) {rec : List Stmt → List IS → Bool} (hr : RecOk B F T C sub fu ios rec) (G : Gs X B F T C sub Wx) {s : Stmt} {i : IS} (h : ckS1 T f ios rec C s i = true) : PS X s (tSt B X.K F sub fu ios Wx i) := by
  cases i with
  | pass =>
    unfold ckS1 at h; dsimp only at h
    split at h
    · exact ss_pass
    · exact ss_doc
    · cases h
  | brk =>
    unfold ckS1 at h; dsimp only at h
    split at h
    · exact ss_brk
    · cases h
  | cont =>
    unfold ckS1 at h; dsimp only at h
    split at h
    · exact ss_cont
    · cases h
  | ex ir =>
    unfold ckS1 at h; dsimp only at h
    split at h
    · rw [Bool.and_eq_true] at h
      exact ss_expr (ih.e G.gx h.2) (notComp_sw h.1)
    · cases h
  | ret ir =>
    unfold ckS1 at h; dsimp only at h
    split at h
    · exact ckRet_ok ih G h
    · cases h
  | retN =>
    unfold ckS1 at h; dsimp only at h
    split at h
    · exact ss_retN
    · cases h
  | ifS c a b =>
    unfold ckS1 at h; dsimp only at h
    split at h
    · simp only [Bool.and_eq_true] at h
      exact ss_if (ih.t G.gx h.1.1) (hr X Wx _ _ G h.1.2) (hr X Wx _ _ G h.2)
    · cases h
  | forS is tup k its body =>
    unfold ckS1 at h; dsimp only at h
    split at h
    · simp only [Bool.and_eq_true] at h
      obtain ⟨k1, k2⟩ := ckIt_ok ih G.gx h.1.1.2
      exact ss_for (alls_ok h.1.1.1) G.po G.gx.calm k1 (ckTg_ok G.gx h.1.2) (hr X Wx _ _ G h.2) k2
    · cases h
  | whileS c body =>
    unfold ckS1 at h; dsimp only at h
    split at h
    · simp only [Bool.and_eq_true] at h
      exact ss_while G.po (ih.t G.gx h.1) (hr X Wx _ _ G h.2)
    · cases h
  | asg i ir =>
    unfold ckS1 at h; dsimp only at h
    split at h
    · rw [Bool.and_eq_true, Bool.not_eq_true'] at h
      exact ckAsg_ok ih G h.1 h.2
    · cases h
  | asgT is ir =>
    unfold ckS1 at h; dsimp only at h
    split at h
    · simp only [Bool.and_eq_true] at h
      exact ss_asgT (alls_ok h.1.1.1) G.gx.calm G.gx.nd (ckNms_ok G.gx h.1.2) (ih.e G.gx h.2) tup_sw (tup_st h.1.1.2)
    · cases h
  | sidx j k e =>
    unfold ckS1 at h; dsimp only at h
    split at h
    · rename_i x p ke p' ee pos
      simp only [Bool.and_eq_true] at h
      obtain ⟨a, b, c, d⟩ := ckVis_ok G.gx h.1.1.2
      have hn := h.1.1.1
      exact ss_sidx G.gx.gd.hu a b c d (ih.e G.gx h.1.2) (ih.e G.gx h.2) (fun v => by cases ke <;> first | rfl | (cases hn; done)) sub_sw sub_st
    · cases h
  | raise c args =>
    unfold ckS1 at h; dsimp only at h
    split at h
    · simp only [Bool.and_eq_true] at h
      obtain ⟨g1, g2⟩ := ckGlob_ok G.gx h.1.1
      have h1 := h.1.2
      split at h1
      · rename_i y e
        obtain rfl := of_decide_eq_true h1
        have s := ih.e G.gx h.2
        exact ss_raise1 G.gx.calm G.gx.tk (G.gx.gd.er c _ e) G.gx.gd.hr g1 g2 (pvs_cons s pvs_nil) s.ns
      · cases h1
    · cases h
  | tryS sb hs =>
    unfold ckS1 at h; dsimp only at h
    split at h
    · rw [Bool.and_eq_true] at h
      exact ss_try G.st G.fr G.gx.nd G.gx.tk (fun W pn xe tk po => hr _ W _ _ (G.tr tk po) h.1) (ckHds_ok G h.2)
    · cases h
  | _ => cases h
theorem ckSs_ok (ih : IHok B F T f) : ∀ n : Nat, RecOk B F T C sub fu ios (ckSs T f ios C n)
  | 0, _, _, _, _, _, h => by cases h
  | n + 1, X, Wx, ss, is, G, h => by
    have r := ckSs_ok ih n
    unfold ckSs at h
    split at h
    · exact ss_nil
    · rw [Bool.and_eq_true] at h
      exact ss_cons (ckS1_ok ih r G h.1) (r X Wx _ _ G h.2)
    · cases h
end
end TA

set_option Elab.async false
set_option linter.all false
set_option maxRecDepth 100000
/-! TaDef: a def keeps its promise. -/
namespace TA
open PySem PySem.Spec PyProof.Rows L2
section
variable {X : Cx} {B : Tb} {K : PySem.W.Frag} {F : Nat → List W → FRes} {sub : Subs} {fu : Nat} {ios : List Nat} {Wx : WX} {H H' H0 H1 : Hp} {Fz Fz' Fz1 Fz0 : Addr → Prop} {S S' S1 S0 : Own} {σ : L2.St} {m : Md} {q q' : Bool} {Q Q' : VK} {env env' : Env} {D : Ends} {T : Tab}
def ownOf (Ts : List (List Addr)) : Own := fun i => (Ts[i]?).getD []
theorem ownOf_mem {Ts : List (List Addr)} {i : Nat} {a : Addr} (h : a ∈ ownOf Ts i) : ∃ T, Ts[i]? = some T ∧ a ∈ T := by
  unfold ownOf at h
  cases e : Ts[i]? with
  | none => rw [e] at h; exact nomatch h
  | some T => rw [e] at h; exact ⟨T, rfl, h⟩
theorem ownOf_flat {Ts : List (List Addr)} {i : Nat} {a : Addr} (h : a ∈ ownOf Ts i) : a ∈ Ts.flatten := by
  obtain ⟨T, e, h⟩ := ownOf_mem h
  exact List.mem_flatten.mpr ⟨T, List.mem_of_getElem? e, h⟩
theorem RepWl.len3 : ∀ {vs : List V} {ws : List W} {Ts : List (List Addr)}, RepWl K H Fz vs ws Ts → vs.length = ws.length ∧ Ts.length = ws.length
  | _, _, _, .nil => ⟨rfl, rfl⟩
  | _, _, _, .cons _ r => ⟨congrArg (· + 1) r.len3.1, congrArg (· + 1) r.len3.2⟩
theorem RepWl.get : ∀ {vs : List V} {ws : List W} {Ts : List (List Addr)}, RepWl K H Fz vs ws Ts → ∀ {i : Nat} {w : W}, ws[i]? = some w → ∃ v, vs[i]? = some v ∧ RepW K H Fz v w (ownOf Ts i)
  | _, _, _, .nil, _, _, h => by simp at h
  | _, _, _, .cons r _, 0, _, h => by simp at h; subst h; exact ⟨_, rfl, r⟩
  | _, _, _, .cons _ r, i + 1, _, h => by
    obtain ⟨v, e, q⟩ := r.get (i := i) (by simpa using h)
    exact ⟨v, by simpa using e, q⟩
theorem flat_nodup : ∀ {Ts : List (List Addr)}, Ts.flatten.Nodup → ∀ {i j : Nat} {a : Addr}, a ∈ ownOf Ts i → a ∈ ownOf Ts j → i = j
  | [], _, i, _, _, h, _ => by simp [ownOf] at h
  | T :: Ts, nd, i, j, a, hi, hj => by
    rw [List.flatten_cons] at nd
    have n := List.nodup_append.mp nd
    cases i with
    | zero => cases j with
      | zero => rfl
      | succ j => exact absurd rfl (n.2.2 a (by simpa [ownOf] using hi) a (ownOf_flat (Ts := Ts) (i := j) (by simpa [ownOf] using hj)))
    | succ i => cases j with
      | zero => exact absurd rfl (n.2.2 a (by simpa [ownOf] using hj) a (ownOf_flat (Ts := Ts) (i := i) (by simpa [ownOf] using hi)))
      | succ j => exact congrArg (· + 1) (flat_nodup n.2.1 (by simpa [ownOf] using hi) (by simpa [ownOf] using hj))
theorem flat_nod : ∀ {Ts : List (List Addr)}, Ts.flatten.Nodup → ∀ i : Nat, (ownOf Ts i).Nodup
  | [], _, i => by simp [ownOf]
  | T :: Ts, nd, i => by
    rw [List.flatten_cons] at nd
    have n := List.nodup_append.mp nd
    cases i with
    | zero => simpa [ownOf] using n.1
    | succ i => simpa [ownOf] using flat_nod n.2.1 i
theorem rel_start {N : List Str} {n : Nat} {vs : List V} {ws : List W} {Ts : List (List Addr)} (r : RepWl K H Fz vs ws Ts) (nd : Ts.flatten.Nodup) (nf : ∀ a ∈ Ts.flatten, ¬ Fz a) (hf : ∀ a, Fz a → H a ≠ none) (hN : N.length = n) (hl : vs.length ≤ n) (th : ∀ i a, a ∈ ownOf Ts i → H a ≠ none) :
    Rel K H Fz (ownOf Ts) (L2.start N vs) (ws.map some ++ List.replicate (n - vs.length) none) where
  well := ⟨hf, fun i a h => ⟨th i a h, nf a (ownOf_flat h)⟩, fun i j a h1 h2 => flat_nodup nd h1 h2, flat_nod nd⟩
  len := by
    unfold L2.start
    rw [List.length_append, List.length_append, List.length_map, List.length_map, List.length_replicate, List.length_replicate, r.len3.1, hN]
  rep := fun i w h => by
    have hw : ws[i]? = some w := by
      rw [List.getElem?_append] at h
      split at h
      · rw [List.getElem?_map] at h
        obtain ⟨w', e, e'⟩ := Option.map_eq_some_iff.mp h
        cases e'
        exact e
      · rw [List.getElem?_replicate] at h
        split at h <;> cases h
    obtain ⟨v, ev, rv⟩ := r.get hw
    refine ⟨v, ?_, rv⟩
    unfold L2.start
    rw [List.getElem?_append_left (by rw [List.length_map]; exact (List.getElem?_eq_some_iff.mp ev).1), List.getElem?_map, ev]
    rfl
theorem RepWl.own_there {vs : List V} {ws : List W} {Ts : List (List Addr)} (r : RepWl K H Fz vs ws Ts) (i : Nat) (a : Addr) (h : a ∈ ownOf Ts i) : H a ≠ none := by
  obtain ⟨T, e, ha⟩ := ownOf_mem h
  have hi : i < ws.length := by rw [← r.len3.2]; exact (List.getElem?_eq_some_iff.mp e).1
  obtain ⟨w, ew⟩ : ∃ w, ws[i]? = some w := ⟨_, List.getElem?_eq_getElem hi⟩
  obtain ⟨v, _, rv⟩ := r.get ew
  exact rv.there a h
theorem start_at {N : List Str} {vs : List V} {j : Nat} (h : j < vs.length) : (L2.start N vs)[j]? = (vs[j]?).map some := by
  unfold L2.start
  rw [List.getElem?_append_left (by rw [List.length_map]; exact h), List.getElem?_map]
/-- the in-out parameters at the end -/
theorem outs_rep {N : List Str} {vs : List V} {σ' : L2.St} (R : Rel K H' Fz' S' σ' env) : ∀ {js : List Nat} {outs : List W}, outsOf env js = some outs → (∀ j ∈ js, j < vs.length ∧ σ'[j]? = (L2.start N vs)[j]?) → RepWl K H' Fz' (pickV js vs) outs (js.map S')
  | [], outs, h, _ => by rw [outsOf] at h; cases h; exact .nil
  | j :: js, outs, h, hj => by
    rw [outsOf] at h
    split at h
    · rename_i w ew
      obtain ⟨ws, e, rfl⟩ := Option.map_eq_some_iff.mp h
      obtain ⟨hlt, es⟩ := hj j (List.mem_cons_self ..)
      obtain ⟨v, ev, rv⟩ := R.rep j w ew
      rw [es, start_at hlt] at ev
      obtain ⟨v', ev', e2⟩ := Option.map_eq_some_iff.mp ev
      cases e2
      have : pickV (j :: js) vs = v :: pickV js vs := by
        unfold pickV
        rw [List.filterMap_cons, ev']
      rw [this, List.map_cons]
      exact .cons rv (outs_rep R e fun k hk => hj k (List.mem_cons_of_mem _ hk))
    · cases h
theorem tos_nodup {σ' : L2.St} (R : Rel K H' Fz' S' σ' env) : ∀ {js : List Nat}, js.Nodup → (js.map S').flatten.Nodup
  | [], _ => List.nodup_nil
  | j :: js, nd => by
    rw [List.map_cons, List.flatten_cons]
    have n := List.nodup_cons.mp nd
    refine List.nodup_append.mpr ⟨R.well.nod j, tos_nodup R n.2, fun a ha b hb z => ?_⟩
    subst z
    obtain ⟨T, hT, hb⟩ := List.mem_flatten.mp hb
    obtain ⟨k, hk, rfl⟩ := List.mem_map.mp hT
    exact n.1 (R.well.dis j k a ha hb ▸ hk)
theorem tos_pair {Ts : List (List Addr)} (g : Grow H Fz (ownOf Ts) H' Fz' S') : ∀ {js : List Nat}, (∀ j ∈ js, j < Ts.length) → Paired (fun To Ti => ∀ a ∈ To, H a = none ∨ a ∈ Ti) (js.map S') (pickV js Ts)
  | [], _ => .nil
  | j :: js, h => by
    have hlt := h j (List.mem_cons_self ..)
    obtain ⟨T, eT⟩ : ∃ T, Ts[j]? = some T := ⟨_, List.getElem?_eq_getElem hlt⟩
    have : pickV (j :: js) Ts = T :: pickV js Ts := by
      unfold pickV
      rw [List.filterMap_cons, eT]
    rw [this, List.map_cons]
    refine .cons (fun a ha => ?_) (tos_pair g fun k hk => h k (List.mem_cons_of_mem _ hk))
    rcases g.own j a ha with z | z
    · right
      unfold ownOf at z
      rw [eT] at z
      exact z
    · exact .inl z
/-- a body's end is the def's -/
theorem body_end {N : List Str} {np : Nat} {vs : List V} {Ts : List (List Addr)} {E : XK} {o : Out} (hl : vs.length = np) (hT : Ts.length = np) (hio : ∀ j ∈ ios, j < np) (nio : ios.Nodup) (z : ∀ i, i < np → i ∉ ios → Ts[i]? = some [])
    (p : PF B K ios vs H Fz Ts Q E (match o with
    | .ret w env => FRes.of w (outsOf env ios)
    | .next env => FRes.of (.val .none) (outsOf env ios)
    | .exc c x _ => .exc c x
    | _ => .stuck)) : PSt B K H Fz (ownOf Ts) (L2.start N vs) ios { nx := fun _ H' => Q .non H', rt := Q, bk := fun _ _ => False, ct := fun _ _ => False } (fun cls d _ H => E cls d H) o := by
  have gflat : ∀ {H' : Hp} {Fz' : Addr → Prop} {S' : Own}, Grow H Fz (ownOf Ts) H' Fz' S' → Grow H Fz (fun _ => Ts.flatten) H' Fz' (fun _ => []) := fun g =>
    ⟨fun a o e no nf => g.keep a o e (fun i h => no 0 (ownOf_flat h)) nf, g.rd, g.fz, fun a f => (g.new a f).imp id fun y => y.imp id fun ⟨i, h⟩ => ⟨0, ownOf_flat h⟩, fun _ _ h => (nomatch h), g.there⟩
  have fin : ∀ {w : W} {e : Env}, PF B K ios vs H Fz Ts Q E (FRes.of w (outsOf e ios)) → ∀ (v : V) (σ' : L2.St) (H' : Hp) (Fz' : Addr → Prop) (S' : Own) (T : List Addr), Kp ios (L2.start N vs) σ' → Rel K H' Fz' S' σ' e → Grow H Fz (ownOf Ts) H' Fz' S' → RepW K H' Fz' v w T → T.Nodup →
      (∀ a ∈ T, ¬ Fz' a ∧ (H a = none ∨ ∃ j, j ∉ ios ∧ a ∈ ownOf Ts j) ∧ ∀ j ∈ ios, a ∉ S' j) → Q v H' := by
    intro w e p v σ' H' Fz' S' T kp R g r nd h
    cases eo : outsOf e ios with
    | none => rw [eo] at p; exact False.elim p
    | some outs =>
      rw [eo] at p
      refine p v H' Fz' T (ios.map S') r (outs_rep (N := N) R eo fun j hj => ⟨by rw [hl]; exact hio j hj, kp j hj⟩) (gflat g) R.well.fz (List.nodup_append.mpr ⟨nd, tos_nodup R nio, fun a ha b hb y => ?_⟩) (fun a ha => ⟨?_, (h a ha).1⟩) (fun a ha => ?_) (tos_pair g fun j hj => by rw [hT]; exact hio j hj)
      · subst y
        obtain ⟨T', hT', hb⟩ := List.mem_flatten.mp hb
        obtain ⟨k, hk, rfl⟩ := List.mem_map.mp hT'
        exact (h a ha).2.2 k hk hb
      · rcases (h a ha).2.1 with y | ⟨j, nj, y⟩
        · exact y
        · obtain ⟨T', e', y⟩ := ownOf_mem y
          have hlt : j < np := by rw [← hT]; exact (List.getElem?_eq_some_iff.mp e').1
          rw [z j hlt nj] at e'
          cases e'
          exact nomatch y
      · obtain ⟨T', hT', hb⟩ := List.mem_flatten.mp ha
        obtain ⟨k, hk, rfl⟩ := List.mem_map.mp hT'
        exact (R.well.own k a hb).2
  cases o with
  | stuck => exact p
  | brk e => exact False.elim p
  | cont e => exact False.elim p
  | exc c d e => exact fun σ' H' Fz' S' cls od kp R g x => p H' Fz' cls od (gflat g) R.well.fz x
  | next e => exact fun σ' H' Fz' S' kp R g => fin p .non σ' H' Fz' S' [] kp R g (.val .non) List.nodup_nil fun a h => nomatch h
  | ret w e => exact fin p
/-- what is to be checked of a def -/
def ckDef (T : Tab) (M M2 : Nat) (N ps : List Str) (st : Stmt) (d : FDef) : Bool := ckSs T (ck T M) d.ios ⟨N, defScope st, fun _ => true⟩ M2 (defBody st) d.body && decide (N.length = d.n) && decide (ps.length = d.np) && decide (d.np ≤ d.n) && d.ios.all (fun j => decide (j < d.np)) && decide d.ios.Nodup
theorem def_ok {P : Program} {w : World} {mg : Str → Option Value} {base : Heap} {x qual : Str} {st : Stmt} {f : Addr} {fd : FuncData} {N ps : List Str} {k M M2 : Nat} {d : FDef} (Fu : Fun K x qual st f fd) (Sc : FnScope N ps (defScope st)) (hck : ckDef T M M2 N ps st d = true)
    (hg : ∀ (cdv : Value) (A : Around) (outer : List PySem.Env) (s : Shared) (H : Hp) (E : XK), Room k (A.deeper (envOfC qual (defScope st) s.heap.objs.size f cdv)) →
      Gd (cxOf (L2.CX P w) P w K mg base N qual (defScope st) f cdv A outer s H E) B F T ∧ Gh (cxOf (L2.CX P w) P w K mg base N qual (defScope st) f cdv A outer s H E) B T sub) :
    FnOk P w K mg base (L2.CX P w) (k + 1) f fd ps (spF B K d.np d.ios (evF F sub fu d)) := by
  unfold ckDef at hck
  simp only [Bool.and_eq_true, decide_eq_true_eq] at hck
  obtain ⟨⟨⟨⟨⟨h1, h2⟩, h3⟩, h4⟩, h5⟩, h6⟩ := hck
  have hio : ∀ j ∈ d.ios, j < d.np := fun j hj => by
    rw [List.all_eq_true] at h5
    exact of_decide_eq_true (h5 j hj)
  refine Fu.okX Sc (fun vs H Q E h => h.1.trans h3.symm) fun cdv A outer s H vs Q E hr hsp => ?_
  obtain ⟨g1, g2⟩ := hg cdv A outer s H E hr
  obtain ⟨hl, Fz, ws, Ts, r, nd, nf, hf, z, p⟩ := hsp
  have G : Gs (cxOf (L2.CX P w) P w K mg base N qual (defScope st) f cdv A outer s H E) B F T ⟨N, defScope st, fun _ => true⟩ sub (fun cls d _ H => E cls d H) :=
    { gx := { gd := g1, calm := rfl, nd := Sc.nd, N := rfl, sc := rfl, fn := fun _ _ => rfl, tk := takes_of rfl rfl rfl rfl }, gh := g2, po := passes_of rfl, st := rfl, fr := rfl, kd := Sc.kind }
  have hps := ckSs_ok (fu := fu) (ios := d.ios) (ck_ok (B := B) (F := F) (T := T) M) M2 _ _ _ _ G h1
  refine ⟨_, hps, Fz, ownOf Ts, ws.map some ++ List.replicate (d.n - d.np) none, ?_, ?_⟩
  · have := rel_start r nd nf hf h2 (by rw [hl]; exact h4) r.own_there
    rw [hl] at this
    exact this
  · unfold evF at p
    rw [if_pos (by rw [← hl]; exact r.len3.1.symm)] at p
    exact body_end hl (by rw [r.len3.2, ← r.len3.1, hl]) hio h6 z p
end
end TA

set_option Elab.async false
set_option linter.all false
set_option maxRecDepth 100000
/-! TaAll: all defs of a module keep their promises. -/
namespace TA
open PySem PySem.Spec PyProof.Rows L2
/-- a dict of the top, by K alone -/
structure GDk (K : PySem.W.Frag) (w : World) (d : Addr) (ks vs : List D) : Prop where
  kd : ∃ es n, KDict K w d es n
  has : ∀ z : Str, ∃ r, PySem.W.nsIn K d z = some r ∧ r.isSome = (look ks ks (.str z)).isSome
  val : ∀ (z : Str) (dv : D), look ks vs (.str z) = some dv → ∃ u0 v0, PySem.W.nsIn K d z = some (some u0) ∧ RelV v0 u0 ∧ ∀ H Fz, RepD K H Fz v0 dv
/-- a def of the module, beside its IR -/
structure DefAt (K : PySem.W.Frag) (mg : Str → Option Value) (T : Tab) (irf : Nat → Option FDef) (M : Nat) (f : Nat) (x : Str) (np : Nat) (ios : List Nat) (d : FDef) (st : Stmt) (N : List Str) (fa : Addr) (fd : FuncData) : Prop where
  ir : irf f = some d
  hnp : d.np = np
  hios : d.ios = ios
  fu : Fun K x x st fa fd
  sc : FnScope N (N.take np) (defScope st)
  ck : ckDef T M M N (N.take np) st d = true
  gm : mg x = some (.ref fa)
  kp : PySem.W.keepIn K (.ref fa) = true
  bn : L2.Binds K fd (N.take np) []
/-- a class of errors -/
structure ErrK (P : Program) (w : World) (K : PySem.W.Frag) (mg : Str → Option Value) (base : Heap) (B : Tb) (c : Nat) (x : Str) : Prop where
  ex : ∃ (C fI : Addr) (fd : FuncData) (ps : List Str) (fld : Str), OexC K C ∧ PySem.W.findIn K (.ref C) "__init__" = some (some (.ref fI)) ∧ PySem.W.typeIn K (.ref fI) = some (.type "function") ∧
    FnOk P w K mg base CX0 1 fI fd ps (spSup C fld) ∧ L2.Binds K fd ps [] ∧ mg x = some (.ref C) ∧ B.CA c = C ∧ B.AT c = fld
/-- what is known of a module -/
structure Mo (P : Program) (w : World) (K : PySem.W.Frag) (mg : Str → Option Value) (base : Heap) (B : Tb) (T : Tab) (irf : Nat → Option FDef) (M : Nat) (sub : Subs) : Prop where
  fn : ∀ f x np ios, T.fns f = some (x, np, ios) → ∃ d st N fa fd, DefAt K mg T irf M f x np ios d st N fa fd
  kw : ∀ f x np ks perm, T.kws f = some (x, np, ks, perm) → ∃ d st N fa fd, DefAt K mg T irf M f x np [] d st N fa fd ∧ KBinds K fd (N.take np) ks (kwG perm) (kwG perm)
  gl : ∀ g x d, T.gls g = some (x, d) → ∃ v u, mg x = some u ∧ RelV v u ∧ ∀ H Fz, RepD K H Fz v d
  gd : ∀ g x ks vs, T.gds g = some (x, ks, vs) → ∃ d, GDk K w d ks vs ∧ mg x = some (.ref d)
  er : ∀ c x, T.ers c = some x → ErrK P w K mg base B c x
  bl : ∀ x, x ∈ T.blts → mg x = none
  hd : ∀ k x fld, T.hds k = some (x, fld) → mg x = some (.ref (B.CA k)) ∧ XfC K (B.CA k) ∧ PySem.W.findIn K (.ref (B.CA k)) fld = some none ∧ B.AT k = fld ∧ (∀ c, sub c k = true → c = k) ∧ ∀ c, PySem.W.exmOne K (.ref (B.CA c)) (.ref (B.CA k)) = some (sub c k)
section
variable {P : Program} {w : World} {K : PySem.W.Frag} {mg : Str → Option Value} {base : Heap} {B : Tb} {T : Tab} {irf : Nat → Option FDef} {M : Nat} {sub : Subs} {fu : Nat} {run : Nat → Nat → List W → FRes}
theorem all_ok (Mo : Mo P w K mg base B T irf M sub) (run0 : ∀ f args, run 0 f args = .stuck) (runS : ∀ n f d args, irf f = some d → run (n + 1) f args = evF (run n) sub fu d args) :
    ∀ (n : Nat) {f : Nat} {x : Str} {np : Nat} {ios : List Nat} {d : FDef} {st : Stmt} {N : List Str} {fa : Addr} {fd : FuncData}, DefAt K mg T irf M f x np ios d st N fa fd → FnOk P w K mg base (L2.CX P w) (n + 2) fa fd (N.take np) (spF B K np ios (run n f))
  | 0, f, x, np, ios, d, st, N, fa, fd, D => by
    have no : ∀ vs H Q E, ¬ spF B K np ios (run 0 f) vs H Q E := fun vs H Q E h => by
      obtain ⟨_, _, _, _, _, _, _, _, _, p⟩ := h
      rw [run0] at p
      exact p
    exact ⟨fun vs H Q E h => (no vs H Q E h).elim, fun A outer s H args us vs Q E _ _ _ _ h => (no vs H Q E h).elim⟩
  | n + 1, f, x, np, ios, d, st, N, fa, fd, D => by
    have ih := fun {f x np ios d st N fa fd} => all_ok Mo run0 runS n (f := f) (x := x) (np := np) (ios := ios) (d := d) (st := st) (N := N) (fa := fa) (fd := fd)
    have e : spF B K np ios (run (n + 1) f) = spF B K d.np d.ios (evF (run n) sub fu d) := by
      have : run (n + 1) f = evF (run n) sub fu d := funext fun args => runS n f d args D.ir
      rw [this, D.hnp, D.hios]
    rw [e]
    refine def_ok (k := n + 2) D.fu D.sc D.ck fun cdv A outer s H E hr => ⟨⟨fun f x np ios h => ?_, fun f x np ks perm h => ?_, Mo.gl, fun g x ks vs h => ?_, fun c x h => ⟨(Mo.er c x h).ex⟩, Mo.bl, ?_, ?_⟩, ⟨Mo.hd⟩⟩
    · obtain ⟨d', st', N', fa', fd', D'⟩ := Mo.fn f x np ios h
      exact ⟨n + 2, fa', fd', _, ih D', hr, D'.gm, D'.kp, D'.bn⟩
    · obtain ⟨d', st', N', fa', fd', D', kb⟩ := Mo.kw f x np ks perm h
      exact ⟨n + 2, fa', fd', _, ih D', hr, D'.gm, D'.kp, kb⟩
    · obtain ⟨dd, G, m⟩ := Mo.gd g x ks vs h
      exact ⟨dd, ⟨G.kd, G.has, G.val⟩, m⟩
    · have := hr.un
      show (A.deeper _).units + 64 < cLine
      omega
    · exact hr.mono (by omega)
/-- the script, the law's answer -/
theorem law_sp {n f : Nat} {H : Hp} {a : Addr} {ns : List Int} (hr : run n f [.val (.list (ns.map .int))] = .ret (.val (.bool true)) []) (hS : SqL K H a (ns.map V.int)) : spF B K 1 [] (run n f) [.ref a] H (fun v _ => v = .bl true) fun _ _ _ => False := by
  have reps : ∀ (Fz : Addr → Prop) (ns : List Int), RepDs K H Fz (ns.map V.int) (ns.map PyData.int) := fun Fz ns => by
    induction ns with
    | nil => exact .nil
    | cons i ns ih => exact .cons (.int i) ih
  refine ⟨rfl, ?_⟩
  have fin : ∀ Fz : Addr → Prop, PF B K [] [V.ref a] H Fz [[]] (fun v _ => v = .bl true) (fun _ _ _ => False) (run n f [.val (.list (ns.map .int))]) := fun Fz => by
    rw [hr]
    intro v H' Fz' Tr Tos rv _ _ _ _ _ _ _
    cases rv with
    | val rd => exact rd.bl_inv
  rcases hS with h | h
  · refine ⟨fun b => b = a, [.val (.list (ns.map .int))], [[]], .cons (.val (.lst (.inl ⟨⟨h, fun z => ?_⟩, rfl⟩) (reps _ ns))) .nil, by simp, fun b hb => by simp at hb, ?_, fun i hi _ => ?_, fin _⟩
    · rcases z with ⟨_, z⟩ | ⟨_, _, z⟩ <;> cases z
    · rintro b rfl
      rcases h with h | ⟨o, h⟩ <;> rw [h] <;> simp
    · obtain rfl : i = 0 := by omega
      rfl
  · refine ⟨fun _ => False, [.val (.list (ns.map .int))], [[]], .cons (.val (.lst (.inr h) (reps _ ns))) .nil, by simp, fun b hb => by simp at hb, fun _ z => z.elim, fun i hi _ => ?_, fin _⟩
    obtain rfl : i = 0 := by omega
    rfl
end
end TA

set_option Elab.async false
set_option linter.all false
set_option maxRecDepth 100000
/-! TaErr: own exceptions of the module, by what is looked at behind the top. -/
namespace TA
open PySem PySem.Spec PyProof.Rows L2
open PySem.W (Frag)
/-- what is looked at of a function with a closure -/
abbrev FnS : Type := Option (Str × Str × Arguments × FuncBody × Scope × Addr × List Str × Addr)
def fnS (K : Frag) (p : Str × Option Str) : FnS := match K.lookup (He.fAd K p) with
  | some ⟨_, _, .func fd, _⟩ => some (fd.name, fd.qualname, fd.params, fd.body, fd.scope, fd.globals, fd.closure.map (·.1), fd.builtins)
  | _ => none
def eqB (a : Option Bool) (b : Bool) : Bool := match a with
  | some c => c == b
  | none => false
theorem eqB_ok {a : Option Bool} {b : Bool} (h : eqB a b = true) : a = some b := by
  unfold eqB at h
  split at h
  · rw [beq_iff_eq.mp h]
  · cases h
def oexB (K : Frag) (C : Addr) : Bool := (match K.lookup C with
  | some ⟨.type "type", _, .cls cd, sl⟩ => (match cd.mro, sl.toList with
    | .ref C' :: bm, [_, _, _, _, some (.builtin n), _] => C' == C && n == "ValueError.__new__" && !cd.hasDel && cd.hasDict && PySem.HandSPX.refsVE bm
    | _, _ => false)
  | _ => false) && (He.eqO (PySem.W.findIn K (.ref C) "__setattr__") (some (some (.builtin "object.__setattr__"))) && (eqB (PySem.W.subIn K (.ref C) (.type "BaseException")) true && (decide (PySem.W.typeIn K (.ref C) = some (.type "type")) && PySem.W.keepIn K (.ref C))))
theorem oexB_ok {K : Frag} {C : Addr} (h : oexB K C = true) : OexC K C := by
  unfold oexB at h
  rw [Bool.and_eq_true] at h
  obtain ⟨h1, h⟩ := h
  simp only [Bool.and_eq_true] at h
  obtain ⟨h2, h3, h4, h5⟩ := h
  refine ⟨?_, He.eqO_ok h2, eqB_ok h3, of_decide_eq_true h4, h5⟩
  split at h1
  · rename_i dd cd sl ho
    split at h1
    · rename_i C' bm k0 k1 k2 k3 n k5 hm hs
      simp only [Bool.and_eq_true, beq_iff_eq, Bool.not_eq_true'] at h1
      obtain ⟨⟨⟨⟨rfl, rfl⟩, hdel⟩, hd⟩, ht⟩ := h1
      obtain ⟨nm, bs, mro, ns, qn, hdct, sn, sub, ab, col, del⟩ := cd
      dsimp only at hm hdel hd
      subst hm hdel hd
      have hsl : sl = #[k0, k1, k2, k3, some (.builtin "ValueError.__new__"), k5] := by
        obtain ⟨l⟩ := sl
        simp only at hs
        rw [hs]
      subst hsl
      exact ⟨nm, qn, ns, bs, bm, sn, sub, ab, col, dd, k0, k1, k2, k3, k5, ho, ht⟩
    · cases h1
  · cases h1
def fileB (file : Str) (o : Option Value) : Bool := match o with
  | some (.str f _) => file == f
  | _ => false
def cellB (C : Addr) (o : Option Obj) : Bool := match o with
  | some ⟨_, _, .cell (some (.ref C')), _⟩ => C' == C
  | _ => false
def codeB (file : Str) (o : Option Obj) : Bool := match o with
  | some ⟨_, _, .fields vs, _⟩ => fileB file vs[2]?
  | _ => false
def noneB : Value → Bool
  | .none => true
  | _ => false
theorem noneB_ok {v : Value} (h : noneB v = true) : v = .none := by
  unfold noneB at h
  split at h
  · rfl
  · cases h
/-- __init__'s cell, its code -/
def iniB (file : Str) (K : Frag) (C fI : Addr) : Bool := match K.lookup fI with
  | some ⟨_, _, .func fd, _⟩ => (match fd.closure, fd.code with
    | [(_, cc)], .ref cda => cellB C (K.lookup cc) && codeB file (K.lookup cda) && PySem.W.codeIn K (.ref cda) fd.qualname && noneB fd.defaults
    | _, _ => false)
  | _ => false
theorem iniB_ok {file : Str} {K : Frag} {C fI : Addr} {p : Str × Option Str} {name qual : Str} {params : Arguments} {body : List Stmt} {scope : Scope} (hp : He.fAd K p = fI) (h1 : fnS K p = some (name, qual, params, FuncBody.stmts body, scope, mainGlobals, [("__class__" : Str)], builtinsNs)) (h2 : iniB file K C fI = true) :
    ∃ (oc : Value) (od : Option Addr) (kV doc pm : Value) (an : Option Addr) (cda : Addr) (ct : Value) (cc : Addr) (osl : Array (Option Value)), K.lookup fI = some ⟨oc, od, .func (PySem.W.ksFn name qual params body scope .none kV doc pm an (.ref cda) ct cc), osl⟩ ∧
      (∃ ccl cdd vs ccs f tf, K.lookup cda = some ⟨ccl, cdd, .fields vs, ccs⟩ ∧ vs[2]? = some (.str f tf) ∧ (file == f) = true) ∧ (∃ cl cld csl, K.lookup cc = some ⟨cl, cld, .cell (some (.ref C)), csl⟩) ∧ PySem.W.codeIn K (.ref cda) qual = true := by
  subst hp
  unfold fnS at h1
  unfold iniB at h2
  cases q : K.lookup (He.fAd K p) with
  | none => rw [q] at h2; cases h2
  | some o =>
    obtain ⟨oc, od, dt, osl⟩ := o
    rw [q] at h1 h2
    cases dt with
    | func fd =>
      obtain ⟨n1, n2, n3, n4, n5, n6, n7, n8, n9, n10, n11, n12, n13, n14, n15⟩ := fd
      have e2 : (some (n1, n2, n3, n4, n5, n6, n7.map (·.1), n15) : FnS) = some (name, qual, params, .stmts body, scope, mainGlobals, [("__class__" : Str)], builtinsNs) := h1
      simp only [Option.some.injEq, Prod.mk.injEq] at e2
      obtain ⟨e1, e2, e3, e4, e5, e6, e7, e8⟩ := e2
      subst e1 e2 e3 e4 e5 e6 e8
      dsimp only at h2
      split at h2
      · rename_i y cc cda
        simp only [List.map_cons, List.map_nil, List.cons.injEq, and_true] at e7
        subst e7
        simp only [Bool.and_eq_true] at h2
        obtain ⟨⟨⟨k1, k2⟩, k3⟩, k4⟩ := h2
        obtain rfl := noneB_ok k4
        refine ⟨oc, od, n9, n10, n11, n12, cda, n14, cc, osl, rfl, ?_, ?_, k3⟩
        · unfold codeB at k2
          split at k2
          · rename_i ccl cdd vs ccs hl
            unfold fileB at k2
            split at k2
            · rename_i f tf hv
              exact ⟨ccl, cdd, vs, ccs, f, tf, hl, hv, k2⟩
            · cases k2
          · cases k2
        · unfold cellB at k1
          split at k1
          · rename_i cl cld C' csl hl
            obtain rfl := beq_iff_eq.mp k1
            exact ⟨cl, cld, csl, hl⟩
          · cases k1
      · cases h2
    | _ => cases h2
/-- all that Sup asks of K -/
def supB (file : Str) (K : Frag) (x fld : Str) : Bool :=
  oexB K (He.ga K x) && (He.eqO (PySem.W.findIn K (.ref (He.ga K x)) fld) (some none) && (iniB file K (He.ga K x) (He.ma K (He.ga K x) "__init__") && ((PySem.W.clsIn K (He.ga K x)).isSome && (eqB (PySem.W.mroIn K (He.ga K x) (.ref (He.ga K x))) true &&
    (He.eqO (PySem.W.ks_superIn K (He.ga K x) (He.ga K x) "__init__") (some (some (.builtin "ValueError.__init__"))) && (eqB (PySem.W.subIn K (.ref (He.ga K x)) (.type "ValueError")) true && (He.eqO (PySem.W.nsIn K cStatics "thirdparty.any") (some none) &&
    (He.eqO (PySem.W.findIn K (.ref (He.ga K x)) "__init__") (some (some (.ref (He.ma K (He.ga K x) "__init__")))) && (decide (PySem.W.typeIn K (.ref (He.ma K (He.ga K x) "__init__")) = some (.type "function")) && He.eqO (PySem.W.nsIn K mainGlobals x) (some (some (.ref (He.ga K x))))))))))))) 
/-- a class of errors, from what is looked at -/
theorem errK_of {P : Program} {w : World} {K : Frag} {h : Heap} {mg : Str → Option Value} {base : Heap} {B : Tb} {c : Nat} {x fld slf par qual m : Str} {params : Arguments} {scope : Scope} {j : Nat} {p0 p1 p2 p3 p4 p5 p6 p7 p8 p9 q1 q2 : Pos} (X : K.In h) (G : h.Ns mainGlobals mg) (h1 : supB P.main.file K x fld = true)
    (h2 : fnS K (x, some "__init__") = some (("__init__" : Str), qual, params, FuncBody.stmts [.Expr (.Call (.Attribute (.Call (.Name "super" p0) [] [] p1) "__init__" p2) [.Constant (.str m) j p3] [] p4) p5, .Assign [.Attribute (.Name slf p6) fld p7] (.Name par p8) p9], scope, mainGlobals, [("__class__" : Str)], builtinsNs))
    (hpar : params = { posonlyargs := [], args := [⟨slf, none, q1⟩, ⟨par, none, q2⟩], vararg := none, kwonlyargs := [], kw_defaults := [], kwarg := none, defaults := [] })
    (hev : ∀ (L fI cda cc : Addr), ∃ pl : Sem Bool, eval (.Call (.Attribute (.Call (.Name "super" p0) [] [] p1) "__init__" p2) [.Constant (.str m) j p3] [] p4) (PySem.W.ksEnv qual scope L fI (.ref cda) cc) = (do
      let ov ← attributeBase (.Call (.Name "super" p0) [] [] p1) "__init__" (PySem.W.ksEnv qual scope L fI (.ref cda) cc) (eval (.Call (.Name "super" p0) [] [] p1) (PySem.W.ksEnv qual scope L fI (.ref cda) cc))
      standAt p2.atName
      let (f, first) ← holding [ov] (getMethod ov "__init__" pl)
      callWith p4 f first (backTo p4 (starEach [.Constant (.str m) j p3] (PySem.W.ksEnv qual scope L fI (.ref cda) cc))) []))
    (hbn : ∀ (kV doc pm : Value) (an : Option Addr) (cdv ct : Value) (cc : Addr) (us : List Value), us.length = 2 → bindArgs (PySem.W.ksFn "__init__" qual params [.Expr (.Call (.Attribute (.Call (.Name "super" p0) [] [] p1) "__init__" p2) [.Constant (.str m) j p3] [] p4) p5, .Assign [.Attribute (.Name slf p6) fld p7] (.Name par p8) p9] scope .none kV doc pm an cdv ct cc) ⟨us, []⟩ = pure ([slf, par].zip us))
    (hsup : mg "super" = none) (htop : (P.main.scope.names.lookup ("super" : Str)).isSome = false) (s1 : scope.kind = .function) (s2 : scope.isCoroutine = false) (s3 : scope.isGenerator = false)
    (n1 : scope.names.lookup ("super" : Str) = some .globalImplicit) (n2 : scope.names.lookup ("__class__" : Str) = some .free) (n3 : scope.names.lookup slf = some .local) (n4 : scope.names.lookup par = some .local) (ne : slf ≠ par) (n5 : ∀ y ∈ scope.names, y.2 ≠ .cell ∧ (y.2 = .free → y.1 = "__class__"))
    (d1 : (slf == ("__debug__" : Str)) = false ∧ (slf == ("__classdict__" : Str)) = false) (d2 : (par == ("__debug__" : Str)) = false ∧ (par == ("__classdict__" : Str)) = false) (hC : B.CA c = He.ga K x) (hA : B.AT c = fld) : ErrK P w K mg base B c x := by
  subst hpar
  unfold supB at h1
  simp only [Bool.and_eq_true] at h1
  obtain ⟨a1, a2, a3, a4, a5, a6, a7, a8, a9, a10, a11⟩ := h1
  obtain ⟨oc, od, kV, doc, pm, an, cda, ct, cc, osl, lk, hcode, hcell, hcd⟩ := iniB_ok (p := (x, some "__init__")) rfl h2 a3
  have hcls : ∃ cd, PySem.W.clsIn K (He.ga K x) = some cd := Option.isSome_iff_exists.mp a4
  have S : Sup P K mg (He.ga K x) (He.ma K (He.ga K x) "__init__") cc cda scope slf par fld :=
    { T := oexB_ok a1, nofld := He.eqO_ok a2, code := hcode, cell := hcell, cls := hcls, mro := eqB_ok a5, sup := He.eqO_ok a6, sub := eqB_ok a7, opq := He.eqO_ok a8, msup := hsup, top := htop, s1 := s1, s2 := s2, s3 := s3, n1 := n1, n2 := n2, n3 := n3, n4 := n4, ne := ne, n5 := n5, d1 := d1, d2 := d2 }
  refine ⟨He.ga K x, He.ma K (He.ga K x) "__init__", _, [slf, par], fld, oexB_ok a1, He.eqO_ok a9, of_decide_eq_true a10, fn_sup S lk (fun L => hev L _ _ _) hcd (ar := ⟨slf, none, q1⟩) rfl rfl, ?_, PySem.W.mg_of X G (He.eqO_ok a11), hC, hA⟩
  exact .all fun us hl => hbn _ _ _ _ _ _ _ us hl
end TA

set_option Elab.async false
set_option linter.all false
set_option maxRecDepth 100000
/-! TaHook: what is looked at behind the top. -/
namespace TA
open PySem PySem.Spec PyProof.Rows L2
open PySem.W (Frag)
def asY (g : Addr → Option Obj) (n : Nat) : List Addr := He.asD g n ++ [cStatics]
abbrev AlY : Type := He.AlT × List FnS × Bool
def obsY (n : Nat) (fa : List He.Fa) (fn : List He.DefD) (ts : List He.Tab) (es : List (Str × Option Str)) (ex : Frag → Bool) (g : Addr → Option Obj) : AlY :=
  (He.obsT fa fn ts (He.frG g (asY g n)), es.map (fnS (He.frG g (asY g n))), ex (He.frG g (asY g n)))
structure SaysY (fa : List He.Fa) (fn : List He.DefD) (ts : List He.Tab) (es : List (Str × Option Str)) (vs : List FnS) (ex : Frag → Bool) (w : World) (K : Frag) : Prop where
  t : He.SaysT fa fn ts w K
  fs : es.map (fnS K) = vs
  more : ex K = true
def hookY (n : Nat) (fa : List He.Fa) (fn : List He.DefD) (ts : List He.Tab) (es : List (Str × Option Str)) (vs : List FnS) (ex : Frag → Bool) : PySem.W.Hook where
  α := AlY
  obs := fun s => obsY n fa fn ts es ex s.heap.get?
  val := fun w => (He.valT fn ts w, vs, true)
  says := fun w h => ∃ K : Frag, K.In h ∧ SaysY fa fn ts es vs ex w K
  of := fun _ _ e => ⟨_, He.frG_in, congrArg (fun z : AlY => z.1) e, congrArg (fun z : AlY => z.2.1) e, congrArg (fun z : AlY => z.2.2) e⟩
  keeps := fun _ _ _ ⟨K, hK, c⟩ k => ⟨K, PySem.W.Frag.In.keeps hK k, c⟩
theorem obsY_eq {n : Nat} {fa : List He.Fa} {fn : List He.DefD} {ts : List He.Tab} {es : List (Str × Option Str)} {vs : List FnS} {ex : Frag → Bool} {g : Addr → Option Obj} {s : Shared} (h : ∀ a, g a = s.heap.get? a) : obsY n fa fn ts es ex g = (hookY n fa fn ts es vs ex).obs s := by
  have e : g = s.heap.get? := funext h
  rw [e] <;> rfl
end TA

set_option Elab.async false
set_option linter.all false
set_option maxRecDepth 100000
/-! TaDk: dicts and tuples of the top, by what is looked at. -/
namespace TA
open PySem PySem.Spec PyProof.Rows L2
open PySem.W (Frag)
def scB (u : Value) (d : D) : Bool := match u, d with
  | .int i _, .int j => i == j
  | .str x _, .str y => x == y
  | _, _ => false
def ksB (u : Value) (d : D) : Bool := match u, d with
  | .str x _, .str y => x == y
  | _, _ => false
def entsB : List DictEntry → List D → List D → Bool
  | [], [], [] => true
  | e :: es, k :: ks, v :: vs => ksB e.key k && (scB e.val v && entsB es ks vs)
  | _, _, _ => false
def dkB (K : Frag) (a : Addr) (ks vs : List D) : Bool := match K.lookup a with
  | some ⟨_, _, .dict es _, _⟩ => entsB es.toList ks vs
  | _ => false
theorem scB_ok {u : Value} {d : D} (h : scB u d = true) : ∃ v, RelV v u ∧ ∀ K H Fz, RepD K H Fz v d := by
  unfold scB at h
  split at h
  · rename_i i t j
    obtain rfl := beq_iff_eq.mp h
    exact ⟨.int i, ⟨t, rfl⟩, fun _ _ _ => .int i⟩
  · rename_i x t y
    obtain rfl := beq_iff_eq.mp h
    exact ⟨.str x, ⟨t, rfl⟩, fun _ _ _ => .str x⟩
  · cases h
theorem ksB_ok {u : Value} {d : D} (h : ksB u d = true) : ∃ x t, u = .str x t ∧ d = .str x := by
  unfold ksB at h
  split at h
  · rename_i x t y
    obtain rfl := beq_iff_eq.mp h
    exact ⟨x, t, rfl, rfl⟩
  · cases h
theorem ents_look : ∀ {es : List DictEntry} {ks vs : List D}, entsB es ks vs = true → es.any (·.refKey) = false ∧ ∀ z : Str, (∃ e dv, es.find? (·.key.isStr z) = some e ∧ look ks vs (.str z) = some dv ∧ scB e.val dv = true) ∨ (es.find? (·.key.isStr z) = none ∧ look ks vs (.str z) = none)
  | [], [], [], _ => ⟨rfl, fun z => .inr ⟨rfl, rfl⟩⟩
  | [], _ :: _, _, h => by simp [entsB] at h
  | [], [], _ :: _, h => by simp [entsB] at h
  | _ :: _, [], _, h => by simp [entsB] at h
  | _ :: _, _ :: _, [], h => by simp [entsB] at h
  | e :: es, k :: ks, v :: vs, h => by
    rw [entsB, Bool.and_eq_true, Bool.and_eq_true] at h
    obtain ⟨h1, h2, h3⟩ := h
    obtain ⟨i1, i2⟩ := ents_look h3
    obtain ⟨x, t, ek, rfl⟩ := ksB_ok h1
    refine ⟨by rw [List.any_cons, i1]; unfold DictEntry.refKey; rw [ek]; rfl, fun z => ?_⟩
    rw [List.find?_cons, ek, look]
    show (∃ e_1 dv, (match (x == z) with | true => some e | false => es.find? (·.key.isStr z)) = some e_1 ∧ (if (x == z) = true then some v else look ks vs (.str z)) = some dv ∧ scB e_1.val dv = true) ∨ ((match (x == z) with | true => some e | false => es.find? (·.key.isStr z)) = none ∧ (if (x == z) = true then some v else look ks vs (.str z)) = none)
    cases hz : x == z with
    | true => exact .inl ⟨e, v, rfl, by simp, h2⟩
    | false => simpa using i2 z
theorem look_some : ∀ {ks vs : List D} {z : Str}, ks.length = vs.length → (look ks ks (.str z)).isSome = (look ks vs (.str z)).isSome
  | [], [], z, _ => rfl
  | [], _ :: _, _, h => nomatch h
  | _ :: _, [], _, h => nomatch h
  | k :: ks, v :: vs, z, h => by
    have g : ∀ {A : Type} (us : List D) (as : List A) (q : D), us.length = as.length → (look us as q).isSome = us.any fun u => eqK u q := by
      intro A us
      induction us with
      | nil => intro as q h; cases as <;> rfl
      | cons u us ih =>
        intro as q h
        cases as with
        | nil => cases h
        | cons a as =>
          rw [look, List.any_cons]
          cases hq : eqK u q with
          | true => simp
          | false => simp only [Bool.false_eq_true, if_false, Bool.false_or]; exact ih as q (by simpa using h)
    rw [g _ _ _ rfl, g _ _ _ h]
theorem dkB_ok {K : Frag} {w : World} {a : Addr} {ks vs : List D} (kd : ∃ es n, KDict K w a es n) (hl : ks.length = vs.length) (h : dkB K a ks vs = true) : GDk K w a ks vs := by
  unfold dkB at h
  split at h
  · rename_i c dd es n sl ho
    obtain ⟨i1, i2⟩ := ents_look h
    have ns : ∀ z : Str, PySem.W.nsIn K a z = some ((es.toList.find? (·.key.isStr z)).map (·.val)) := fun z => by
      unfold PySem.W.nsIn
      rw [ho]
      dsimp only
      cases hf : es.toList.find? (·.key.isStr z) with
      | some e => rfl
      | none => simp only [i1, Bool.false_eq_true, if_false]; rfl
    refine ⟨kd, fun z => ⟨_, ns z, ?_⟩, fun z dv hv => ?_⟩
    · rw [look_some hl]
      rcases i2 z with ⟨e, dv, h1, h2, _⟩ | ⟨h1, h2⟩ <;> rw [h1, h2] <;> rfl
    · rcases i2 z with ⟨e, dv', h1, h2, h3⟩ | ⟨h1, h2⟩
      · rw [h2] at hv
        cases hv
        obtain ⟨v, r1, r2⟩ := scB_ok h3
        exact ⟨e.val, v, by rw [ns z, h1]; rfl, r1, fun H Fz => r2 K H Fz⟩
      · rw [h2] at hv; cases hv
  · cases h
/-- a tuple of texts of the top -/
theorem tup_ok {K : Frag} {x : Str} {zs : List Str} (h : He.tupB K x (zs.map He.Dv.str) = true) (h4 : 4 ≤ zs.length) (H : Hp) (Fz : Addr → Prop) : RepD K H Fz (.ref (He.ga K x)) (.tuple (zs.map .str)) := by
  have s := He.tupB_ok h (fun _ => none)
  have e : (zs.map He.Dv.str).map (He.Dv.v K) = zs.map V.str := by rw [List.map_map]; rfl
  rw [e] at s
  rcases s with s | ⟨o, its, n, a, b, c, d, f⟩
  · rcases s with s | ⟨_, s⟩ <;> cases s
  · exact .tup (.inr ⟨o, its, n, a, b, c, d, f, by rw [List.length_map]; exact h4⟩) (txts_rep zs)
end TA

set_option Elab.async false
set_option linter.all false
set_option maxRecDepth 100000
/-! TaTab: the module's table; each def's body beside its IR. -/
namespace TA
open PySem PySem.Spec PyProof.Rows L2
def top (i : Nat) : Stmt := PySem.Challenge.pw_triedagain_k80_whole_follows_by_all.main.body.getD i (.Pass ⟨0, 0, 0, 0⟩)
def tFns : Nat → Option (Str × Nat × List Nat)
  | 0 => some ("is_row", 1, [])
  | 1 => some ("is_name", 1, [])
  | 2 => some ("frozen", 1, [])
  | 3 => some ("is_whole", 1, [])
  | 4 => some ("is_atom", 1, [])
  | 5 => some ("is_item", 2, [])
  | 6 => some ("items_fault", 2, [])
  | 7 => some ("test_fault", 2, [])
  | 8 => some ("behind", 2, [])
  | 9 => some ("each_fault", 2, [])
  | 10 => some ("last_fault", 2, [])
  | 11 => some ("part_fault", 2, [])
  | 12 => some ("surveyed", 1, [])
  | 13 => some ("depth_of", 1, [])
  | 14 => some ("within_bounds", 1, [])
  | 15 => some ("open_fault", 1, [])
  | 16 => some ("opened", 1, [])
  | 17 => some ("is_path", 1, [])
  | 18 => some ("found_part", 2, [])
  | 19 => some ("open_part", 2, [])
  | 20 => some ("classes", 1, [])
  | 21 => some ("written_classes", 1, [])
  | 22 => some ("test_follows", 2, [])
  | 23 => some ("checked_test", 2, [])
  | 24 => some ("follows", 3, [])
  | 25 => some ("names_of", 1, [])
  | 26 => some ("_law_draw", 3, [1])
  | 27 => some ("_law_some", 3, [1])
  | 28 => some ("_law_item", 4, [1])
  | 29 => some ("_law_test", 4, [1])
  | 30 => some ("_law_leaf", 4, [1])
  | 31 => some ("_law_open", 5, [1])
  | 32 => some ("_law_atom", 2, [])
  | 33 => some ("_law_passes", 2, [])
  | 34 => some ("_law_says", 2, [])
  | 35 => some ("_law_parts", 4, [])
  | 36 => some ("_law_nest", 3, [1])
  | 37 => some ("_law_asked", 4, [1])
  | 38 => some ("_law_pool", 2, [])
  | 39 => some ("_law_always", 3, [])
  | 40 => some ("_law_refused", 3, [])
  | 41 => some ("_law_no_part", 2, [])
  | 42 => some ("_law_refuses", 4, [1])
  | 43 => some ("_law_listed", 3, [1])
  | 44 => some ("law", 1, [])
  | _ => none
def tKws : Nat → Option (Str × Nat × List Str × List Nat)
  | 24 => some ("follows", 3, ["test", "place", "expression"], [2, 1, 0])
  | _ => none
def tGls : Nat → Option (Str × D)
  | 1 => some ("WORDS", d_WORDS)
  | 11 => some ("MOST_PARTS", d_MOST_PARTS)
  | 12 => some ("MOST_DEEP", d_MOST_DEEP)
  | 13 => some ("MOST_NAMES", d_MOST_NAMES)
  | 14 => some ("MOST_ITEMS", d_MOST_ITEMS)
  | _ => none
def tGds : Nat → Option (Str × List D × List D)
  | 15 => some ("LENGTHS", ks_LENGTHS, vs_LENGTHS)
  | 16 => some ("OPPOSITES", ks_OPPOSITES, vs_OPPOSITES)
  | _ => none
def tErs : Nat → Option Str
  | 1 => some "NoPlace"
  | 2 => some "NoOpen"
  | 3 => some "NoTest"
  | _ => none
def tHds : Nat → Option (Str × Str)
  | 1 => some ("NoPlace", "path")
  | 2 => some ("NoOpen", "spot")
  | 3 => some ("NoTest", "test")
  | _ => none
def tBlts : List Str := ["len", "isinstance", "int", "str", "bool", "list", "tuple", "dict", "ord", "max", "sorted", "range"]
def tabk : Tab := ⟨tFns, tKws, tGls, tGds, tErs, tHds, tBlts⟩
theorem ck_is_row : ckDef tabk 60 60 N_is_row (N_is_row.take 1) (top 2) ir_is_row = true := by kernel_rfl
theorem ck_is_name : ckDef tabk 60 60 N_is_name (N_is_name.take 1) (top 3) ir_is_name = true := by kernel_rfl
theorem ck_frozen : ckDef tabk 60 60 N_frozen (N_frozen.take 1) (top 4) ir_frozen = true := by kernel_rfl
theorem ck_is_whole : ckDef tabk 60 60 N_is_whole (N_is_whole.take 1) (top 17) ir_is_whole = true := by kernel_rfl
theorem ck_is_atom : ckDef tabk 60 60 N_is_atom (N_is_atom.take 1) (top 18) ir_is_atom = true := by kernel_rfl
theorem ck_is_item : ckDef tabk 60 60 N_is_item (N_is_item.take 2) (top 19) ir_is_item = true := by kernel_rfl
theorem ck_items_fault : ckDef tabk 60 60 N_items_fault (N_items_fault.take 2) (top 20) ir_items_fault = true := by kernel_rfl
theorem ck_test_fault : ckDef tabk 60 60 N_test_fault (N_test_fault.take 2) (top 21) ir_test_fault = true := by kernel_rfl
theorem ck_behind : ckDef tabk 60 60 N_behind (N_behind.take 2) (top 22) ir_behind = true := by kernel_rfl
theorem ck_each_fault : ckDef tabk 60 60 N_each_fault (N_each_fault.take 2) (top 23) ir_each_fault = true := by kernel_rfl
theorem ck_last_fault : ckDef tabk 60 60 N_last_fault (N_last_fault.take 2) (top 24) ir_last_fault = true := by kernel_rfl
theorem ck_part_fault : ckDef tabk 60 60 N_part_fault (N_part_fault.take 2) (top 25) ir_part_fault = true := by kernel_rfl
theorem ck_surveyed : ckDef tabk 60 60 N_surveyed (N_surveyed.take 1) (top 26) ir_surveyed = true := by kernel_rfl
theorem ck_depth_of : ckDef tabk 60 60 N_depth_of (N_depth_of.take 1) (top 27) ir_depth_of = true := by kernel_rfl
theorem ck_within_bounds : ckDef tabk 60 60 N_within_bounds (N_within_bounds.take 1) (top 28) ir_within_bounds = true := by kernel_rfl
theorem ck_open_fault : ckDef tabk 60 60 N_open_fault (N_open_fault.take 1) (top 29) ir_open_fault = true := by kernel_rfl
theorem ck_opened : ckDef tabk 60 60 N_opened (N_opened.take 1) (top 30) ir_opened = true := by kernel_rfl
theorem ck_is_path : ckDef tabk 60 60 N_is_path (N_is_path.take 1) (top 31) ir_is_path = true := by kernel_rfl
theorem ck_found_part : ckDef tabk 60 60 N_found_part (N_found_part.take 2) (top 32) ir_found_part = true := by kernel_rfl
theorem ck_open_part : ckDef tabk 60 60 N_open_part (N_open_part.take 2) (top 33) ir_open_part = true := by kernel_rfl
theorem ck_classes : ckDef tabk 60 60 N_classes (N_classes.take 1) (top 35) ir_classes = true := by kernel_rfl
theorem ck_written_classes : ckDef tabk 60 60 N_written_classes (N_written_classes.take 1) (top 36) ir_written_classes = true := by kernel_rfl
theorem ck_test_follows : ckDef tabk 60 60 N_test_follows (N_test_follows.take 2) (top 37) ir_test_follows = true := by kernel_rfl
theorem ck_checked_test : ckDef tabk 60 60 N_checked_test (N_checked_test.take 2) (top 38) ir_checked_test = true := by kernel_rfl
theorem ck_follows : ckDef tabk 60 60 N_follows (N_follows.take 3) (top 40) ir_follows = true := by kernel_rfl
theorem ck_names_of : ckDef tabk 60 60 N_names_of (N_names_of.take 1) (top 41) ir_names_of = true := by kernel_rfl
theorem ck__law_draw : ckDef tabk 60 60 N__law_draw (N__law_draw.take 3) (top 43) ir__law_draw = true := by kernel_rfl
theorem ck__law_some : ckDef tabk 60 60 N__law_some (N__law_some.take 3) (top 44) ir__law_some = true := by kernel_rfl
theorem ck__law_item : ckDef tabk 60 60 N__law_item (N__law_item.take 4) (top 45) ir__law_item = true := by kernel_rfl
theorem ck__law_test : ckDef tabk 60 60 N__law_test (N__law_test.take 4) (top 46) ir__law_test = true := by kernel_rfl
theorem ck__law_leaf : ckDef tabk 60 60 N__law_leaf (N__law_leaf.take 4) (top 47) ir__law_leaf = true := by kernel_rfl
theorem ck__law_open : ckDef tabk 60 60 N__law_open (N__law_open.take 5) (top 48) ir__law_open = true := by kernel_rfl
theorem ck__law_atom : ckDef tabk 60 60 N__law_atom (N__law_atom.take 2) (top 49) ir__law_atom = true := by kernel_rfl
theorem ck__law_passes : ckDef tabk 60 60 N__law_passes (N__law_passes.take 2) (top 50) ir__law_passes = true := by kernel_rfl
theorem ck__law_says : ckDef tabk 60 60 N__law_says (N__law_says.take 2) (top 51) ir__law_says = true := by kernel_rfl
theorem ck__law_parts : ckDef tabk 60 60 N__law_parts (N__law_parts.take 4) (top 52) ir__law_parts = true := by kernel_rfl
theorem ck__law_nest : ckDef tabk 60 60 N__law_nest (N__law_nest.take 3) (top 53) ir__law_nest = true := by kernel_rfl
theorem ck__law_asked : ckDef tabk 60 60 N__law_asked (N__law_asked.take 4) (top 54) ir__law_asked = true := by kernel_rfl
theorem ck__law_pool : ckDef tabk 60 60 N__law_pool (N__law_pool.take 2) (top 55) ir__law_pool = true := by kernel_rfl
theorem ck__law_always : ckDef tabk 60 60 N__law_always (N__law_always.take 3) (top 56) ir__law_always = true := by kernel_rfl
theorem ck__law_refused : ckDef tabk 60 60 N__law_refused (N__law_refused.take 3) (top 57) ir__law_refused = true := by kernel_rfl
theorem ck__law_no_part : ckDef tabk 60 60 N__law_no_part (N__law_no_part.take 2) (top 58) ir__law_no_part = true := by kernel_rfl
theorem ck__law_refuses : ckDef tabk 60 60 N__law_refuses (N__law_refuses.take 4) (top 59) ir__law_refuses = true := by kernel_rfl
theorem ck__law_listed : ckDef tabk 60 60 N__law_listed (N__law_listed.take 3) (top 60) ir__law_listed = true := by kernel_rfl
theorem ck_law : ckDef tabk 60 60 N_law (N_law.take 1) (top 61) ir_law = true := by kernel_rfl
end TA

set_option Elab.async false
set_option linter.all false
set_option maxRecDepth 100000
set_option maxHeartbeats 0
/-! TaRun: the head's run. -/
namespace TA
open PySem PySem.Spec PyProof.Rows L2
open PySem.W (Frag)
abbrev Rk : PySem.W.OpenRow := PySem.W.OpenLaw.row PySem.Challenge.rw_triedagain_k80_whole_follows_by_all
def dD (i : Nat) (x : Str) : He.DefD := ⟨(x, none), x, x, defArgs (top i), defBody (top i), defScope (top i), [], []⟩
def iniOf : Stmt → Stmt
  | .ClassDef _ _ _ body _ _ _ _ _ _ _ => body.getD 0 (.Pass ⟨0, 0, 0, 0⟩)
  | s => s
def fnk : List He.DefD := [dD 2 "is_row", dD 3 "is_name", dD 4 "frozen", dD 17 "is_whole", dD 18 "is_atom", dD 19 "is_item", dD 20 "items_fault", dD 21 "test_fault", dD 22 "behind", dD 23 "each_fault", dD 24 "last_fault", dD 25 "part_fault", dD 26 "surveyed", dD 27 "depth_of", dD 28 "within_bounds", dD 29 "open_fault", dD 30 "opened", dD 31 "is_path", dD 32 "found_part", dD 33 "open_part", dD 35 "classes", dD 36 "written_classes", dD 37 "test_follows", dD 38 "checked_test", dD 40 "follows", dD 41 "names_of", dD 43 "_law_draw", dD 44 "_law_some", dD 45 "_law_item", dD 46 "_law_test", dD 47 "_law_leaf", dD 48 "_law_open", dD 49 "_law_atom", dD 50 "_law_passes", dD 51 "_law_says", dD 52 "_law_parts", dD 53 "_law_nest", dD 54 "_law_asked", dD 55 "_law_pool", dD 56 "_law_always", dD 57 "_law_refused", dD 58 "_law_no_part", dD 59 "_law_refuses", dD 60 "_law_listed", dD 61 "law"]
def fak1 : List He.Fa := [.glo "is_row", .glo "is_name", .glo "frozen", .glo "is_whole", .glo "is_atom", .glo "is_item", .glo "items_fault", .glo "test_fault", .glo "behind", .glo "each_fault", .glo "last_fault", .glo "part_fault", .glo "surveyed", .glo "depth_of", .glo "within_bounds", .glo "open_fault", .glo "opened", .glo "is_path", .glo "found_part", .glo "open_part", .glo "classes", .glo "written_classes", .glo "test_follows", .glo "checked_test", .glo "follows", .glo "names_of", .glo "_law_draw", .glo "_law_some", .glo "_law_item", .glo "_law_test", .glo "_law_leaf", .glo "_law_open", .glo "_law_atom", .glo "_law_passes", .glo "_law_says", .glo "_law_parts", .glo "_law_nest", .glo "_law_asked", .glo "_law_pool", .glo "_law_always", .glo "_law_refused", .glo "_law_no_part", .glo "_law_refuses", .glo "_law_listed", .glo "law"]
def fak2 : List He.Fa := [.glo "TriedError", .glo "NoPlace", .glo "NoOpen", .glo "NoTest", .glo "WORDS", .glo "LENGTHS", .glo "OPPOSITES", .int "MOST_PARTS" 40, .int "MOST_DEEP" 12, .int "MOST_NAMES" 3, .int "MOST_ITEMS" 3, .free "len", .free "isinstance", .free "int", .free "str", .free "bool", .free "list", .free "tuple", .free "dict", .free "ord", .free "max", .free "sorted", .free "range", .free "super"]
def fak : List He.Fa := fak1 ++ fak2
def tsk : List He.Tab := [(fun K => He.ga K "LENGTHS", ["none", "give", "each", "choice", "when", "last"]), (fun K => He.ga K "OPPOSITES", ["alike", "unlike"])]
def esk : List (Str × Option Str) := [("NoPlace", some "__init__"), ("NoOpen", some "__init__"), ("NoTest", some "__init__")]
def iniV (i : Nat) (q : Str) : FnS := some ("__init__", q, defArgs (iniOf (top i)), .stmts (defBody (iniOf (top i))), defScope (iniOf (top i)), mainGlobals, [("__class__" : Str)], builtinsNs)
def vsk : List FnS := [iniV 7 "NoPlace.__init__", iniV 8 "NoOpen.__init__", iniV 9 "NoTest.__init__"]
def namesk : List PySem.Str := (["is_row", "is_name", "frozen", "is_whole", "is_atom", "is_item", "items_fault", "test_fault", "behind", "each_fault", "last_fault", "part_fault", "surveyed", "depth_of", "within_bounds", "open_fault", "opened", "is_path", "found_part", "open_part", "classes", "written_classes", "test_follows", "checked_test", "follows", "names_of", "_law_draw", "_law_some", "_law_item", "_law_test"] : List PySem.Str) ++ (["_law_leaf", "_law_open", "_law_atom", "_law_passes", "_law_says", "_law_parts", "_law_nest", "_law_asked", "_law_pool", "_law_always", "_law_refused", "_law_no_part", "_law_refuses", "_law_listed", "TriedError", "NoPlace", "NoOpen", "NoTest", "WORDS", "MOST_PARTS", "MOST_DEEP", "MOST_NAMES", "MOST_ITEMS", "LENGTHS", "OPPOSITES"] : List PySem.Str)
def cak (K : Frag) : Nat → Addr
  | 1 => He.ga K "NoPlace"
  | 2 => He.ga K "NoOpen"
  | 3 => He.ga K "NoTest"
  | _ => He.ga K "TriedError"
def atk : Nat → Str
  | 1 => "path"
  | 2 => "spot"
  | 3 => "test"
  | _ => ""
def zs_WORDS : List Str := (["nothing", "first", "no", "if", "most", "again", "to", "items", "every", "while", "do", "call", "back", "out", "fall", "keep", "ask", "anew", "scan", "move"] : List Str) ++ (["tab", "find", "reach", "many", "match", "here", "put", "take", "size", "at", "place", "say", "is", "isnt", "list", "mod"] : List Str)
def exA (K : Frag) : Bool := supB PySem.Challenge.pw_triedagain_k80_whole_follows_by_all.main.file K "NoPlace" "path" && supB PySem.Challenge.pw_triedagain_k80_whole_follows_by_all.main.file K "NoOpen" "spot" && supB PySem.Challenge.pw_triedagain_k80_whole_follows_by_all.main.file K "NoTest" "test"
def exB (K : Frag) : Bool := xfB K (He.ga K "NoPlace") && xfB K (He.ga K "NoOpen") && xfB K (He.ga K "NoTest") && eqB (PySem.W.exmOne K (.ref (cak K 0)) (.ref (cak K 1))) false && eqB (PySem.W.exmOne K (.ref (cak K 0)) (.ref (cak K 2))) false && eqB (PySem.W.exmOne K (.ref (cak K 0)) (.ref (cak K 3))) false && eqB (PySem.W.exmOne K (.ref (cak K 1)) (.ref (cak K 1))) true && eqB (PySem.W.exmOne K (.ref (cak K 1)) (.ref (cak K 2))) false && eqB (PySem.W.exmOne K (.ref (cak K 1)) (.ref (cak K 3))) false && eqB (PySem.W.exmOne K (.ref (cak K 2)) (.ref (cak K 1))) false && eqB (PySem.W.exmOne K (.ref (cak K 2)) (.ref (cak K 2))) true && eqB (PySem.W.exmOne K (.ref (cak K 2)) (.ref (cak K 3))) false && eqB (PySem.W.exmOne K (.ref (cak K 3)) (.ref (cak K 1))) false && eqB (PySem.W.exmOne K (.ref (cak K 3)) (.ref (cak K 2))) false && eqB (PySem.W.exmOne K (.ref (cak K 3)) (.ref (cak K 3))) true
def exC (K : Frag) : Bool := He.tupB K "WORDS" (zs_WORDS.map He.Dv.str) && dkB K (He.ga K "LENGTHS") ks_LENGTHS vs_LENGTHS && dkB K (He.ga K "OPPOSITES") ks_OPPOSITES vs_OPPOSITES
def exk (K : Frag) : Bool := exA K && exB K && exC K
abbrev hk : PySem.W.Hook := hookY 4 fak fnk tsk esk vsk exk
def obk (s : PySem.W.SharedT) : AlY := obsY 4 fak fnk tsk esk exk (HandSHeadRun.getT s)
theorem obk_eq (s : PySem.W.SharedT) : obk s = hk.obs s.abs := obsY_eq (HandSHeadRun.getT_eq s)
theorem run_f (w : World) : HandSHeadRun.RunEq Rk (PySem.W.view Rk.prog [61]) hk obk 20000 namesk (w.withFollow "special-get-raises" false) := by
  intro os
  kernel_rfl
theorem run_t (w : World) : HandSHeadRun.RunEq Rk (PySem.W.view Rk.prog [61]) hk obk 20000 namesk (w.withFollow "special-get-raises" true) := by
  intro os
  kernel_rfl
theorem run_k (w : World) : HandSHeadRun.RunEq Rk (PySem.W.view Rk.prog [61]) hk obk 20000 namesk w := PySem.W.byRow2 "special-get-raises" (P := fun w => HandSHeadRun.RunEq Rk (PySem.W.view Rk.prog [61]) hk obk 20000 namesk w) run_f run_t w
end TA

set_option Elab.async false
set_option linter.all false
set_option maxRecDepth 100000
/-! PuBase: running the evaluator by simp. -/
namespace TA
open PySem
@[simp] theorem Res.bind_ok {α β : Type} (a : α) (f : α → Res β) : (Res.ok a).bind f = f a := (rfl)
@[simp] theorem Res.bind_exc {α β : Type} (c : Nat) (d : D) (e : Env) (f : α → Res β) : (Res.exc c d e).bind f = .exc c d e := (rfl)
@[simp] theorem Res.of_some {α : Type} (a : α) : Res.of (some a) = .ok a := (rfl)
@[simp] theorem Res.map_ok {α β : Type} (a : α) (f : α → Option β) : (Res.ok a).map f = Res.of (f a) := (rfl)
@[simp] theorem Res.map_exc {α β : Type} (c : Nat) (d : D) (e : Env) (f : α → Option β) : (Res.exc c d e).map f = .exc c d e := (rfl)
@[simp] theorem Res.calm_ok {α : Type} (a : α) : (Res.ok a).calm = .ok a := (rfl)
@[simp] theorem Res.bool_ok {β : Type} (e : Env) (b : Bool) (f : Env → Bool → Res β) : (Res.ok (e, W.val (.bool b))).bool f = f e b := (rfl)
@[simp] theorem Res.bool_exc {β : Type} (c : Nat) (d : D) (e : Env) (f : Env → Bool → Res β) : (Res.exc c d e).bool f = .exc c d e := (rfl)
@[simp] theorem out1_some (e : Env) (w : W) : out1 e (some w) = .ok (e, w) := (rfl)
@[simp] theorem Out.of_ok {α : Type} (a : α) (f : α → Out) : Out.of (.ok a) f = f a := (rfl)
@[simp] theorem Out.of_exc {α : Type} (c : Nat) (d : D) (e : Env) (f : α → Out) : Out.of (.exc c d e) f = .exc c d e := (rfl)
@[simp] theorem Out.then_next (e : Env) (f : Env → Out) : (Out.next e).then f = f e := (rfl)
@[simp] theorem Out.then_ret (w : W) (e : Env) (f : Env → Out) : (Out.ret w e).then f = .ret w e := (rfl)
@[simp] theorem Out.then_exc (c : Nat) (d : D) (e : Env) (f : Env → Out) : (Out.exc c d e).then f = .exc c d e := (rfl)
@[simp] theorem Out.then_brk (e : Env) (f : Env → Out) : (Out.brk e).then f = .brk e := (rfl)
@[simp] theorem Out.then_cont (e : Env) (f : Env → Out) : (Out.cont e).then f = .cont e := (rfl)
@[simp] theorem Env.get_zero (w : W) (es : Env) : Env.get (some w :: es) 0 = .ok w := (rfl)
@[simp] theorem Env.get_succ (x : Option W) (es : Env) (i : Nat) : Env.get (x :: es) (i + 1) = Env.get es i := (rfl)
theorem Env.share_of {env : Env} {i : Nat} {w : W} {d : D} (h : env.get i = .ok w) (e : w.toD = some d) : env.share i = .ok (env.set i (some (.val d)), .val d) := by
  simp [Env.share, h, e]
@[simp] theorem W.toD_val (d : D) : (W.val d).toD = some d := by simp [W.toD]
@[simp] theorem W.toD_lst (ws : List W) : (W.lst ws).toD = (W.toDs ws).map PyData.list := by simp [W.toD]
@[simp] theorem W.toD_dic (ks : List D) (ws : List W) : (W.dic ks ws).toD = (W.toDs ws).map fun ds => .dict (ks.zip ds) := by simp [W.toD]
@[simp] theorem W.toDs_nil : W.toDs [] = some [] := by simp [W.toDs]
@[simp] theorem W.toDs_cons (w : W) (ws : List W) : W.toDs (w :: ws) = (W.toD w).bind fun d => (W.toDs ws).map fun ds => d :: ds := by simp [W.toDs]
@[simp] theorem W.flat_val (d : D) : (W.val d).flat = some d := (rfl)
@[simp] theorem Env.target_one (env : Env) (i : Nat) (d : D) : env.target [i] false d = some (env.set i (some (.val d))) := (rfl)
@[simp] theorem Env.target_tup (env : Env) (is : List Nat) (ds : List D) : env.target is true (.tuple ds) = Env.putT is ds env := (rfl)
@[simp] theorem Env.target_lst (env : Env) (is : List Nat) (ds : List D) : env.target is true (.list ds) = Env.putT is ds env := (rfl)
@[simp] theorem Env.putT_nil (env : Env) : Env.putT [] [] env = some env := (rfl)
@[simp] theorem Env.putT_cons (i : Nat) (is : List Nat) (d : D) (ds : List D) (env : Env) : Env.putT (i :: is) (d :: ds) env = Env.putT is ds (env.set i (some (.val d))) := (rfl)

@[simp] theorem flat_lst (ws : List W) : (W.lst ws).flat = (valsW ws).map PyData.list := by simp only [W.flat]
@[simp] theorem valsW_nil : valsW [] = some [] := by simp only [valsW]
@[simp] theorem valsW_cons (d : D) (ws : List W) : valsW (.val d :: ws) = (valsW ws).map fun ds => d :: ds := by simp only [valsW]
@[simp] theorem fin_val (r : Res (Env × W)) : Md.fin .val r = r := (rfl)
@[simp] theorem fin_peek (e : Env) (w : W) : Md.fin .peek (.ok (e, w)) = Res.of (w.toD.map fun d => (e, .val d)) := (rfl)
@[simp] theorem fin_flat (e : Env) (w : W) : Md.fin .flat (.ok (e, w)) = Res.of (w.flat.map fun d => (e, .val d)) := (rfl)
@[simp] theorem fin_test (e : Env) (w : W) : Md.fin .test (.ok (e, w)) = Res.of ((w.toD.bind truthD).map fun b => (e, .val (.bool b))) := (rfl)
@[simp] theorem fin_exc (m : Md) (c : Nat) (d : D) (e : Env) : Md.fin m (.exc c d e) = .exc c d e := by cases m <;> rfl
@[simp] theorem truthD_bool (b : Bool) : truthD (.bool b) = some b := (rfl)
@[simp] theorem md1_true (m : Md) : md1 true m = m := (rfl)
@[simp] theorem md1_false (m : Md) : md1 false m = .val := (rfl)
@[simp] theorem Env.share_succ (x : Option W) (es : Env) (i : Nat) : Env.share (x :: es) (i + 1) = (Env.share es i).bind fun r => .ok (x :: r.1, r.2) := by
  unfold Env.share
  rw [Env.get_succ]
  cases es.get i with
  | ok w =>
    simp only [Res.bind_ok]
    cases w.toD <;> rfl
  | stuck => rfl
  | exc c d e => rfl
@[simp] theorem share_zero_gen (w : W) (es : Env) : Env.share (some w :: es) 0 = (Res.of w.toD).bind fun d => .ok (some (.val d) :: es, .val d) := by
  unfold Env.share
  simp only [Env.get_zero, Res.bind_ok]
  cases w.toD <;> rfl
section
variable (F : Nat → List W → FRes)
@[simp] theorem ev_loc_val (i : Nat) (x0 : Option W) (e0 : Env) : evX F (.loc i) .val (x0 :: e0) = Env.share (x0 :: e0) i := by simp [evX]
@[simp] theorem ev_loc_peek (i : Nat) (x0 : Option W) (e0 : Env) : evX F (.loc i) .peek (x0 :: e0) = (Env.get (x0 :: e0) i).bind fun w => Res.of (w.toD.map fun d => ((x0 :: e0), .val d)) := by
  simp only [evX, Md.fin]
  cases Env.get (x0 :: e0) i <;> rfl
@[simp] theorem ev_loc_flat (i : Nat) (x0 : Option W) (e0 : Env) : evX F (.loc i) .flat (x0 :: e0) = (Env.get (x0 :: e0) i).bind fun w => Res.of (w.flat.map fun d => ((x0 :: e0), .val d)) := by
  simp only [evX, Md.fin]
  cases Env.get (x0 :: e0) i <;> rfl
@[simp] theorem ev_loc_test (i : Nat) (x0 : Option W) (e0 : Env) : evX F (.loc i) .test (x0 :: e0) = (Env.get (x0 :: e0) i).bind fun w => Res.of ((w.toD.bind truthD).map fun b => ((x0 :: e0), .val (.bool b))) := by
  simp only [evX, Md.fin]
  cases Env.get (x0 :: e0) i <;> rfl
@[simp] theorem ev_lit (d : D) (m : Md) (x0 : Option W) (e0 : Env) : evX F (.lit d) m (x0 :: e0) = m.fin (.ok ((x0 :: e0), .val d)) := by simp only [evX]
@[simp] theorem ev_gl (x : Nat) (d : D) (m : Md) (x0 : Option W) (e0 : Env) : evX F (.gl x d) m (x0 :: e0) = m.fin (.ok ((x0 :: e0), .val d)) := by simp only [evX]
@[simp] theorem ev_tup (es : List IE) (m : Md) (x0 : Option W) (e0 : Env) : evX F (.tup es) m (x0 :: e0) = m.fin ((evEs F es .val (x0 :: e0)).bind fun r => out1 r.1 (tupW r.2)) := by simp only [evX]
@[simp] theorem ev_lst (es : List IE) (m : Md) (x0 : Option W) (e0 : Env) : evX F (.lst es) m (x0 :: e0) = m.fin ((evEs F es .val (x0 :: e0)).bind fun r => if szOk r.2.length then .ok (r.1, .lst r.2) else .stuck) := by simp only [evX]
@[simp] theorem ev_dicE (b : Bool) (m : Md) (x0 : Option W) (e0 : Env) : evX F (.dicE b) m (x0 :: e0) = m.fin (.ok ((x0 :: e0), .dic [] [])) := by simp only [evX]
@[simp] theorem ev_dicL (ks vs : List Str) (m : Md) (x0 : Option W) (e0 : Env) : evX F (.dicL ks vs) m (x0 :: e0) = m.fin (out1 (x0 :: e0) (dicLW ks vs)) := by simp only [evX]
@[simp] theorem ev_bin (o : BOp) (a b : IE) (m : Md) (x0 : Option W) (e0 : Env) : evX F (.bin o a b) m (x0 :: e0) = m.fin ((evX F a .val (x0 :: e0)).bind fun r => (Res.of r.2.toD).bind fun x => (evX F b .val r.1).bind fun q => (Res.of q.2.toD).bind fun y => out1 q.1 (binD o x y)) := by simp only [evX]
@[simp] theorem ev_neg (a : IE) (m : Md) (x0 : Option W) (e0 : Env) : evX F (.neg a) m (x0 :: e0) = m.fin ((evX F a .val (x0 :: e0)).bind fun r => out1 r.1 (negW r.2)) := by simp only [evX]
@[simp] theorem ev_cmp (o : COp) (a b : IE) (m : Md) (x0 : Option W) (e0 : Env) : evX F (.cmp o a b) m (x0 :: e0) = m.fin ((evX F a (md1 (IE.quiet b) .peek) (x0 :: e0)).bind fun r => (Res.of r.2.toD).bind fun x => (evX F b .peek r.1).bind fun q => (Res.of q.2.toD).bind fun y => out1 q.1 (cmpW o x y)) := by simp only [evX]
@[simp] theorem ev_chn (o o' : COp) (a b c : IE) (m : Md) (x0 : Option W) (e0 : Env) : evX F (.chn o o' a b c) m (x0 :: e0) = m.fin ((evX F a .val (x0 :: e0)).bind fun r => (Res.of r.2.toD).bind fun x => (evX F b .val r.1).bind fun q => (Res.of q.2.toD).bind fun y => (out1 q.1 (cmpW o x y)).bool fun e k =>
      if k then (evX F c .val e).bind fun p => (Res.of p.2.toD).bind fun z => out1 p.1 (cmpW o' y z) else .ok (e, .val (.bool false))) := by simp only [evX]
@[simp] theorem ev_and_test (a b : IE) (x0 : Option W) (e0 : Env) : evX F (.and a b) .test (x0 :: e0) = (evX F a .test (x0 :: e0)).bool fun e k => if k then evX F b .test e else .ok (e, .val (.bool false)) := by simp only [evX]
@[simp] theorem ev_and_val (a b : IE) (x0 : Option W) (e0 : Env) : evX F (.and a b) .val (x0 :: e0) = (evX F a .val (x0 :: e0)).bool fun e k => if k then (evX F b .val e).bool fun e k => .ok (e, .val (.bool k)) else .ok (e, .val (.bool false)) := by simp only [evX]
@[simp] theorem ev_and_peek (a b : IE) (x0 : Option W) (e0 : Env) : evX F (.and a b) .peek (x0 :: e0) = (evX F a .val (x0 :: e0)).bool fun e k => if k then (evX F b .val e).bool fun e k => .ok (e, .val (.bool k)) else .ok (e, .val (.bool false)) := by simp only [evX]
@[simp] theorem ev_or_test (a b : IE) (x0 : Option W) (e0 : Env) : evX F (.or a b) .test (x0 :: e0) = (evX F a .test (x0 :: e0)).bool fun e k => if k then .ok (e, .val (.bool true)) else evX F b .test e := by simp only [evX]
@[simp] theorem ev_or_val (a b : IE) (x0 : Option W) (e0 : Env) : evX F (.or a b) .val (x0 :: e0) = (evX F a .val (x0 :: e0)).bool fun e k => if k then .ok (e, .val (.bool true)) else (evX F b .val e).bool fun e k => .ok (e, .val (.bool k)) := by simp only [evX]
@[simp] theorem ev_or_peek (a b : IE) (x0 : Option W) (e0 : Env) : evX F (.or a b) .peek (x0 :: e0) = (evX F a .val (x0 :: e0)).bool fun e k => if k then .ok (e, .val (.bool true)) else (evX F b .val e).bool fun e k => .ok (e, .val (.bool k)) := by simp only [evX]
@[simp] theorem ev_not_test (a : IE) (x0 : Option W) (e0 : Env) : evX F (.not a) .test (x0 :: e0) = (evX F a .test (x0 :: e0)).bool fun e k => .ok (e, .val (.bool !k)) := by simp only [evX]
@[simp] theorem ev_not_val (a : IE) (x0 : Option W) (e0 : Env) : evX F (.not a) .val (x0 :: e0) = (evX F a .val (x0 :: e0)).bool fun e k => .ok (e, .val (.bool !k)) := by simp only [evX]
@[simp] theorem ev_idx_val (a k : IE) (x0 : Option W) (e0 : Env) : evX F (.idx a k) .val (x0 :: e0) = (evX F a (md1 (IE.quiet k) .flat) (x0 :: e0)).bind fun r => (Res.of r.2.flat).bind fun x => (evX F k .val r.1).bind fun q => (Res.of q.2.toD).bind fun y => out1 q.1 ((elemD x y).map .val) := by simp only [evX]
@[simp] theorem ev_idx_flat (a k : IE) (x0 : Option W) (e0 : Env) : evX F (.idx a k) .flat (x0 :: e0) = (evX F a (md1 (IE.quiet k) .flat) (x0 :: e0)).bind fun r => (Res.of r.2.flat).bind fun x => (evX F k .val r.1).bind fun q => (Res.of q.2.toD).bind fun y => out1 q.1 ((elemD x y).map .val) := by simp only [evX]
@[simp] theorem ev_idx_peek (a k : IE) (x0 : Option W) (e0 : Env) : evX F (.idx a k) .peek (x0 :: e0) = Md.fin .peek ((evX F a (md1 (IE.quiet k) .peek) (x0 :: e0)).bind fun r => (Res.of r.2.toD).bind fun x => (evX F k .val r.1).bind fun q => (Res.of q.2.toD).bind fun y => out1 q.1 ((elemD x y).map .val)) := by simp only [evX]
@[simp] theorem ev_idx_test (a k : IE) (x0 : Option W) (e0 : Env) : evX F (.idx a k) .test (x0 :: e0) = Md.fin .test ((evX F a (md1 (IE.quiet k) .peek) (x0 :: e0)).bind fun r => (Res.of r.2.toD).bind fun x => (evX F k .val r.1).bind fun q => (Res.of q.2.toD).bind fun y => out1 q.1 ((elemD x y).map .val)) := by simp only [evX]
@[simp] theorem ev_slc (a lo hi : IE) (m : Md) (x0 : Option W) (e0 : Env) : evX F (.slc a lo hi) m (x0 :: e0) = m.fin ((evX F a (md1 (IE.quiet lo && IE.quiet hi) .flat) (x0 :: e0)).bind fun r => (Res.of r.2.flat).bind fun x =>
      (if lo.isNo then .ok (r.1, none) else (evX F lo .val r.1).map fun p => (partW p.2).map fun i => (p.1, some i)).bind fun p =>
      (if hi.isNo then .ok (p.1, none) else (evX F hi .val p.1).map fun q => (partW q.2).map fun i => (q.1, some i)).bind fun q =>
      out1 q.1 (sliceD x p.2 q.2)) := by simp only [evX]
@[simp] theorem ev_call (f : Nat) (args : List IE) (m : Md) (x0 : Option W) (e0 : Env) : evX F (.call f args) m (x0 :: e0) = m.fin ((evArgs F args (x0 :: e0)).bind fun r => callRes F f r.2 r.1) := by simp only [evX]
@[simp] theorem ev_callk (f : Nat) (perm : List Nat) (args : List IE) (m : Md) (x0 : Option W) (e0 : Env) : evX F (.callk f perm args) m (x0 :: e0) = m.fin ((evArgs F args (x0 :: e0)).bind fun r => (Res.of (kwArgs perm r.2)).bind fun as => callRes F f as r.1) := by simp only [evX]
@[simp] theorem ev_blt1 (b : BI) (a : IE) (m : Md) (x0 : Option W) (e0 : Env) : evX F (.blt b [a]) m (x0 :: e0) = m.fin ((evX F a b.md (x0 :: e0)).bind fun r => (Res.of (if b.md = .flat then r.2.flat else r.2.toD)).bind fun d => out1 r.1 (bltD b [d])) := by
  simp only [evX, evEs, List.length_cons, List.length_nil, Nat.zero_add, if_true]
  congr 1
  cases evX F a b.md (x0 :: e0) with
  | ok r =>
    simp only [Res.bind_ok]
    split
    · cases h : r.2.flat <;> simp [h, List.mapM_cons]
      rfl
    · cases h : r.2.toD <;> simp [h]
      rfl
  | stuck => rfl
  | exc c d e => rfl
@[simp] theorem ev_blt2 (b : BI) (x y : IE) (m : Md) (x0 : Option W) (e0 : Env) : evX F (.blt b [x, y]) m (x0 :: e0) = m.fin ((evEs F [x, y] .val (x0 :: e0)).bind fun r => (Res.of (W.toDs r.2)).bind fun ds => out1 r.1 (bltD b ds)) := by
  simp [evX]
@[simp] theorem ev_mth (f : MI) (j : Nat) (args : List IE) (m : Md) (x0 : Option W) (e0 : Env) : evX F (.mth f j args) m (x0 :: e0) = m.fin ((Env.get (x0 :: e0) j).bind fun s0 => if s0.isLst then ((evEs F args .val (x0 :: e0)).bind fun r => (r.1.get j).bind fun s => Res.of ((mthW f s r.2).map fun q => (r.1.set j (some q.2), q.1))) else .stuck) := by simp only [evX]
@[simp] theorem ev_lens (j : Nat) (m : Md) (x0 : Option W) (e0 : Env) : evX F (.lens j) m (x0 :: e0) = m.fin ((Env.get (x0 :: e0) j).bind fun w => match w with
    | .set ds => .ok ((x0 :: e0), .val (.int ds.length))
    | _ => .stuck) := by simp only [evX] <;> rfl
@[simp] theorem ev_gin (neg : Bool) (g : Nat) (ks : List D) (a : IE) (m : Md) (x0 : Option W) (e0 : Env) : evX F (.gin neg g ks a) m (x0 :: e0) = m.fin ((evX F a .val (x0 :: e0)).bind fun r => (Res.of r.2.toD).bind fun x => out1 r.1 (ginW neg ks x)) := by simp only [evX]
@[simp] theorem ev_gix (g : Nat) (ks vs : List D) (a : IE) (m : Md) (x0 : Option W) (e0 : Env) : evX F (.gix g ks vs a) m (x0 :: e0) = m.fin ((evX F a .val (x0 :: e0)).bind fun r => (Res.of r.2.toD).bind fun x => out1 r.1 (gixW ks vs x)) := by simp only [evX]
/-- a turn of a comprehension -/
def stepL (tg : List Nat) (tup : Bool) (elt cond : IE) (own : List Nat) (d : D) (e : Env) : Res (Env × Option W) := (Res.of (e.target tg tup d)).bind fun e1 => (evX F cond .test e1).calm.bool fun e2 b =>
        if b then (evX F elt .val e2).calm.bind fun p => .ok (p.1.wipe own, some p.2) else .ok (e2.wipe own, none)
@[simp] theorem ev_lc (st : Bool) (elt : IE) (tg : List Nat) (tup : Bool) (k : ItK) (its : List IE) (cond : IE) (own : List Nat) (m : Md) (x0 : Option W) (e0 : Env) : evX F (.lc st elt tg tup k its cond own) m (x0 :: e0) = m.fin ((evEs F its .val (x0 :: e0)).bind fun r => (Res.of (itemsOf k r.2)).bind fun ds =>
      (compL (stepL F tg tup elt cond own) ds (r.1.wipe own) []).bind fun q =>
      out1 (q.1.restore r.1 own) (if st then setW q.2 else some (.lst q.2))) := by simp only [evX]; rfl
@[simp] theorem evEs_nil (m : Md) (x0 : Option W) (e0 : Env) : evEs F [] m (x0 :: e0) = .ok ((x0 :: e0), []) := by simp only [evEs]
@[simp] theorem evEs_cons (e : IE) (es : List IE) (m : Md) (x0 : Option W) (e0 : Env) : evEs F (e :: es) m (x0 :: e0) = (evX F e m (x0 :: e0)).bind fun r => (evEs F es m r.1).bind fun q => .ok (q.1, r.2 :: q.2) := by simp only [evEs]
@[simp] theorem evArgs_nil (x0 : Option W) (e0 : Env) : evArgs F [] (x0 :: e0) = .ok ((x0 :: e0), []) := by simp only [evArgs]
@[simp] theorem evArgs_io (j : Nat) (es : List IE) (x0 : Option W) (e0 : Env) : evArgs F (.io j :: es) (x0 :: e0) = (Env.get (x0 :: e0) j).bind fun _ => (evArgs F es (x0 :: e0)).bind fun q => .ok (q.1, .slot j :: q.2) := by simp only [evArgs, IE.ark]
@[simp] theorem evArgs_iot (e : IE) (es : List IE) (x0 : Option W) (e0 : Env) : evArgs F (.iot e :: es) (x0 :: e0) = (evX F e .val (x0 :: e0)).bind fun r => (evArgs F es r.1).bind fun q => .ok (q.1, .tmp r.2 :: q.2) := by simp only [evArgs, IE.ark, evX]
theorem evArgs_val (e : IE) (es : List IE) (x0 : Option W) (e0 : Env) (h : e.ark = .val) : evArgs F (e :: es) (x0 :: e0) = (evX F e .val (x0 :: e0)).bind fun r => (Res.of r.2.toD).bind fun d => (evArgs F es r.1).bind fun q => .ok (q.1, .val d :: q.2) := by simp only [evArgs, h]
@[simp] theorem evArgs_loc (i : Nat) (es : List IE) (x0 : Option W) (e0 : Env) : evArgs F (.loc i :: es) (x0 :: e0) = (evX F (.loc i) .val (x0 :: e0)).bind fun r => (Res.of r.2.toD).bind fun d => (evArgs F es r.1).bind fun q => .ok (q.1, .val d :: q.2) := evArgs_val F _ _ _ _ rfl
@[simp] theorem evArgs_lit (d : D) (es : List IE) (x0 : Option W) (e0 : Env) : evArgs F (.lit d :: es) (x0 :: e0) = (evX F (.lit d) .val (x0 :: e0)).bind fun r => (Res.of r.2.toD).bind fun d => (evArgs F es r.1).bind fun q => .ok (q.1, .val d :: q.2) := evArgs_val F _ _ _ _ rfl
@[simp] theorem evArgs_gl (x : Nat) (d : D) (es : List IE) (x0 : Option W) (e0 : Env) : evArgs F (.gl x d :: es) (x0 :: e0) = (evX F (.gl x d) .val (x0 :: e0)).bind fun r => (Res.of r.2.toD).bind fun d => (evArgs F es r.1).bind fun q => .ok (q.1, .val d :: q.2) := evArgs_val F _ _ _ _ rfl
@[simp] theorem evArgs_tup (as : List IE) (es : List IE) (x0 : Option W) (e0 : Env) : evArgs F (.tup as :: es) (x0 :: e0) = (evX F (.tup as) .val (x0 :: e0)).bind fun r => (Res.of r.2.toD).bind fun d => (evArgs F es r.1).bind fun q => .ok (q.1, .val d :: q.2) := evArgs_val F _ _ _ _ rfl
@[simp] theorem evArgs_lst (as : List IE) (es : List IE) (x0 : Option W) (e0 : Env) : evArgs F (.lst as :: es) (x0 :: e0) = (evX F (.lst as) .val (x0 :: e0)).bind fun r => (Res.of r.2.toD).bind fun d => (evArgs F es r.1).bind fun q => .ok (q.1, .val d :: q.2) := evArgs_val F _ _ _ _ rfl
@[simp] theorem evArgs_dicE (b : Bool) (es : List IE) (x0 : Option W) (e0 : Env) : evArgs F (.dicE b :: es) (x0 :: e0) = (evX F (.dicE b) .val (x0 :: e0)).bind fun r => (Res.of r.2.toD).bind fun d => (evArgs F es r.1).bind fun q => .ok (q.1, .val d :: q.2) := evArgs_val F _ _ _ _ rfl
@[simp] theorem evArgs_bin (o : BOp) (a b : IE) (es : List IE) (x0 : Option W) (e0 : Env) : evArgs F (.bin o a b :: es) (x0 :: e0) = (evX F (.bin o a b) .val (x0 :: e0)).bind fun r => (Res.of r.2.toD).bind fun d => (evArgs F es r.1).bind fun q => .ok (q.1, .val d :: q.2) := evArgs_val F _ _ _ _ rfl
@[simp] theorem evArgs_idx (a b : IE) (es : List IE) (x0 : Option W) (e0 : Env) : evArgs F (.idx a b :: es) (x0 :: e0) = (evX F (.idx a b) .val (x0 :: e0)).bind fun r => (Res.of r.2.toD).bind fun d => (evArgs F es r.1).bind fun q => .ok (q.1, .val d :: q.2) := evArgs_val F _ _ _ _ rfl
@[simp] theorem evArgs_slc (a b c : IE) (es : List IE) (x0 : Option W) (e0 : Env) : evArgs F (.slc a b c :: es) (x0 :: e0) = (evX F (.slc a b c) .val (x0 :: e0)).bind fun r => (Res.of r.2.toD).bind fun d => (evArgs F es r.1).bind fun q => .ok (q.1, .val d :: q.2) := evArgs_val F _ _ _ _ rfl
@[simp] theorem evArgs_call (f : Nat) (as : List IE) (es : List IE) (x0 : Option W) (e0 : Env) : evArgs F (.call f as :: es) (x0 :: e0) = (evX F (.call f as) .val (x0 :: e0)).bind fun r => (Res.of r.2.toD).bind fun d => (evArgs F es r.1).bind fun q => .ok (q.1, .val d :: q.2) := evArgs_val F _ _ _ _ rfl
@[simp] theorem evArgs_blt (b : BI) (as : List IE) (es : List IE) (x0 : Option W) (e0 : Env) : evArgs F (.blt b as :: es) (x0 :: e0) = (evX F (.blt b as) .val (x0 :: e0)).bind fun r => (Res.of r.2.toD).bind fun d => (evArgs F es r.1).bind fun q => .ok (q.1, .val d :: q.2) := evArgs_val F _ _ _ _ rfl
@[simp] theorem evArgs_neg (a : IE) (es : List IE) (x0 : Option W) (e0 : Env) : evArgs F (.neg a :: es) (x0 :: e0) = (evX F (.neg a) .val (x0 :: e0)).bind fun r => (Res.of r.2.toD).bind fun d => (evArgs F es r.1).bind fun q => .ok (q.1, .val d :: q.2) := evArgs_val F _ _ _ _ rfl
@[simp] theorem evArgs_cmp (o : COp) (a b : IE) (es : List IE) (x0 : Option W) (e0 : Env) : evArgs F (.cmp o a b :: es) (x0 :: e0) = (evX F (.cmp o a b) .val (x0 :: e0)).bind fun r => (Res.of r.2.toD).bind fun d => (evArgs F es r.1).bind fun q => .ok (q.1, .val d :: q.2) := evArgs_val F _ _ _ _ rfl
@[simp] theorem evArgs_lc (st : Bool) (elt : IE) (tg : List Nat) (tup : Bool) (k : ItK) (its : List IE) (cond : IE) (own : List Nat) (es : List IE) (x0 : Option W) (e0 : Env) : evArgs F (.lc st elt tg tup k its cond own :: es) (x0 :: e0) = (evX F (.lc st elt tg tup k its cond own) .val (x0 :: e0)).bind fun r => (Res.of r.2.toD).bind fun d => (evArgs F es r.1).bind fun q => .ok (q.1, .val d :: q.2) := evArgs_val F _ _ _ _ rfl
end
@[simp] theorem argsW_nil (env : Env) : argsW env [] = some [] := (rfl)
@[simp] theorem argsW_val (env : Env) (d : D) (r : List Arg) : argsW env (.val d :: r) = (argsW env r).map fun ws => .val d :: ws := (rfl)
@[simp] theorem argsW_slot (env : Env) (j : Nat) (r : List Arg) : argsW env (.slot j :: r) = match env[j]? with
    | some (some w) => (argsW env r).map fun ws => w :: ws
    | _ => none := rfl
@[simp] theorem argsJ_nil : argsJ [] = [] := (rfl)
@[simp] theorem argsJ_val (d : D) (r : List Arg) : argsJ (.val d :: r) = argsJ r := (rfl)
@[simp] theorem argsJ_slot (j : Nat) (r : List Arg) : argsJ (.slot j :: r) = some j :: argsJ r := (rfl)
/-- a call of a def without in-out parameters -/
def FRes.toX (f : FRes) (env : Env) : Res (Env × W) := match f with
  | .ret r [] => .ok (env, r)
  | .exc c d => .exc c d env
  | _ => .stuck
/-- a call of a def with one in-out parameter -/
def FRes.toX1 (f : FRes) (j : Nat) (env : Env) : Res (Env × W) := match f with
  | .ret r [w] => .ok (env.set j (some w), r)
  | .exc c d => .exc c d (env.set j none)
  | _ => .stuck
@[simp] theorem toX_ret (r : W) (env : Env) : (FRes.ret r []).toX env = .ok (env, r) := (rfl)
@[simp] theorem toX_exc (c : Nat) (d : D) (env : Env) : (FRes.exc c d).toX env = .exc c d env := (rfl)
@[simp] theorem toX1_ret (r w : W) (j : Nat) (env : Env) : (FRes.ret r [w]).toX1 j env = .ok (env.set j (some w), r) := (rfl)
theorem callRes_0 {F : Nat → List W → FRes} {f : Nat} {as : List Arg} {env : Env} {ws : List W} (h : argsW env as = some ws) (j : argsJ as = []) : callRes F f as env = (F f ws).toX env := by
  unfold callRes
  rw [h, j]
  simp only [nodupB, if_true, Env.drop]
  cases F f ws with
  | stuck => rfl
  | exc c d => rfl
  | ret r outs => cases outs <;> rfl
theorem callRes_1 {F : Nat → List W → FRes} {f : Nat} {as : List Arg} {env : Env} {ws : List W} {k : Nat} (h : argsW env as = some ws) (j : argsJ as = [some k]) : callRes F f as env = (F f ws).toX1 k env := by
  unfold callRes
  rw [h, j]
  simp only [nodupB, List.contains_nil, Bool.not_false, Bool.and_self, if_true, Env.drop]
  cases F f ws with
  | stuck => rfl
  | exc c d => rfl
  | ret r outs =>
    cases outs with
    | nil => rfl
    | cons w ws =>
      cases ws with
      | cons _ _ => rfl
      | nil =>
        simp only [Env.outs, Option.map_some, Res.of, FRes.toX1]
        rw [List.set_set]
@[simp] theorem call_0_1 (F : Nat → List W → FRes) (f : Nat) (a : D) (env : Env) : callRes F f [.val a] env = (F f [.val a]).toX env := callRes_0 rfl rfl
@[simp] theorem call_0_2 (F : Nat → List W → FRes) (f : Nat) (a b : D) (env : Env) : callRes F f [.val a, .val b] env = (F f [.val a, .val b]).toX env := callRes_0 rfl rfl
@[simp] theorem call_0_3 (F : Nat → List W → FRes) (f : Nat) (a b c : D) (env : Env) : callRes F f [.val a, .val b, .val c] env = (F f [.val a, .val b, .val c]).toX env := callRes_0 rfl rfl
@[simp] theorem call_0_4 (F : Nat → List W → FRes) (f : Nat) (a b c d : D) (env : Env) : callRes F f [.val a, .val b, .val c, .val d] env = (F f [.val a, .val b, .val c, .val d]).toX env := callRes_0 rfl rfl
/-- what a slot holds, as an argument -/
def slotX (env : Env) (j : Nat) (k : W → Res (Env × W)) : Res (Env × W) := match env[j]? with
  | some (some w) => k w
  | _ => .stuck
theorem callRes_s {F : Nat → List W → FRes} {f : Nat} {s : D} {j : Nat} {as : List D} {env : Env} : callRes F f (.val s :: .slot j :: as.map .val) env = slotX env j fun w => (F f (.val s :: w :: as.map .val)).toX1 j env := by
  have hw : ∀ as : List D, argsW env (as.map Arg.val) = some (as.map W.val) := fun as => by
    induction as with
    | nil => rfl
    | cons a as ih => rw [List.map_cons, argsW, ih]; rfl
  have hj : ∀ as : List D, argsJ (as.map Arg.val) = [] := fun as => by
    induction as with
    | nil => rfl
    | cons a as ih => rw [List.map_cons, argsJ, ih]
  unfold slotX
  split
  · rename_i w h
    exact callRes_1 (by rw [argsW, argsW, h]; dsimp only; rw [hw]; rfl) (by rw [argsJ, argsJ, hj])
  · rename_i h
    have hh : argsW env (.slot j :: as.map Arg.val) = none := by
      rw [argsW]
      split
      · exact absurd ‹_› (h _)
      · rfl
    unfold callRes
    rw [argsW, hh]
    rfl
@[simp] theorem call_1_1 (F : Nat → List W → FRes) (f : Nat) (s : D) (j : Nat) (env : Env) : callRes F f [.val s, .slot j] env = slotX env j fun w => (F f [.val s, w]).toX1 j env := callRes_s (as := [])
@[simp] theorem call_1_2 (F : Nat → List W → FRes) (f : Nat) (s a : D) (j : Nat) (env : Env) : callRes F f [.val s, .slot j, .val a] env = slotX env j fun w => (F f [.val s, w, .val a]).toX1 j env := callRes_s (as := [a])
@[simp] theorem call_1_3 (F : Nat → List W → FRes) (f : Nat) (s a b : D) (j : Nat) (env : Env) : callRes F f [.val s, .slot j, .val a, .val b] env = slotX env j fun w => (F f [.val s, w, .val a, .val b]).toX1 j env := callRes_s (as := [a, b])
@[simp] theorem call_1_4 (F : Nat → List W → FRes) (f : Nat) (s a b c : D) (j : Nat) (env : Env) : callRes F f [.val s, .slot j, .val a, .val b, .val c] env = slotX env j fun w => (F f [.val s, w, .val a, .val b, .val c]).toX1 j env := callRes_s (as := [a, b, c])
@[simp] theorem slotX_zero (w : W) (es : Env) (k : W → Res (Env × W)) : slotX (some w :: es) 0 k = k w := (rfl)
@[simp] theorem slotX_succ (x : Option W) (es : Env) (i : Nat) (k : W → Res (Env × W)) : slotX (x :: es) (i + 1) k = slotX es i k := (rfl)
@[simp] theorem quiets_nil : IE.quiets [] = true := by simp only [IE.quiets]
@[simp] theorem quiets_cons (e : IE) (es : List IE) : IE.quiets (e :: es) = (IE.quiet e && IE.quiets es) := by simp only [IE.quiets]
@[simp] theorem quiet_loc (i : Nat) : IE.quiet (.loc i) = true := by simp only [IE.quiet]
@[simp] theorem quiet_lit (d : D) : IE.quiet (.lit d) = true := by simp only [IE.quiet]
@[simp] theorem quiet_gl (x : Nat) (d : D) : IE.quiet (.gl x d) = true := by simp only [IE.quiet]
@[simp] theorem quiet_no  : IE.quiet (.no) = true := by simp only [IE.quiet]
@[simp] theorem quiet_dicE (b : Bool) : IE.quiet (.dicE b) = true := by simp only [IE.quiet]
@[simp] theorem quiet_tup (es : List IE) : IE.quiet (.tup es) = IE.quiets es := by simp only [IE.quiet]
@[simp] theorem quiet_lst (es : List IE) : IE.quiet (.lst es) = IE.quiets es := by simp only [IE.quiet]
@[simp] theorem quiet_bin (o : BOp) (a b : IE) : IE.quiet (.bin o a b) = (IE.quiet a && IE.quiet b) := by simp only [IE.quiet]
@[simp] theorem quiet_cmp (o : COp) (a b : IE) : IE.quiet (.cmp o a b) = (IE.quiet a && IE.quiet b) := by simp only [IE.quiet]
@[simp] theorem quiet_idx (a b : IE) : IE.quiet (.idx a b) = (IE.quiet a && IE.quiet b) := by simp only [IE.quiet]
@[simp] theorem quiet_neg (a : IE) : IE.quiet (.neg a) = IE.quiet a := by simp only [IE.quiet]
@[simp] theorem quiet_slc (a b c : IE) : IE.quiet (.slc a b c) = (IE.quiet a && IE.quiet b && IE.quiet c) := by simp only [IE.quiet]
@[simp] theorem quiet_call (f : Nat) (as : List IE) : IE.quiet (.call f as) = IE.quiets as := by simp only [IE.quiet]
@[simp] theorem quiet_blt (b : BI) (as : List IE) : IE.quiet (.blt b as) = IE.quiets as := by simp only [IE.quiet]
@[simp] theorem quiet_io (j : Nat) : IE.quiet (.io j) = false := by simp only [IE.quiet]
@[simp] theorem quiet_mth (m : MI) (j : Nat) (as : List IE) : IE.quiet (.mth m j as) = false := by simp only [IE.quiet]
@[simp] theorem quiet_dicL (ks vs : List Str) : IE.quiet (.dicL ks vs) = true := by simp only [IE.quiet]
@[simp] theorem quiet_lc (st : Bool) (elt : IE) (tg : List Nat) (tup : Bool) (k : ItK) (its : List IE) (cond : IE) (own : List Nat) : IE.quiet (.lc st elt tg tup k its cond own) = (IE.quiet elt && IE.quiets its && IE.quiet cond) := by simp only [IE.quiet]
@[simp] theorem quiet_gix (g : Nat) (ks vs : List D) (a : IE) : IE.quiet (.gix g ks vs a) = IE.quiet a := by simp only [IE.quiet]
@[simp] theorem quiet_gin (b : Bool) (g : Nat) (ks : List D) (a : IE) : IE.quiet (.gin b g ks a) = IE.quiet a := by simp only [IE.quiet]
@[simp] theorem quiet_not (a : IE) : IE.quiet (.not a) = IE.quiet a := by simp only [IE.quiet]
@[simp] theorem quiet_and (a b : IE) : IE.quiet (.and a b) = (IE.quiet a && IE.quiet b) := by simp only [IE.quiet]
@[simp] theorem quiet_or (a b : IE) : IE.quiet (.or a b) = (IE.quiet a && IE.quiet b) := by simp only [IE.quiet]
@[simp] theorem quiet_lens (j : Nat) : IE.quiet (.lens j) = true := by simp only [IE.quiet]
@[simp] theorem quiet_chn (o p : COp) (a b c : IE) : IE.quiet (.chn o p a b c) = (IE.quiet a && IE.quiet b && IE.quiet c) := by simp only [IE.quiet]
@[simp] theorem quiet_callk (f : Nat) (p : List Nat) (as : List IE) : IE.quiet (.callk f p as) = IE.quiets as := by simp only [IE.quiet]
@[simp] theorem wipe_nil (env : Env) : Env.wipe env [] = env := (rfl)
@[simp] theorem wipe_cons (x : Option W) (es : Env) (i : Nat) (is : List Nat) : Env.wipe (x :: es) (i :: is) = Env.wipe (List.set (x :: es) i none) is := (rfl)
@[simp] theorem restore_nil (env old : Env) : Env.restore env old [] = env := (rfl)
@[simp] theorem restore_cons (x : Option W) (es old : Env) (i : Nat) (is : List Nat) : Env.restore (x :: es) old (i :: is) = Env.restore (List.set (x :: es) i ((old[i]?).getD none)) old is := (rfl)
/-! ### statements -/
/-- a turn of a for -/
def turnF (F : Nat → List W → FRes) (sub : Subs) (fu : Nat) (ios tg : List Nat) (tup : Bool) (body : List IS) (d : D) (e : Env) : Out := Out.of (Res.of (e.target tg tup d)) fun e1 => evSs F sub fu ios body e1
theorem forL_next {body : D → Env → Out} {d : D} {ds : List D} {e e' : Env} (h : body d e = .next e') : forL body (d :: ds) e = forL body ds e' := by rw [forL, h]
theorem forL_ret {body : D → Env → Out} {d : D} {ds : List D} {e e' : Env} {w : W} (h : body d e = .ret w e') : forL body (d :: ds) e = .ret w e' := by rw [forL, h]
def ifB (r : Res (Env × W)) (f g : Env → Out) : Out := Out.of r fun q => match q.2 with
  | .val (.bool b) => if b then f q.1 else g q.1
  | _ => .stuck
@[simp] theorem ifB_ok (e : Env) (b : Bool) (f g : Env → Out) : ifB (.ok (e, .val (.bool b))) f g = if b then f e else g e := (rfl)
@[simp] theorem ifB_exc (c : Nat) (d : D) (e : Env) (f g : Env → Out) : ifB (.exc c d e) f g = .exc c d e := (rfl)
section
variable (F : Nat → List W → FRes) (sub : Subs) (fu : Nat) (ios : List Nat)
@[simp] theorem es_asg (i : Nat) (e : IE) (x0 : Option W) (e0 : Env) : evS F sub fu ios (.asg i e) (x0 :: e0) = Out.of (evX F e .val (x0 :: e0)) fun r => .next (r.1.set i (some r.2)) := by simp only [evS]
@[simp] theorem es_asgT (is : List Nat) (e : IE) (x0 : Option W) (e0 : Env) : evS F sub fu ios (.asgT is e) (x0 :: e0) = Out.of (evX F e .val (x0 :: e0)) fun r => Out.of (Res.of ((unpackW r.2).bind fun ds => Env.putT is ds r.1)) fun e => .next e := by simp only [evS]
@[simp] theorem es_asg2 (i j : Nat) (a b : IE) (x0 : Option W) (e0 : Env) : evS F sub fu ios (.asg2 i j a b) (x0 :: e0) = Out.of (evX F a .val (x0 :: e0)) fun r => Out.of (evX F b .val r.1) fun q => .next ((q.1.set i (some r.2)).set j (some q.2)) := by simp only [evS]
@[simp] theorem es_sidx (j : Nat) (k e : IE) (x0 : Option W) (e0 : Env) : evS F sub fu ios (.sidx j k e) (x0 :: e0) = Out.of (evX F e .val (x0 :: e0)) fun r => Out.of (r.1.get j) fun _ => Out.of (evX F k .val r.1) fun q => Out.of (q.1.get j) fun s => Out.of (Res.of (storeW s q.2 r.2)) fun w => .next (q.1.set j (some w)) := by simp only [evS]
@[simp] theorem es_ex (e : IE) (x0 : Option W) (e0 : Env) : evS F sub fu ios (.ex e) (x0 :: e0) = Out.of (evX F e .val (x0 :: e0)) fun r => .next r.1 := by simp only [evS]
@[simp] theorem es_ret (e : IE) (x0 : Option W) (e0 : Env) : evS F sub fu ios (.ret e) (x0 :: e0) = Out.of (retR F ios e (x0 :: e0)) fun r => .ret r.2 r.1 := by simp only [evS]
@[simp] theorem es_retN (x0 : Option W) (e0 : Env) : evS F sub fu ios .retN (x0 :: e0) = .ret (.val .none) (x0 :: e0) := by simp only [evS]
@[simp] theorem es_if (c : IE) (a b : List IS) (x0 : Option W) (e0 : Env) : evS F sub fu ios (.ifS c a b) (x0 :: e0) = ifB (evX F c .test (x0 :: e0)) (fun e => evSs F sub fu ios a e) (fun e => evSs F sub fu ios b e) := by
  simp only [evS, evT, ifB]
  cases evX F c .test (x0 :: e0) with
  | ok q =>
    simp only [Res.bind_ok, Out.of_ok]
    obtain ⟨e, w⟩ := q
    cases w with
    | val d => cases d <;> rfl
    | _ => rfl
  | stuck => rfl
  | exc c d e => rfl
@[simp] theorem es_for (tg : List Nat) (tup : Bool) (k : ItK) (its : List IE) (body : List IS) (x0 : Option W) (e0 : Env) : evS F sub fu ios (.forS tg tup k its body) (x0 :: e0) = Out.of (evEs F its .val (x0 :: e0)) fun r => Out.of (Res.of (itemsOf k r.2)) fun ds => forL (turnF F sub fu ios tg tup body) ds r.1 := by simp only [evS]; rfl
@[simp] theorem es_while (c : IE) (body : List IS) (x0 : Option W) (e0 : Env) : evS F sub fu ios (.whileS c body) (x0 :: e0) = whileL (fun e => evT F c e) (fun e => evSs F sub fu ios body e) fu (x0 :: e0) := by simp only [evS]
@[simp] theorem es_raise0 (c : Nat) (x0 : Option W) (e0 : Env) : evS F sub fu ios (.raise c []) (x0 :: e0) = .exc c .none (x0 :: e0) := by simp [evS]
@[simp] theorem es_raise1 (c : Nat) (e : IE) (x0 : Option W) (e0 : Env) : evS F sub fu ios (.raise c [e]) (x0 :: e0) = Out.of (evX F e .val (x0 :: e0)) fun r => Out.of (Res.of r.2.toD) fun d => .exc c d r.1 := by
  simp only [evS, evEs_cons, evEs_nil, Res.bind_ok]
  cases evX F e .val (x0 :: e0) <;> rfl
@[simp] theorem es_try (body : List IS) (hs : List (Nat × Option Nat × HS)) (x0 : Option W) (e0 : Env) : evS F sub fu ios (.tryS body hs) (x0 :: e0) = match evSs F sub fu ios body (x0 :: e0) with
    | .exc c d e => catchL sub c d e hs
    | o => o := by simp only [evS] <;> rfl
@[simp] theorem es_pass (x0 : Option W) (e0 : Env) : evS F sub fu ios .pass (x0 :: e0) = .next (x0 :: e0) := by simp only [evS]
@[simp] theorem es_brk (x0 : Option W) (e0 : Env) : evS F sub fu ios .brk (x0 :: e0) = .brk (x0 :: e0) := by simp only [evS]
@[simp] theorem es_cont (x0 : Option W) (e0 : Env) : evS F sub fu ios .cont (x0 :: e0) = .cont (x0 :: e0) := by simp only [evS]
@[simp] theorem ess_nil (x0 : Option W) (e0 : Env) : evSs F sub fu ios [] (x0 :: e0) = .next (x0 :: e0) := by simp only [evSs]
@[simp] theorem ess_cons (s : IS) (ss : List IS) (x0 : Option W) (e0 : Env) : evSs F sub fu ios (s :: ss) (x0 :: e0) = (evS F sub fu ios s (x0 :: e0)).then fun e => evSs F sub fu ios ss e := by simp only [evSs]
theorem evT_ok (e : IE) (env : Env) : evT F e env = (evX F e .test env).bind fun q => match q.2 with
  | .val (.bool b) => .ok (q.1, b)
  | _ => .stuck := rfl
end
end TA

set_option Elab.async false
set_option linter.all false
set_option maxRecDepth 100000
/-! PuTb: the table of k80's defs. -/
namespace TA
open PySem
def tb : Nat → Option FDef
  | 0 => some ir_is_row
  | 1 => some ir_is_name
  | 2 => some ir_frozen
  | 3 => some ir_is_whole
  | 4 => some ir_is_atom
  | 5 => some ir_is_item
  | 6 => some ir_items_fault
  | 7 => some ir_test_fault
  | 8 => some ir_behind
  | 9 => some ir_each_fault
  | 10 => some ir_last_fault
  | 11 => some ir_part_fault
  | 12 => some ir_surveyed
  | 13 => some ir_depth_of
  | 14 => some ir_within_bounds
  | 15 => some ir_open_fault
  | 16 => some ir_opened
  | 17 => some ir_is_path
  | 18 => some ir_found_part
  | 19 => some ir_open_part
  | 20 => some ir_classes
  | 21 => some ir_written_classes
  | 22 => some ir_test_follows
  | 23 => some ir_checked_test
  | 24 => some ir_follows
  | 25 => some ir_names_of
  | 26 => some ir__law_draw
  | 27 => some ir__law_some
  | 28 => some ir__law_item
  | 29 => some ir__law_test
  | 30 => some ir__law_leaf
  | 31 => some ir__law_open
  | 32 => some ir__law_atom
  | 33 => some ir__law_passes
  | 34 => some ir__law_says
  | 35 => some ir__law_parts
  | 36 => some ir__law_nest
  | 37 => some ir__law_asked
  | 38 => some ir__law_pool
  | 39 => some ir__law_always
  | 40 => some ir__law_refused
  | 41 => some ir__law_no_part
  | 42 => some ir__law_refuses
  | 43 => some ir__law_listed
  | 44 => some ir_law
  | _ => none
def subT : Subs := fun a b => a == b || b == 0
def runN : Nat → Nat → List W → FRes
  | 0, _, _ => .stuck
  | n + 1, f, args => match tb f with
    | some d => evF (runN n) subT 1000 d args
    | none => .stuck
theorem rn_is_row (n : Nat) (args : List W) : runN (n + 1) 0 args = evF (runN n) subT 1000 ir_is_row args := rfl
theorem rn_is_name (n : Nat) (args : List W) : runN (n + 1) 1 args = evF (runN n) subT 1000 ir_is_name args := rfl
theorem rn_frozen (n : Nat) (args : List W) : runN (n + 1) 2 args = evF (runN n) subT 1000 ir_frozen args := rfl
theorem rn_is_whole (n : Nat) (args : List W) : runN (n + 1) 3 args = evF (runN n) subT 1000 ir_is_whole args := rfl
theorem rn_is_atom (n : Nat) (args : List W) : runN (n + 1) 4 args = evF (runN n) subT 1000 ir_is_atom args := rfl
theorem rn_is_item (n : Nat) (args : List W) : runN (n + 1) 5 args = evF (runN n) subT 1000 ir_is_item args := rfl
theorem rn_items_fault (n : Nat) (args : List W) : runN (n + 1) 6 args = evF (runN n) subT 1000 ir_items_fault args := rfl
theorem rn_test_fault (n : Nat) (args : List W) : runN (n + 1) 7 args = evF (runN n) subT 1000 ir_test_fault args := rfl
theorem rn_behind (n : Nat) (args : List W) : runN (n + 1) 8 args = evF (runN n) subT 1000 ir_behind args := rfl
theorem rn_each_fault (n : Nat) (args : List W) : runN (n + 1) 9 args = evF (runN n) subT 1000 ir_each_fault args := rfl
theorem rn_last_fault (n : Nat) (args : List W) : runN (n + 1) 10 args = evF (runN n) subT 1000 ir_last_fault args := rfl
theorem rn_part_fault (n : Nat) (args : List W) : runN (n + 1) 11 args = evF (runN n) subT 1000 ir_part_fault args := rfl
theorem rn_surveyed (n : Nat) (args : List W) : runN (n + 1) 12 args = evF (runN n) subT 1000 ir_surveyed args := rfl
theorem rn_depth_of (n : Nat) (args : List W) : runN (n + 1) 13 args = evF (runN n) subT 1000 ir_depth_of args := rfl
theorem rn_within_bounds (n : Nat) (args : List W) : runN (n + 1) 14 args = evF (runN n) subT 1000 ir_within_bounds args := rfl
theorem rn_open_fault (n : Nat) (args : List W) : runN (n + 1) 15 args = evF (runN n) subT 1000 ir_open_fault args := rfl
theorem rn_opened (n : Nat) (args : List W) : runN (n + 1) 16 args = evF (runN n) subT 1000 ir_opened args := rfl
theorem rn_is_path (n : Nat) (args : List W) : runN (n + 1) 17 args = evF (runN n) subT 1000 ir_is_path args := rfl
theorem rn_found_part (n : Nat) (args : List W) : runN (n + 1) 18 args = evF (runN n) subT 1000 ir_found_part args := rfl
theorem rn_open_part (n : Nat) (args : List W) : runN (n + 1) 19 args = evF (runN n) subT 1000 ir_open_part args := rfl
theorem rn_classes (n : Nat) (args : List W) : runN (n + 1) 20 args = evF (runN n) subT 1000 ir_classes args := rfl
theorem rn_written_classes (n : Nat) (args : List W) : runN (n + 1) 21 args = evF (runN n) subT 1000 ir_written_classes args := rfl
theorem rn_test_follows (n : Nat) (args : List W) : runN (n + 1) 22 args = evF (runN n) subT 1000 ir_test_follows args := rfl
theorem rn_checked_test (n : Nat) (args : List W) : runN (n + 1) 23 args = evF (runN n) subT 1000 ir_checked_test args := rfl
theorem rn_follows (n : Nat) (args : List W) : runN (n + 1) 24 args = evF (runN n) subT 1000 ir_follows args := rfl
theorem rn_names_of (n : Nat) (args : List W) : runN (n + 1) 25 args = evF (runN n) subT 1000 ir_names_of args := rfl
theorem rn__law_draw (n : Nat) (args : List W) : runN (n + 1) 26 args = evF (runN n) subT 1000 ir__law_draw args := rfl
theorem rn__law_some (n : Nat) (args : List W) : runN (n + 1) 27 args = evF (runN n) subT 1000 ir__law_some args := rfl
theorem rn__law_item (n : Nat) (args : List W) : runN (n + 1) 28 args = evF (runN n) subT 1000 ir__law_item args := rfl
theorem rn__law_test (n : Nat) (args : List W) : runN (n + 1) 29 args = evF (runN n) subT 1000 ir__law_test args := rfl
theorem rn__law_leaf (n : Nat) (args : List W) : runN (n + 1) 30 args = evF (runN n) subT 1000 ir__law_leaf args := rfl
theorem rn__law_open (n : Nat) (args : List W) : runN (n + 1) 31 args = evF (runN n) subT 1000 ir__law_open args := rfl
theorem rn__law_atom (n : Nat) (args : List W) : runN (n + 1) 32 args = evF (runN n) subT 1000 ir__law_atom args := rfl
theorem rn__law_passes (n : Nat) (args : List W) : runN (n + 1) 33 args = evF (runN n) subT 1000 ir__law_passes args := rfl
theorem rn__law_says (n : Nat) (args : List W) : runN (n + 1) 34 args = evF (runN n) subT 1000 ir__law_says args := rfl
theorem rn__law_parts (n : Nat) (args : List W) : runN (n + 1) 35 args = evF (runN n) subT 1000 ir__law_parts args := rfl
theorem rn__law_nest (n : Nat) (args : List W) : runN (n + 1) 36 args = evF (runN n) subT 1000 ir__law_nest args := rfl
theorem rn__law_asked (n : Nat) (args : List W) : runN (n + 1) 37 args = evF (runN n) subT 1000 ir__law_asked args := rfl
theorem rn__law_pool (n : Nat) (args : List W) : runN (n + 1) 38 args = evF (runN n) subT 1000 ir__law_pool args := rfl
theorem rn__law_always (n : Nat) (args : List W) : runN (n + 1) 39 args = evF (runN n) subT 1000 ir__law_always args := rfl
theorem rn__law_refused (n : Nat) (args : List W) : runN (n + 1) 40 args = evF (runN n) subT 1000 ir__law_refused args := rfl
theorem rn__law_no_part (n : Nat) (args : List W) : runN (n + 1) 41 args = evF (runN n) subT 1000 ir__law_no_part args := rfl
theorem rn__law_refuses (n : Nat) (args : List W) : runN (n + 1) 42 args = evF (runN n) subT 1000 ir__law_refuses args := rfl
theorem rn__law_listed (n : Nat) (args : List W) : runN (n + 1) 43 args = evF (runN n) subT 1000 ir__law_listed args := rfl
theorem rn_law (n : Nat) (args : List W) : runN (n + 1) 44 args = evF (runN n) subT 1000 ir_law args := rfl
end TA

set_option Elab.async false
set_option linter.all false
set_option maxRecDepth 100000
/-! Pu1: texts, data; frozen; the kinds of parts. -/
namespace TA
open PySem
/-! ### texts -/
@[simp] theorem S_eq (x y : String) : (S x = S y) ↔ x = y := by
  constructor
  · intro h
    unfold S at h
    rw [Str.ofString_eq_toList, Str.ofString_eq_toList] at h
    have h1 : x.toList.map Char.toNat = y.toList.map Char.toNat := by
      have := congrArg (fun s => s.cps.toList) h
      simpa using this
    have inj : ∀ {l m : List Char}, l.map Char.toNat = m.map Char.toNat → l = m := by
      intro l
      induction l with
      | nil => intro m h; cases m <;> simp_all
      | cons a l ih =>
        intro m h
        cases m with
        | nil => simp at h
        | cons b m =>
          simp only [List.map_cons, List.cons.injEq] at h
          rw [ih h.2, Char.toNat_inj.mp h.1]
    have := inj h1
    rw [← String.ofList_toList (s := x), ← String.ofList_toList (s := y), this]
  · rintro rfl; rfl

@[simp] theorem S_beq (x y : String) : (S x == S y) = (x == y) := by
  by_cases h : x = y
  · subst h; simp
  · rw [beq_eq_false_iff_ne.mpr h, beq_eq_false_iff_ne.mpr (fun z => h ((S_eq x y).mp z))]
@[simp] theorem isi_str_none  : isinst .str (.none) = false := (rfl)
@[simp] theorem isi_str_bool (b : Bool) : isinst .str (.bool b) = false := (rfl)
@[simp] theorem isi_str_int (i : Int) : isinst .str (.int i) = false := (rfl)
@[simp] theorem isi_str_str (x : Str) : isinst .str (.str x) = true := (rfl)
@[simp] theorem isi_str_list (ds : List D) : isinst .str (.list ds) = false := (rfl)
@[simp] theorem isi_str_tuple (ds : List D) : isinst .str (.tuple ds) = false := (rfl)
@[simp] theorem isi_str_dict (k : List (D × D)) : isinst .str (.dict k) = false := (rfl)
@[simp] theorem isi_int_none  : isinst .int (.none) = false := (rfl)
@[simp] theorem isi_int_bool (b : Bool) : isinst .int (.bool b) = true := (rfl)
@[simp] theorem isi_int_int (i : Int) : isinst .int (.int i) = true := (rfl)
@[simp] theorem isi_int_str (x : Str) : isinst .int (.str x) = false := (rfl)
@[simp] theorem isi_int_list (ds : List D) : isinst .int (.list ds) = false := (rfl)
@[simp] theorem isi_int_tuple (ds : List D) : isinst .int (.tuple ds) = false := (rfl)
@[simp] theorem isi_int_dict (k : List (D × D)) : isinst .int (.dict k) = false := (rfl)
@[simp] theorem isi_bool_none  : isinst .bool (.none) = false := (rfl)
@[simp] theorem isi_bool_bool (b : Bool) : isinst .bool (.bool b) = true := (rfl)
@[simp] theorem isi_bool_int (i : Int) : isinst .bool (.int i) = false := (rfl)
@[simp] theorem isi_bool_str (x : Str) : isinst .bool (.str x) = false := (rfl)
@[simp] theorem isi_bool_list (ds : List D) : isinst .bool (.list ds) = false := (rfl)
@[simp] theorem isi_bool_tuple (ds : List D) : isinst .bool (.tuple ds) = false := (rfl)
@[simp] theorem isi_bool_dict (k : List (D × D)) : isinst .bool (.dict k) = false := (rfl)
@[simp] theorem isi_list_none  : isinst .list (.none) = false := (rfl)
@[simp] theorem isi_list_bool (b : Bool) : isinst .list (.bool b) = false := (rfl)
@[simp] theorem isi_list_int (i : Int) : isinst .list (.int i) = false := (rfl)
@[simp] theorem isi_list_str (x : Str) : isinst .list (.str x) = false := (rfl)
@[simp] theorem isi_list_list (ds : List D) : isinst .list (.list ds) = true := (rfl)
@[simp] theorem isi_list_tuple (ds : List D) : isinst .list (.tuple ds) = false := (rfl)
@[simp] theorem isi_list_dict (k : List (D × D)) : isinst .list (.dict k) = false := (rfl)
@[simp] theorem isi_tuple_none  : isinst .tuple (.none) = false := (rfl)
@[simp] theorem isi_tuple_bool (b : Bool) : isinst .tuple (.bool b) = false := (rfl)
@[simp] theorem isi_tuple_int (i : Int) : isinst .tuple (.int i) = false := (rfl)
@[simp] theorem isi_tuple_str (x : Str) : isinst .tuple (.str x) = false := (rfl)
@[simp] theorem isi_tuple_list (ds : List D) : isinst .tuple (.list ds) = false := (rfl)
@[simp] theorem isi_tuple_tuple (ds : List D) : isinst .tuple (.tuple ds) = true := (rfl)
@[simp] theorem isi_tuple_dict (k : List (D × D)) : isinst .tuple (.dict k) = false := (rfl)
@[simp] theorem isi_dict_none  : isinst .dict (.none) = false := (rfl)
@[simp] theorem isi_dict_bool (b : Bool) : isinst .dict (.bool b) = false := (rfl)
@[simp] theorem isi_dict_int (i : Int) : isinst .dict (.int i) = false := (rfl)
@[simp] theorem isi_dict_str (x : Str) : isinst .dict (.str x) = false := (rfl)
@[simp] theorem isi_dict_list (ds : List D) : isinst .dict (.list ds) = false := (rfl)
@[simp] theorem isi_dict_tuple (ds : List D) : isinst .dict (.tuple ds) = false := (rfl)
@[simp] theorem isi_dict_dict (k : List (D × D)) : isinst .dict (.dict k) = true := (rfl)
@[simp] theorem isi_row_none  : isinst .row (.none) = false := (rfl)
@[simp] theorem isi_row_bool (b : Bool) : isinst .row (.bool b) = false := (rfl)
@[simp] theorem isi_row_int (i : Int) : isinst .row (.int i) = false := (rfl)
@[simp] theorem isi_row_str (x : Str) : isinst .row (.str x) = false := (rfl)
@[simp] theorem isi_row_list (ds : List D) : isinst .row (.list ds) = true := (rfl)
@[simp] theorem isi_row_tuple (ds : List D) : isinst .row (.tuple ds) = true := (rfl)
@[simp] theorem isi_row_dict (k : List (D × D)) : isinst .row (.dict k) = false := (rfl)
@[simp] theorem items_tup (ds : List D) : itemsD (.tuple ds) = some ds := (rfl)
@[simp] theorem items_lst (ds : List D) : itemsD (.list ds) = some ds := (rfl)
@[simp] theorem items_dic (k : List (D × D)) : itemsD (.dict k) = some (k.map (·.1)) := (rfl)
@[simp] theorem len_tup (ds : List D) : lenD (.tuple ds) = some ds.length := (rfl)
@[simp] theorem len_lst (ds : List D) : lenD (.list ds) = some ds.length := (rfl)
@[simp] theorem len_dic (k : List (D × D)) : lenD (.dict k) = some k.length := (rfl)
/-! ### frozen -/
mutual
def frz : D → D
  | .list ds => .tuple (frzs ds)
  | .tuple ds => .tuple (frzs ds)
  | .none => .none
  | .bool b => .bool b
  | .int i => .int i
  | .str x => .str x
  | .dict k => .dict k
def frzs : List D → List D
  | [] => []
  | d :: ds => frz d :: frzs ds
end
theorem frzs_map : ∀ ds : List D, frzs ds = ds.map frz
  | [] => rfl
  | d :: ds => by rw [frzs, frzs_map ds, List.map_cons]
/-- nested at most n deep, the rows short -/
inductive Sm : Nat → D → Prop
  | non {n : Nat} : Sm n .none
  | bl {n : Nat} (b : Bool) : Sm n (.bool b)
  | int {n : Nat} (i : Int) : Sm n (.int i)
  | str {n : Nat} (x : Str) : Sm n (.str x)
  | dic {n : Nat} (k : List (D × D)) : Sm n (.dict k)
  | lst {n : Nat} {ds : List D} : ds.length ≤ 100 → (∀ d ∈ ds, Sm n d) → Sm (n + 1) (.list ds)
  | tup {n : Nat} {ds : List D} : ds.length ≤ 100 → (∀ d ∈ ds, Sm n d) → Sm (n + 1) (.tuple ds)
theorem szOk_small {n : Nat} (h : n ≤ 16777216) : szOk n = true := by simp [szOk, h]
theorem compL_map {step : D → Env → Res (Env × Option W)} {g : D → W} : ∀ {ds : List D} {env : Env} {acc : List W}, (∀ d ∈ ds, step d env = .ok (env, some (g d))) → acc.length + ds.length ≤ 1000 → compL step ds env acc = .ok (env, acc ++ ds.map g)
  | [], env, acc, _, _ => by simp [compL]
  | d :: ds, env, acc, h, l => by
    rw [compL, h d (List.mem_cons_self ..)]
    simp only [Res.bind_ok]
    rw [if_pos (szOk_small (by simp at l; omega)), compL_map (fun e he => h e (List.mem_cons_of_mem _ he)) (by simp at l ⊢; omega)]
    simp
@[simp] theorem toDs_vals : ∀ ds : List D, W.toDs (ds.map W.val) = some ds
  | [] => by simp
  | d :: ds => by simp [toDs_vals ds]
@[simp] theorem toDs_vals2 (ds : List D) (f : D → D) : W.toDs (ds.map fun d => W.val (f d)) = some (ds.map f) := by
  rw [← toDs_vals (ds.map f), List.map_map]; rfl
@[simp] theorem itemsOf_val (d : D) : itemsOf .seq [.val d] = itemsD d := by simp [itemsOf]
@[simp] theorem itemsOf_lst (ws : List W) : itemsOf .seq [.lst ws] = W.toDs ws := by
  simp only [itemsOf, W.toD_lst]
  cases W.toDs ws <;> rfl
theorem run_is_row (n : Nat) (d : D) : runN (n + 1) 0 [.val d] = .ret (.val (.bool (isinst .row d))) [] := by
  rw [rn_is_row]
  simp [evF, ir_is_row, retR, BI.md, bltD, outsOf, FRes.of]
theorem run_is_whole (n : Nat) (d : D) : runN (n + 1) 3 [.val d] = .ret (.val (.bool (isinst .int d && !isinst .bool d))) [] := by
  rw [rn_is_whole]
  simp [evF, ir_is_whole, retR, BI.md, bltD, outsOf, FRes.of]
  cases isinst .int d <;> simp [FRes.of]
theorem run_frozen : ∀ {k : Nat} {d : D}, Sm k d → ∀ n, k + 2 ≤ n → runN n 2 [.val d] = .ret (.val (frz d)) [] := by
  intro k d h
  induction h with
  | lst l h ih =>
    intro n hn
    obtain ⟨m, rfl⟩ : ∃ m, n = m + 2 := ⟨n - 2, by omega⟩
    rename_i k ds
    rw [rn_frozen]
    have hs : ∀ d ∈ ds, stepL (runN (m + 1)) [1] false (.call 2 [.loc 1]) (.lit (.bool true)) [1] d [some (.val (.list ds)), none] = .ok ([some (.val (.list ds)), none], some (.val (frz d))) := fun d hd => by
      simp [stepL, ih d hd (m + 1) (by omega), Env.wipe]
    simp [evF, ir_frozen, retR, BI.md, run_is_row, Env.wipe, compL_map hs, bltD, outsOf, FRes.of, Env.restore, frz, frzs_map]
    rw [compL_map hs (by simp; omega)]
    simp [evF, ir_frozen, retR, BI.md, run_is_row, Env.wipe, compL_map hs, bltD, outsOf, FRes.of, Env.restore, frz, frzs_map]
  | tup l h ih =>
    intro n hn
    obtain ⟨m, rfl⟩ : ∃ m, n = m + 2 := ⟨n - 2, by omega⟩
    rename_i k ds
    rw [rn_frozen]
    have hs : ∀ d ∈ ds, stepL (runN (m + 1)) [1] false (.call 2 [.loc 1]) (.lit (.bool true)) [1] d [some (.val (.tuple ds)), none] = .ok ([some (.val (.tuple ds)), none], some (.val (frz d))) := fun d hd => by
      simp [stepL, ih d hd (m + 1) (by omega), Env.wipe]
    simp [evF, ir_frozen, retR, BI.md, run_is_row, Env.wipe, compL_map hs, bltD, outsOf, FRes.of, Env.restore, frz, frzs_map]
    rw [compL_map hs (by simp; omega)]
    simp [evF, ir_frozen, retR, BI.md, run_is_row, Env.wipe, compL_map hs, bltD, outsOf, FRes.of, Env.restore, frz, frzs_map]
  | _ =>
    intro n hn
    obtain ⟨m, rfl⟩ : ∃ m, n = m + 2 := ⟨n - 2, by omega⟩
    rw [rn_frozen]
    simp [evF, ir_frozen, retR, BI.md, run_is_row, bltD, outsOf, FRes.of, frz]
end TA

set_option Elab.async false
set_option linter.all false
set_option maxRecDepth 100000
/-! Pu2: items, tests, parts: what is right. -/
namespace TA
open PySem
inductive Atm where | i (n : Int) | s (x : Str)
  deriving DecidableEq
def Atm.toD : Atm → D
  | .i n => .int n
  | .s x => .str x
inductive Itm where | name (x : Str) | atom (a : Atm)
  deriving DecidableEq
def Itm.toD : Itm → D
  | .name x => .tuple [.str (S "name"), .str x]
  | .atom a => .tuple [.str (S "atom"), a.toD]
structure Tst where
  al : Bool
  a : Itm
  b : Itm
def alS (b : Bool) : Str := if b then S "alike" else S "unlike"
def Tst.toD (t : Tst) : D := .tuple [.str (alS t.al), t.a.toD, t.b.toD]
inductive Prt where
  | none
  | give (is : List Itm)
  | each (x r : Str) (p : Prt)
  | choice (p q : Prt)
  | when (t : Tst) (p : Prt)
  | last (v : Str) (i : Itm) (p : Prt)
def Prt.toD : Prt → D
  | .none => .tuple [.str (S "none")]
  | .give is => .tuple [.str (S "give"), .tuple (is.map Itm.toD)]
  | .each x r p => .tuple [.str (S "each"), .str x, .str r, p.toD]
  | .choice p q => .tuple [.str (S "choice"), p.toD, q.toD]
  | .when t p => .tuple [.str (S "when"), t.toD, p.toD]
  | .last v i p => .tuple [.str (S "last"), .str v, i.toD, p.toD]
def nms : List Str := [S "x", S "y", S "z", S "r", S "s", S "t", S "v", S "q"]
def atS : List Str := [S "1", S "b", S "", S "77"]
/-- a written atom, none of the fresh ones -/
def AtOk : Atm → Prop
  | .i n => n < 900 ∨ 920 ≤ n
  | .s x => x ∈ atS
def Itm.Ok (g : List Str) : Itm → Prop
  | .name x => x ∈ nms ∧ x ∈ g
  | .atom a => AtOk a
def Tst.Ok (g : List Str) (t : Tst) : Prop := t.a.Ok g ∧ t.b.Ok g
def Prt.Ok (g : List Str) : Prt → Prop
  | .none => True
  | .give is => is.length ≤ 3 ∧ ∀ i ∈ is, i.Ok g
  | .each x r p => x ∈ nms ∧ x ∉ g ∧ r ∈ nms ∧ p.Ok (g ++ [x])
  | .choice p q => p.Ok g ∧ q.Ok g
  | .when t p => t.Ok g ∧ p.Ok g
  | .last v i p => v ∈ nms ∧ i.Ok g ∧ p.Ok g
/-! ### rows -/
def IsRow (d : D) (ds : List D) : Prop := d = .list ds ∨ d = .tuple ds
theorem frz_row {d : D} {es : List D} (h : frz d = .tuple es) : ∃ ds, IsRow d ds ∧ ds.map frz = es := by
  cases d <;> simp [frz] at h
  · exact ⟨_, .inl rfl, by rw [← frzs_map]; exact h⟩
  · exact ⟨_, .inr rfl, by rw [← frzs_map]; exact h⟩
theorem frz_str {d : D} {x : Str} (h : frz d = .str x) : d = .str x := by cases d <;> simp_all [frz]
theorem frz_int {d : D} {i : Int} (h : frz d = .int i) : d = .int i := by cases d <;> simp_all [frz]
section
variable {d : D} {ds : List D}
theorem IsRow.elem (h : IsRow d ds) (k : D) : elemD d k = elemD (.tuple ds) k := by rcases h with rfl | rfl <;> cases k <;> rfl
theorem IsRow.len (h : IsRow d ds) : lenD d = some ds.length := by rcases h with rfl | rfl <;> rfl
theorem IsRow.row (h : IsRow d ds) : isinst .row d = true := by rcases h with rfl | rfl <;> rfl
theorem IsRow.items (h : IsRow d ds) : itemsD d = some ds := by rcases h with rfl | rfl <;> rfl
theorem IsRow.blist (h : IsRow d ds) : bltD .list [d] = some (.lst (ds.map .val)) := by rcases h with rfl | rfl <;> rfl
theorem IsRow.btup (h : IsRow d ds) : bltD .tuple [d] = some (.val (.tuple ds)) := by rcases h with rfl | rfl <;> rfl
theorem IsRow.frz (h : IsRow d ds) : frz d = .tuple (ds.map frz) := by rcases h with rfl | rfl <;> simp [TA.frz, frzs_map]
end
@[simp] theorem elem_tup (ds : List D) (i : Int) : elemD (.tuple ds) (.int i) = atI ds i := (rfl)
@[simp] theorem elem_lst (ds : List D) (i : Int) : elemD (.list ds) (.int i) = atI ds i := (rfl)
theorem atI_nat {α : Type} (xs : List α) (i : Nat) : atI xs (i : Int) = xs[i]? := by
  unfold atI ixN
  rw [if_pos (by omega)]
  by_cases h : i < xs.length
  · rw [if_pos (by omega)]; simp
  · rw [if_neg (by omega)]; simp at h ⊢; exact h
@[simp] theorem atI_0 {α : Type} (xs : List α) : atI xs (0 : Int) = xs[0]? := atI_nat xs 0
@[simp] theorem atI_1 {α : Type} (xs : List α) : atI xs (1 : Int) = xs[1]? := atI_nat xs 1
@[simp] theorem atI_2 {α : Type} (xs : List α) : atI xs (2 : Int) = xs[2]? := atI_nat xs 2
@[simp] theorem atI_3 {α : Type} (xs : List α) : atI xs (3 : Int) = xs[3]? := atI_nat xs 3
/-! ### comparing -/
@[simp] theorem eqD_str (x y : Str) : eqD (.str x) (.str y) = some (x == y) := by simp [eqD, cmpb, isDict, eqx]
@[simp] theorem eqD_int (x y : Int) : eqD (.int x) (.int y) = some (x == y) := by simp [eqD, cmpb, isDict, eqx]
@[simp] theorem cmpW_eq (x y : D) : cmpW .eq x y = (eqD x y).map fun k => .val (.bool k) := by simp [cmpW, cmpD]
@[simp] theorem cmpW_ne (x y : D) : cmpW .ne x y = (eqD x y).map fun k => .val (.bool !k) := by simp [cmpW, cmpD]; rfl
@[simp] theorem cmpW_lt (i j : Int) : cmpW .lt (.int i) (.int j) = some (.val (.bool (decide (i < j)))) := (rfl)
@[simp] theorem cmpW_le (i j : Int) : cmpW .le (.int i) (.int j) = some (.val (.bool (decide (i ≤ j)))) := (rfl)
@[simp] theorem cmpW_gt (i j : Int) : cmpW .gt (.int i) (.int j) = some (.val (.bool (decide (j < i)))) := (rfl)
@[simp] theorem cmpW_ge (i j : Int) : cmpW .ge (.int i) (.int j) = some (.val (.bool (decide (j ≤ i)))) := (rfl)
@[simp] theorem cmpW_in (x y : D) : cmpW .isin x y = (inD x y).map fun k => .val (.bool k) := by simp [cmpW, cmpD]
@[simp] theorem cmpW_notin (x y : D) : cmpW .notin x y = (inD x y).map fun k => .val (.bool !k) := by simp [cmpW, cmpD]; rfl
@[simp] theorem cmpW_isnone (x : D) : cmpW .isnone x .none = some (.val (.bool (isNon x))) := by cases x <;> rfl
@[simp] theorem cmpW_notnone (x : D) : cmpW .notnone x .none = some (.val (.bool !(isNon x))) := by cases x <;> rfl
theorem in_names (x : Str) (g : List Str) : inD (.str x) (.tuple (g.map .str)) = some (decide (x ∈ g)) := by
  unfold inD
  have h1 : (g.map PyData.str).all (fun z => cmpb 50 z (.str x)) = true := by
    rw [List.all_map, List.all_eq_true]
    intro z _
    simp [cmpb]
  have h2 : (g.map PyData.str).any (fun z => eqx z (.str x)) = decide (x ∈ g) := by
    rw [List.any_map]
    have : ((fun z => eqx z (PyData.str x)) ∘ PyData.str) = fun z => z == x := by funext z; simp [eqx]
    rw [this]
    induction g with
    | nil => rfl
    | cons a g ih =>
      rw [List.any_cons, ih (by simp [cmpb])]
      by_cases h : a = x
      · subst h; simp
      · rw [beq_eq_false_iff_ne.mpr h, Bool.false_or, decide_eq_decide]
        exact ⟨List.mem_cons_of_mem _, fun z => (List.mem_cons.mp z).resolve_left (Ne.symm h)⟩
  simp only [h1, if_true, h2]
@[simp] theorem bltD_len (d : D) : bltD .len [d] = (lenD d).map fun (n : Nat) => W.val (.int n) := by
  simp only [bltD]
  cases lenD d <;> rfl
@[simp] theorem bltD_isi (c : Cls) (d : D) : bltD (.isi c) [d] = some (.val (.bool (isinst c d))) := by simp [bltD]
@[simp] theorem bltD_tup (ds : List D) : bltD .tuple [.list ds] = some (.val (.tuple ds)) := by simp [bltD]
@[simp] theorem bltD_tup2 (ds : List D) : bltD .tuple [.tuple ds] = some (.val (.tuple ds)) := by simp [bltD]
@[simp] theorem md_len : BI.md .len = .peek := (rfl)
@[simp] theorem md_isi (c : Cls) : BI.md (.isi c) = .peek := (rfl)
@[simp] theorem md_tup : BI.md .tuple = .val := (rfl)
@[simp] theorem md_list : BI.md .list = .flat := (rfl)
@[simp] theorem md_dict : BI.md .dict = .flat := (rfl)
@[simp] theorem md_int : BI.md .int = .peek := (rfl)
@[simp] theorem md_ord : BI.md .ord = .peek := (rfl)
@[simp] theorem md_max1 : BI.md .max1 = .peek := (rfl)
@[simp] theorem md_sorted : BI.md .sorted = .flat := (rfl)
@[simp] theorem outsOf_nil (env : Env) : outsOf env [] = some [] := (rfl)
@[simp] theorem FRes.of_some (w : W) (outs : List W) : FRes.of w (some outs) = .ret w outs := (rfl)
@[simp] theorem tupW_val (ws : List W) : tupW ws = (W.toDs ws).bind fun ds => if szOk ds.length then some (.val (.tuple ds)) else none := (rfl)
@[simp] theorem szOk_lit0 : szOk 0 = true := (rfl)
@[simp] theorem szOk_lit1 : szOk 1 = true := (rfl)
@[simp] theorem szOk_lit2 : szOk 2 = true := (rfl)
@[simp] theorem szOk_lit3 : szOk 3 = true := (rfl)
@[simp] theorem szOk_lit4 : szOk 4 = true := (rfl)
@[simp] theorem isNon_none : isNon .none = true := (rfl)
@[simp] theorem isNon_tup (ds : List D) : isNon (.tuple ds) = false := (rfl)
@[simp] theorem isNon_dic (ds : List (D × D)) : isNon (.dict ds) = false := (rfl)
/-! ### names, atoms, items -/
theorem name_ok {x : Str} (h : x ∈ nms) (n : Nat) : runN (n + 1) 1 [.val (.str x)] = .ret (.val (.bool true)) [] := by
  simp only [nms, List.mem_cons, List.not_mem_nil, or_false] at h
  rcases h with rfl | rfl | rfl | rfl | rfl | rfl | rfl | rfl <;> rfl
theorem atom_ok {a : Atm} (h : AtOk a) (n : Nat) : runN (n + 2) 4 [.val a.toD] = .ret (.val (.bool true)) [] := by
  cases a with
  | i m =>
    rw [rn_is_atom]
    simp [evF, ir_is_atom, run_is_whole, retR, Atm.toD]
  | s x =>
    simp only [AtOk, atS, List.mem_cons, List.not_mem_nil, or_false] at h
    rcases h with rfl | rfl | rfl | rfl <;> rfl
theorem frz_name {d : D} {x : Str} (h : frz d = (Itm.name x).toD) : IsRow d [.str (S "name"), .str x] := by
  obtain ⟨ds, r, e⟩ := frz_row h
  rcases ds with _ | ⟨a, _ | ⟨b, _ | ⟨c, ds⟩⟩⟩ <;> simp at e
  rw [frz_str e.1, frz_str e.2] at r
  exact r
theorem frz_at {d : D} {a : Atm} (e : frz d = a.toD) : d = a.toD := by
  cases a with
  | i m => exact frz_int e
  | s x => exact frz_str e
@[simp] theorem frz_atD (a : Atm) : frz a.toD = a.toD := by cases a <;> rfl
theorem frz_atom {d : D} {a : Atm} (h : frz d = (Itm.atom a).toD) : IsRow d [.str (S "atom"), a.toD] := by
  obtain ⟨ds, r, e⟩ := frz_row h
  rcases ds with _ | ⟨a, _ | ⟨b, _ | ⟨c, ds⟩⟩⟩ <;> simp at e
  rw [frz_str e.1, frz_at e.2] at r
  exact r
abbrev gD (g : List Str) : D := .tuple (g.map .str)
theorem item_name {d : D} {x : Str} {g : List Str} (h : frz d = (Itm.name x).toD) (hx : x ∈ nms) (n : Nat) : runN (n + 2) 5 [.val d, .val (gD g)] = .ret (.val (.bool (decide (x ∈ g)))) [] := by
  have r := frz_name h
  rw [rn_is_item]
  simp [evF, ir_is_item, run_is_row, retR, r.row, r.len, r.elem, name_ok hx, in_names]
theorem item_atom {d : D} {a : Atm} {g : List Str} (h : frz d = (Itm.atom a).toD) (ok : AtOk a) (n : Nat) : runN (n + 3) 5 [.val d, .val (gD g)] = .ret (.val (.bool true)) [] := by
  have r := frz_atom h
  rw [rn_is_item]
  simp [evF, ir_is_item, run_is_row, retR, r.row, r.len, r.elem, atom_ok ok]
theorem item_ok {d : D} {i : Itm} {g : List Str} (h : frz d = i.toD) (ok : i.Ok g) (n : Nat) : runN (n + 3) 5 [.val d, .val (gD g)] = .ret (.val (.bool true)) [] := by
  cases i with
  | name x => rw [item_name h ok.1]; simp [ok.2]
  | atom a => exact item_atom h ok n
end TA

set_option Elab.async false
set_option linter.all false
set_option maxRecDepth 100000
/-! PuSem: what tests tell of each other: numbers of classes against all atoms. -/
namespace TA
open PySem
abbrev Rho := Str → Atm
def Itm.ev (ρ : Rho) : Itm → Atm
  | .name x => ρ x
  | .atom a => a
def Tst.pass (ρ : Rho) (t : Tst) : Bool := decide (t.a.ev ρ = t.b.ev ρ) == t.al
/-- numbers of items: those of tests; what is made alike has one number; one number only where all ways make it alike -/
structure Nums (ts : List Tst) (num : Itm → Option Int) : Prop where
  dom : ∀ t ∈ ts, (num t.a).isSome ∧ (num t.b).isSome
  al : ∀ t ∈ ts, t.al = true → num t.a = num t.b
  one : ∀ ρ : Rho, (∀ t ∈ ts, t.pass ρ = true) → ∀ i j v, num i = some v → num j = some v → i.ev ρ = j.ev ρ
/-- the atoms to be tried -/
def pool (as : List Atm) (g : List Str) : List Atm := as ++ (List.range g.length).map fun k => .i (900 + (k : Nat))
section
variable {ts : List Tst} {num : Itm → Option Int} {g : List Str} {as : List Atm}
def Known (num : Itm → Option Int) (c : Int) : Prop := ∃ a, num (.atom a) = some c
/-- two atoms of one class -/
theorem clash (N : Nums ts num) {a b : Atm} {c : Int} (ha : num (.atom a) = some c) (hb : num (.atom b) = some c) (ne : a ≠ b) (ρ : Rho) : ¬ ∀ t ∈ ts, t.pass ρ = true := fun h => ne (N.one ρ h _ _ c ha hb)
/-- a class's value -/
noncomputable def cv (num : Itm → Option Int) (g : List Str) (c : Int) : Atm :=
  open Classical in if h : Known num c then h.choose else .i (900 + (g.findIdx fun x => decide (num (.name x) = some c) : Nat))
theorem cv_atom {a : Atm} {c : Int} (U : ∀ a b c, num (.atom a) = some c → num (.atom b) = some c → a = b) (h : num (.atom a) = some c) : cv num g c = a := by
  have k : Known num c := ⟨a, h⟩
  unfold cv
  rw [dif_pos k]
  exact U _ _ c k.choose_spec h
theorem cv_fresh {c : Int} (h : ¬ Known num c) : cv num g c = .i (900 + (g.findIdx fun x => decide (num (.name x) = some c) : Nat)) := by
  unfold cv
  rw [dif_neg h]
/-- a class that has a name alone -/
theorem fresh_name {c : Int} {i : Itm} (hi : num i = some c) (k : ¬ Known num c) (hg : ∀ x, (num (.name x)).isSome → x ∈ g) : ∃ x ∈ g, num (.name x) = some c := by
  cases i with
  | atom a => exact absurd ⟨a, hi⟩ k
  | name x => exact ⟨x, hg x (by rw [hi]; rfl), hi⟩
theorem fresh_idx {c : Int} {x : Str} (hx : x ∈ g) (e : num (.name x) = some c) : ∃ h : (g.findIdx fun x => decide (num (.name x) = some c)) < g.length, num (.name (g[g.findIdx fun x => decide (num (.name x) = some c)])) = some c := by
  have h : (g.findIdx fun x => decide (num (.name x) = some c)) < g.length := List.findIdx_lt_length_of_exists ⟨x, hx, by simpa using e⟩
  exact ⟨h, by simpa using List.findIdx_getElem (w := h)⟩
theorem cv_inj (hl : g.length ≤ 20) (U : ∀ a b c, num (.atom a) = some c → num (.atom b) = some c → a = b) (hg : ∀ x, (num (.name x)).isSome → x ∈ g) (ha : ∀ a, (num (.atom a)).isSome → AtOk a) {c d : Int} {i j : Itm} (hi : num i = some c) (hj : num j = some d) (e : cv num g c = cv num g d) : c = d := by
  by_cases kc : Known num c <;> by_cases kd : Known num d
  · obtain ⟨a, h1⟩ := kc
    obtain ⟨b, h2⟩ := kd
    rw [cv_atom U h1, cv_atom U h2] at e
    subst e
    rw [h1] at h2
    exact Option.some.inj h2
  · obtain ⟨a, h1⟩ := kc
    obtain ⟨x, hx, ex⟩ := fresh_name hj kd hg
    obtain ⟨h3, _⟩ := fresh_idx hx ex
    rw [cv_atom U h1, cv_fresh kd] at e
    subst e
    have := ha _ (by rw [h1]; rfl)
    simp only [AtOk] at this
    omega
  · obtain ⟨a, h1⟩ := kd
    obtain ⟨x, hx, ex⟩ := fresh_name hi kc hg
    obtain ⟨h3, _⟩ := fresh_idx hx ex
    rw [cv_atom U h1, cv_fresh kc] at e
    subst e
    have := ha _ (by rw [h1]; rfl)
    simp only [AtOk] at this
    omega
  · obtain ⟨x, hx, ex⟩ := fresh_name hi kc hg
    obtain ⟨y, hy, ey⟩ := fresh_name hj kd hg
    obtain ⟨h3, e3⟩ := fresh_idx hx ex
    obtain ⟨h4, e4⟩ := fresh_idx hy ey
    rw [cv_fresh kc, cv_fresh kd] at e
    have e5 : (g.findIdx fun x => decide (num (.name x) = some c)) = g.findIdx fun x => decide (num (.name x) = some d) := by
      have := Atm.i.inj e
      omega
    simp only [e5] at e3
    rw [e4] at e3
    exact (Option.some.inj e3).symm
/-- an environment by values of classes -/
def rhoOf (num : Itm → Option Int) (f : Int → Atm) : Rho := fun x => match num (.name x) with
  | some c => f c
  | none => .i 900
theorem ev_rho {f : Int → Atm} (hf : ∀ a c, num (.atom a) = some c → f c = a) {i : Itm} {c : Int} (h : num i = some c) : i.ev (rhoOf num f) = f c := by
  cases i with
  | name x => simp only [Itm.ev, rhoOf, h]
  | atom a => exact (hf a c h).symm
theorem cv_pool (hn : ∀ a, (num (.atom a)).isSome → a ∈ as) (hg : ∀ x, (num (.name x)).isSome → x ∈ g) {c : Int} {i : Itm} (hi : num i = some c) : cv num g c ∈ pool as g := by
  by_cases k : Known num c
  · unfold cv
    rw [dif_pos k]
    exact List.mem_append_left _ (hn _ (by rw [k.choose_spec]; rfl))
  · obtain ⟨x, hx, ex⟩ := fresh_name hi k hg
    obtain ⟨h3, _⟩ := fresh_idx hx ex
    rw [cv_fresh k]
    exact List.mem_append_right _ (List.mem_map.mpr ⟨_, List.mem_range.mpr h3, rfl⟩)
theorem rho_pool {f : Int → Atm} (hf : ∀ i c, num i = some c → f c ∈ pool as g) {x : Str} (hx : x ∈ g) : rhoOf num f x ∈ pool as g := by
  unfold rhoOf
  split
  · rename_i c h
    exact hf _ c h
  · exact List.mem_append_right _ (List.mem_map.mpr ⟨0, List.mem_range.mpr (List.length_pos_of_mem hx), rfl⟩)
/-- the answer: true where it follows, false with a way where it does not -/
structure Ctx0 (ts : List Tst) (t : Tst) (g : List Str) (as : List Atm) (num : Itm → Option Int) : Prop where
  N : Nums ts num
  ta : (num t.a).isSome
  tb : (num t.b).isSome
  hl : g.length ≤ 20
  hg : ∀ x, (num (.name x)).isSome → x ∈ g
  ha : ∀ a, (num (.atom a)).isSome → AtOk a
  hn : ∀ a, (num (.atom a)).isSome → a ∈ as
def Follows (ts : List Tst) (t : Tst) (g : List Str) (as : List Atm) (b : Bool) : Prop :=
  (b = true → ∀ ρ : Rho, (∀ u ∈ ts, u.pass ρ = true) → t.pass ρ = true) ∧
  (b = false → ∃ ρ : Rho, (∀ x ∈ g, ρ x ∈ pool as g) ∧ (∀ u ∈ ts, u.pass ρ = true) ∧ t.pass ρ = false)
variable {t : Tst}
theorem fol_vac (h : ∀ ρ : Rho, ¬ ∀ u ∈ ts, u.pass ρ = true) : Follows ts t g as true := ⟨fun _ ρ p => absurd p (h ρ), fun h => nomatch h⟩
/-- some unlike pair within one class -/
theorem fol_apart (C : Ctx0 ts t g as num) {u : Tst} (hu : u ∈ ts) (h : u.al = false) (e : num u.a = num u.b) : Follows ts t g as true := fol_vac fun ρ p => by
  have q := p u hu
  obtain ⟨v, hv⟩ := Option.isSome_iff_exists.mp (C.N.dom u hu).1
  have := C.N.one ρ p _ _ v hv (by rw [← e]; exact hv)
  rw [Tst.pass, h, this] at q
  simp at q
theorem fol_yes (C : Ctx0 ts t g as num) (h : t.al = true) (e : num t.a = num t.b) : Follows ts t g as true := ⟨fun _ ρ p => by
  obtain ⟨v, hv⟩ := Option.isSome_iff_exists.mp C.ta
  have := C.N.one ρ p _ _ v hv (by rw [← e]; exact hv)
  rw [Tst.pass, h, this]
  simp, fun h => nomatch h⟩
/-- a way by unlike classes, two of which may have one value -/
theorem way (C : Ctx0 ts t g as num) (f : Int → Atm) (hf : ∀ a c, num (.atom a) = some c → f c = a) (hp : ∀ i c, num i = some c → f c ∈ pool as g)
    (hu : ∀ u ∈ ts, u.al = false → ∀ c d, num u.a = some c → num u.b = some d → f c ≠ f d) (ht : ∀ c d, num t.a = some c → num t.b = some d → decide (f c = f d) = !t.al) : Follows ts t g as false :=
  ⟨(fun h => nomatch h), fun _ => ⟨rhoOf num f, fun x hx => rho_pool hp hx, fun u h => by
    obtain ⟨c, hc⟩ := Option.isSome_iff_exists.mp (C.N.dom u h).1
    obtain ⟨d, hd⟩ := Option.isSome_iff_exists.mp (C.N.dom u h).2
    rw [Tst.pass, ev_rho hf hc, ev_rho hf hd]
    cases hal : u.al with
    | true =>
      have := C.N.al u h hal
      rw [hc, hd] at this
      rw [Option.some.inj this]
      simp
    | false =>
      have := hu u h hal c d hc hd
      simp [this], by
    obtain ⟨c, hc⟩ := Option.isSome_iff_exists.mp C.ta
    obtain ⟨d, hd⟩ := Option.isSome_iff_exists.mp C.tb
    rw [Tst.pass, ev_rho hf hc, ev_rho hf hd, ht c d hc hd]
    cases t.al <;> rfl⟩⟩
theorem fol_no (C : Ctx0 ts t g as num) (U : ∀ a b c, num (.atom a) = some c → num (.atom b) = some c → a = b) (un : ∀ u ∈ ts, u.al = false → num u.a ≠ num u.b) (ht : decide (num t.a = num t.b) = !t.al) : Follows ts t g as false := by
  refine way C (cv num g) (fun a c h => cv_atom U h) (fun i c h => cv_pool C.hn C.hg h) (fun u hu hal c d hc hd e => un u hu hal ?_) fun c d hc hd => ?_
  · rw [hc, hd, cv_inj C.hl U C.hg C.ha hc hd e]
  · rw [← ht, hc, hd, decide_eq_decide]
    exact ⟨fun e => by rw [cv_inj C.hl U C.hg C.ha hc hd e], fun e => by rw [Option.some.inj e]⟩
/-- unlike, the classes apart: it follows if both have atoms, or an unlike pair parts them -/
theorem fol_unlike_yes (C : Ctx0 ts t g as num) (U : ∀ a b c, num (.atom a) = some c → num (.atom b) = some c → a = b) (h : t.al = false) {c d : Int} (hc : num t.a = some c) (hd : num t.b = some d) (ne : c ≠ d)
    (h2 : (Known num c ∧ Known num d) ∨ ∃ u ∈ ts, u.al = false ∧ ((num u.a = some c ∧ num u.b = some d) ∨ (num u.a = some d ∧ num u.b = some c))) : Follows ts t g as true := ⟨fun _ ρ p => by
  have key : t.a.ev ρ ≠ t.b.ev ρ := fun e => by
    rcases h2 with ⟨⟨a, ha⟩, ⟨b, hb⟩⟩ | ⟨u, hu, hal, q⟩
    · have e1 := C.N.one ρ p _ _ c hc ha
      have e2 := C.N.one ρ p _ _ d hd hb
      rw [e1, e2] at e
      have : a = b := e
      subst this
      rw [ha] at hb
      exact ne (Option.some.inj hb)
    · have pu := p u hu
      have : u.a.ev ρ = u.b.ev ρ := by
        rcases q with ⟨q1, q2⟩ | ⟨q1, q2⟩
        · rw [C.N.one ρ p _ _ c q1 hc, C.N.one ρ p _ _ d q2 hd, e]
        · rw [C.N.one ρ p _ _ d q1 hd, C.N.one ρ p _ _ c q2 hc, e]
      rw [Tst.pass, hal, this] at pu
      simp at pu
  rw [Tst.pass, h]
  simp [key], fun h => nomatch h⟩
theorem fol_unlike_no (C : Ctx0 ts t g as num) (U : ∀ a b c, num (.atom a) = some c → num (.atom b) = some c → a = b) (un : ∀ u ∈ ts, u.al = false → num u.a ≠ num u.b) (h : t.al = false) {c d : Int} (hc : num t.a = some c) (hd : num t.b = some d)
    (h1 : ¬ (Known num c ∧ Known num d)) (h2 : ¬ ∃ u ∈ ts, u.al = false ∧ ((num u.a = some c ∧ num u.b = some d) ∨ (num u.a = some d ∧ num u.b = some c))) : Follows ts t g as false := by
  have go : ∀ (k m : Int) (i j : Itm), num i = some k → num j = some m → ¬ Known num m → ((k = c ∧ m = d) ∨ (k = d ∧ m = c)) → Follows ts t g as false := fun k m i j hi hj hm hkm => by
    have hf : ∀ a e, num (.atom a) = some e → (if e = m then cv num g k else cv num g e) = a := fun a e he => by
      rw [if_neg (fun (z : e = m) => hm ⟨a, by rw [← z]; exact he⟩)]
      exact cv_atom U he
    refine way C (fun e => if e = m then cv num g k else cv num g e) hf (fun i' e he => ?_) (fun u hu hal e e' he he' z => ?_) fun e e' he he' => ?_
    · split
      · exact cv_pool C.hn C.hg hi
      · exact cv_pool C.hn C.hg he
    · skip
      have une := un u hu hal
      rw [he, he'] at une
      have une' : e ≠ e' := fun z => une (by rw [z])
      by_cases z1 : e = m <;> by_cases z2 : e' = m
      · exact une' (z1.trans z2.symm)
      · rw [if_pos z1, if_neg z2] at z
        have := cv_inj C.hl U C.hg C.ha hi he' z
        refine h2 ⟨u, hu, hal, ?_⟩
        rw [he, he', z1, ← this]
        rcases hkm with ⟨rfl, rfl⟩ | ⟨rfl, rfl⟩
        · exact .inr ⟨rfl, rfl⟩
        · exact .inl ⟨rfl, rfl⟩
      · rw [if_neg z1, if_pos z2] at z
        have := cv_inj C.hl U C.hg C.ha he hi z
        refine h2 ⟨u, hu, hal, ?_⟩
        rw [he, he', z2, this]
        rcases hkm with ⟨rfl, rfl⟩ | ⟨rfl, rfl⟩
        · exact .inl ⟨rfl, rfl⟩
        · exact .inr ⟨rfl, rfl⟩
      · rw [if_neg z1, if_neg z2] at z
        exact une' (cv_inj C.hl U C.hg C.ha he he' z)
    · rw [hc] at he
      rw [hd] at he'
      cases he
      cases he'
      rw [h]
      rcases hkm with ⟨rfl, rfl⟩ | ⟨rfl, rfl⟩
      · rw [if_pos rfl]
        by_cases z : k = m
        · simp [z]
        · simp [z]
      · rw [if_pos rfl]
        by_cases z : k = m
        · simp [z]
        · simp [z]
  by_cases k : Known num d
  · exact go d c _ _ hd hc (fun z => h1 ⟨z, k⟩) (.inr ⟨rfl, rfl⟩)
  · exact go c d _ _ hc hd k (.inl ⟨rfl, rfl⟩)
end
end TA

set_option Elab.async false
set_option linter.all false
set_option maxRecDepth 100000
/-! Pu3: the faults of parts. -/
namespace TA
open PySem
@[simp] theorem rng1_int (j : Int) : itemsOf .rng1 [.val (.int j)] = if -4611686018427387904 ≤ j ∧ j < 4611686018427387904 then some ((List.range j.toNat).map fun (k : Nat) => .int k) else none := by
  simp only [itemsOf]
  by_cases h : -4611686018427387904 ≤ j ∧ j < 4611686018427387904
  · rw [if_pos h, if_pos (by simpa using h)]
  · rw [if_neg h, if_neg (by simpa using h)]
@[simp] theorem forL_nil (body : D → Env → Out) (env : Env) : forL body [] env = .next env := (rfl)
@[simp] theorem forL_cons (body : D → Env → Out) (d : D) (ds : List D) (env : Env) : forL body (d :: ds) env = match body d env with
    | .next e => forL body ds e
    | .cont e => forL body ds e
    | .brk e => .next e
    | r => r := by rw [forL] <;> rfl
theorem frz_list {d : D} {es : List D} (h : frz d = .tuple es) : ∃ ds, IsRow d ds ∧ ds.map frz = es ∧ ds.length = es.length := by
  obtain ⟨ds, r, e⟩ := frz_row h
  exact ⟨ds, r, e, by rw [← e, List.length_map]⟩
/-- the items of a give are right -/
theorem items_ok {d : D} {is : List Itm} {g : List Str} (h : frz d = .tuple (is.map Itm.toD)) (l : is.length ≤ 3) (ok : ∀ i ∈ is, i.Ok g) (n : Nat) : runN (n + 4) 6 [.val d, .val (gD g)] = .ret (.val .none) [] := by
  obtain ⟨ds, r, e, el⟩ := frz_list h
  rw [rn_items_fault]
  rw [List.length_map] at el
  have hi : ∀ a ∈ ds, runN (n + 3) 5 [.val a, .val (gD g)] = .ret (.val (.bool true)) [] := fun a ha => by
    have : frz a ∈ ds.map frz := List.mem_map_of_mem ha
    rw [e] at this
    obtain ⟨i, hm, hi⟩ := List.mem_map.mp this
    exact item_ok hi.symm (ok i hm) n
  rw [← el] at l
  rcases ds with _ | ⟨a, _ | ⟨b, _ | ⟨c, _ | ⟨z, ds⟩⟩⟩⟩
  · simp [evF, ir_items_fault, lb_items_fault_0, turnF, run_is_row, retR, r.row, r.len, d_MOST_ITEMS]
  · simp [evF, ir_items_fault, lb_items_fault_0, turnF, run_is_row, retR, r.row, r.len, d_MOST_ITEMS, List.range, List.range.loop, r.elem, hi a (by simp)]
  · simp [evF, ir_items_fault, lb_items_fault_0, turnF, run_is_row, retR, r.row, r.len, d_MOST_ITEMS, List.range, List.range.loop, r.elem, hi a (by simp), hi b (by simp)]
  · simp [evF, ir_items_fault, lb_items_fault_0, turnF, run_is_row, retR, r.row, r.len, d_MOST_ITEMS, List.range, List.range.loop, r.elem, hi a (by simp), hi b (by simp), hi c (by simp)]
  · simp at l
theorem frz_test {d : D} {t : Tst} (h : frz d = t.toD) : ∃ a b, IsRow d [.str (alS t.al), a, b] ∧ frz a = t.a.toD ∧ frz b = t.b.toD := by
  obtain ⟨ds, r, e⟩ := frz_row h
  rcases ds with _ | ⟨a, _ | ⟨b, _ | ⟨c, _ | ⟨z, ds⟩⟩⟩⟩ <;> simp at e
  rw [frz_str e.1] at r
  exact ⟨b, c, r, e.2.1, e.2.2⟩
@[simp] theorem gin_als (b neg : Bool) : ginW neg ks_OPPOSITES (.str (alS b)) = some (.val (.bool (!neg))) := by
  cases b <;> cases neg <;> rfl
theorem test_ok {d : D} {t : Tst} {g : List Str} (h : frz d = t.toD) (ok : t.Ok g) (n : Nat) : runN (n + 4) 7 [.val d, .val (gD g)] = .ret (.val .none) [] := by
  obtain ⟨a, b, r, ha, hb⟩ := frz_test h
  rw [rn_test_fault]
  simp [evF, ir_test_fault, lb_test_fault_0, turnF, run_is_row, retR, r.row, r.len, r.elem, item_ok ha ok.1, item_ok hb ok.2]
@[simp] theorem behind_none (n : Nat) (i : Int) : runN (n + 1) 8 [.val (.int i), .val .none] = .ret (.val .none) [] := by
  rw [rn_behind]
  simp [evF, ir_behind, retR]
theorem behind_tup (n : Nat) (i : Int) (ds : List D) (h : ds.length ≤ 100) : runN (n + 1) 8 [.val (.int i), .val (.tuple ds)] = .ret (.val (.tuple (.int i :: ds))) [] := by
  rw [rn_behind]
  simp [evF, ir_behind, retR, binD, szOk_small (n := 1 + ds.length) (by omega)]
/-! ### parts -/
def Prt.lv : Prt → Nat
  | .none | .give _ => 0
  | .each _ _ p | .when _ p | .last _ _ p => p.lv + 2
  | .choice p q => max p.lv q.lv + 2
theorem frz_part1 {d : D} {a : Str} {es : List D} (h : frz d = .tuple (.str a :: es)) : ∃ ds, IsRow d (.str a :: ds) ∧ ds.map frz = es ∧ ds.length = es.length := by
  obtain ⟨ds, r, e, l⟩ := frz_list h
  cases ds with
  | nil => simp at e
  | cons b ds =>
    simp at e
    rw [frz_str e.1] at r
    exact ⟨ds, r, e.2, by simpa using l⟩
def lenK : String → Nat
  | "none" => 1 | "give" => 2 | "each" => 4 | "choice" => 3 | "when" => 3 | "last" => 4
  | _ => 0
@[simp] theorem gin_kind_none (neg : Bool) : ginW neg ks_LENGTHS (.str (S "none")) = some (.val (.bool (!neg))) := by cases neg <;> rfl
@[simp] theorem gin_kind_give (neg : Bool) : ginW neg ks_LENGTHS (.str (S "give")) = some (.val (.bool (!neg))) := by cases neg <;> rfl
@[simp] theorem gin_kind_each (neg : Bool) : ginW neg ks_LENGTHS (.str (S "each")) = some (.val (.bool (!neg))) := by cases neg <;> rfl
@[simp] theorem gin_kind_choice (neg : Bool) : ginW neg ks_LENGTHS (.str (S "choice")) = some (.val (.bool (!neg))) := by cases neg <;> rfl
@[simp] theorem gin_kind_when (neg : Bool) : ginW neg ks_LENGTHS (.str (S "when")) = some (.val (.bool (!neg))) := by cases neg <;> rfl
@[simp] theorem gin_kind_last (neg : Bool) : ginW neg ks_LENGTHS (.str (S "last")) = some (.val (.bool (!neg))) := by cases neg <;> rfl
@[simp] theorem gix_kind_none : gixW ks_LENGTHS vs_LENGTHS (.str (S "none")) = some (.val (.int 1)) := by rfl
@[simp] theorem gix_kind_give : gixW ks_LENGTHS vs_LENGTHS (.str (S "give")) = some (.val (.int 2)) := by rfl
@[simp] theorem gix_kind_each : gixW ks_LENGTHS vs_LENGTHS (.str (S "each")) = some (.val (.int 4)) := by rfl
@[simp] theorem gix_kind_choice : gixW ks_LENGTHS vs_LENGTHS (.str (S "choice")) = some (.val (.int 3)) := by rfl
@[simp] theorem gix_kind_when : gixW ks_LENGTHS vs_LENGTHS (.str (S "when")) = some (.val (.int 3)) := by rfl
@[simp] theorem gix_kind_last : gixW ks_LENGTHS vs_LENGTHS (.str (S "last")) = some (.val (.int 4)) := by rfl
theorem add_names (g : List Str) (x : Str) (h : g.length ≤ 100) : binD .add (gD g) (.tuple [.str x]) = some (.val (gD (g ++ [x]))) := by
  simp [binD, szOk_small (n := g.length + 1) (by omega)]
theorem part_ok : ∀ (p : Prt) {d : D} {g : List Str}, frz d = p.toD → p.Ok g → g.length + p.lv ≤ 100 → ∀ n, p.lv + 6 ≤ n → runN n 11 [.val d, .val (gD g)] = .ret (.val .none) []
  | .none, d, g, h, ok, gl, n, hn => by
    obtain ⟨m, rfl⟩ : ∃ m, n = m + 6 := ⟨n - 6, by omega⟩
    obtain ⟨ds, r, e, l⟩ := frz_part1 h
    rw [rn_part_fault]
    simp at l
    subst l
    simp [evF, ir_part_fault, run_is_row, retR, r.row, r.len, r.elem]
  | .give is, d, g, h, ok, gl, n, hn => by
    obtain ⟨m, rfl⟩ : ∃ m, n = m + 6 := ⟨n - 6, by omega⟩
    obtain ⟨ds, r, e, l⟩ := frz_part1 h
    rcases ds with _ | ⟨a, _ | ⟨b, ds⟩⟩ <;> simp at e
    rw [rn_part_fault]
    simp [evF, ir_part_fault, run_is_row, retR, r.row, r.len, r.elem, items_ok (by simpa using e) ok.1 ok.2]
  | .each x y p, d, g, h, ok, gl, n, hn => by
    obtain ⟨m, rfl⟩ : ∃ m, n = m + 6 := ⟨n - 6, by omega⟩
    obtain ⟨ds, r, e, l⟩ := frz_part1 h
    rcases ds with _ | ⟨a, _ | ⟨b, _ | ⟨c, _ | ⟨z, ds⟩⟩⟩⟩ <;> simp at e
    rw [frz_str e.1, frz_str e.2.1] at r
    simp only [Prt.lv] at hn gl
    have ih := part_ok p (d := c) (g := g ++ [x]) e.2.2 ok.2.2.2 (by simp; omega) (m + 4) (by omega)
    have h9 : runN (m + 5) 9 [.val d, .val (gD g)] = .ret (.val .none) [] := by
      rw [rn_each_fault]
      simp [evF, ir_each_fault, retR, r.elem, name_ok ok.1, name_ok ok.2.2.1, in_names, ok.2.1, add_names g x (by omega), ih]
    rw [rn_part_fault]
    simp [evF, ir_part_fault, run_is_row, retR, r.row, r.len, r.elem, h9]
  | .last v i p, d, g, h, ok, gl, n, hn => by
    obtain ⟨m, rfl⟩ : ∃ m, n = m + 6 := ⟨n - 6, by omega⟩
    obtain ⟨ds, r, e, l⟩ := frz_part1 h
    rcases ds with _ | ⟨a, _ | ⟨b, _ | ⟨c, _ | ⟨z, ds⟩⟩⟩⟩ <;> simp at e
    rw [frz_str e.1] at r
    simp only [Prt.lv] at hn gl
    have ih := part_ok p (d := c) (g := g) e.2.2 ok.2.2 (by omega) (m + 4) (by omega)
    have h9 : runN (m + 5) 10 [.val d, .val (gD g)] = .ret (.val .none) [] := by
      rw [rn_last_fault]
      simp [evF, ir_last_fault, retR, r.elem, name_ok ok.1, item_ok e.2.1 ok.2.1, ih]
    rw [rn_part_fault]
    simp [evF, ir_part_fault, run_is_row, retR, r.row, r.len, r.elem, h9]
  | .when t p, d, g, h, ok, gl, n, hn => by
    obtain ⟨m, rfl⟩ : ∃ m, n = m + 6 := ⟨n - 6, by omega⟩
    obtain ⟨ds, r, e, l⟩ := frz_part1 h
    rcases ds with _ | ⟨a, _ | ⟨b, _ | ⟨z, ds⟩⟩⟩ <;> simp at e
    simp only [Prt.lv] at hn gl
    have ih := part_ok p (d := b) (g := g) e.2 ok.2 (by omega) (m + 5) (by omega)
    rw [rn_part_fault]
    simp [evF, ir_part_fault, run_is_row, retR, r.row, r.len, r.elem, test_ok e.1 ok.1, ih]
  | .choice p q, d, g, h, ok, gl, n, hn => by
    obtain ⟨m, rfl⟩ : ∃ m, n = m + 6 := ⟨n - 6, by omega⟩
    obtain ⟨ds, r, e, l⟩ := frz_part1 h
    rcases ds with _ | ⟨a, _ | ⟨b, _ | ⟨z, ds⟩⟩⟩ <;> simp at e
    simp only [Prt.lv] at hn gl
    have ih1 := part_ok p (d := a) (g := g) e.1 ok.1 (by omega) (m + 5) (by omega)
    have ih2 := part_ok q (d := b) (g := g) e.2 ok.2 (by omega) (m + 5) (by omega)
    rw [rn_part_fault]
    simp [evF, ir_part_fault, run_is_row, retR, r.row, r.len, r.elem, ih1, ih2]
end TA

set_option Elab.async false
set_option linter.all false
set_option maxRecDepth 100000
/-! Pu4: surveyed. -/
namespace TA
open PySem
def kid (d : D) (i : Nat) : D := match d with
  | .list ds => ds.getD i .none
  | .tuple ds => ds.getD i .none
  | _ => .none
theorem IsRow.kid {d : D} {ds : List D} (h : IsRow d ds) (i : Nat) : kid d i = ds.getD i .none := by rcases h with rfl | rfl <;> rfl
abbrev plD (pl : List Int) : D := .tuple (pl.map .int)
def spD (pl : List Int) (d : D) (prs ts : List D) : D := .tuple [plD pl, d, .tuple prs, .tuple ts]
/-- what surveyed tells -/
def surv : Prt → D → List Int → List D → List D → List D
  | .each _ _ p, d, pl, prs, ts => spD pl d prs ts :: surv p (kid d 3) (pl ++ [3]) (prs ++ [.tuple [kid d 1, kid d 2]]) ts
  | .last _ _ p, d, pl, prs, ts => spD pl d prs ts :: surv p (kid d 3) (pl ++ [3]) prs ts
  | .when _ p, d, pl, prs, ts => spD pl d prs ts :: surv p (kid d 2) (pl ++ [2]) prs (ts ++ [kid d 1])
  | .choice p q, d, pl, prs, ts => spD pl d prs ts :: (surv p (kid d 1) (pl ++ [1]) prs ts ++ surv q (kid d 2) (pl ++ [2]) prs ts)
  | .none, d, pl, prs, ts => [spD pl d prs ts]
  | .give _, d, pl, prs, ts => [spD pl d prs ts]
def Prt.sz : Prt → Nat
  | .none | .give _ => 1
  | .each _ _ p | .when _ p | .last _ _ p => p.sz + 1
  | .choice p q => p.sz + q.sz + 1
/-- what waits -/
structure Wt where
  p : Prt
  d : D
  pl : List Int
  prs : List D
  ts : List D
def Wt.ok (w : Wt) : Prop := frz w.d = w.p.toD ∧ w.pl.length + w.p.sz ≤ 100 ∧ w.prs.length + w.p.sz ≤ 100 ∧ w.ts.length + w.p.sz ≤ 100
def Wt.w (w : Wt) : W := .val (spD w.pl w.d w.prs w.ts)
def Wt.surv (w : Wt) : List D := TA.surv w.p w.d w.pl w.prs w.ts
def szs (ws : List Wt) : Nat := (ws.map fun w => w.p.sz).sum
theorem sz_pos (p : Prt) : 0 < p.sz := by cases p <;> simp [Prt.sz]
@[simp] theorem add_tup (xs ys : List D) : binD .add (.tuple xs) (.tuple ys) = if szOk (xs.length + ys.length) then some (.val (.tuple (xs ++ ys))) else none := (rfl)
@[simp] theorem add_lst (xs ys : List D) : binD .add (.list xs) (.list ys) = if szOk (xs.length + ys.length) then some (.lst ((xs ++ ys).map .val)) else none := (rfl)
@[simp] theorem mth_append (ws : List W) (w : W) : mthW .append (.lst ws) [w] = if szOk (ws.length + 1) then some (.val .none, .lst (ws ++ [w])) else none := by simp [mthW]
@[simp] theorem mth_pop0 (ws : List W) (d : D) : mthW .pop0 (.lst (ws ++ [.val d])) [] = some (.val d, .lst ws) := by
  simp [mthW, List.eraseIdx_append_of_length_le]
@[simp] theorem isLst_lst (ws : List W) : (W.lst ws).isLst = true := (rfl)
@[simp] theorem unpackW_tup (ds : List D) : unpackW (.val (.tuple ds)) = some ds := by simp [unpackW]
@[simp] theorem unpackW_lst (ds : List D) : unpackW (.val (.list ds)) = some ds := by simp [unpackW]
@[simp] theorem truthD_list (ds : List D) : truthD (.list ds) = some (!ds.isEmpty) := (rfl)
theorem toDs_wts : ∀ ws : List Wt, W.toDs (ws.map Wt.w) = some (ws.map fun w => spD w.pl w.d w.prs w.ts)
  | [] => by simp
  | w :: ws => by simp [toDs_wts ws, Wt.w]
/-- a turn of the walk: one is taken, those within it wait -/
def Wt.kids (w : Wt) : List Wt := match w.p with
  | .each _ _ p => [⟨p, kid w.d 3, w.pl ++ [3], w.prs ++ [.tuple [kid w.d 1, kid w.d 2]], w.ts⟩]
  | .last _ _ p => [⟨p, kid w.d 3, w.pl ++ [3], w.prs, w.ts⟩]
  | .when _ p => [⟨p, kid w.d 2, w.pl ++ [2], w.prs, w.ts ++ [kid w.d 1]⟩]
  | .choice p q => [⟨q, kid w.d 2, w.pl ++ [2], w.prs, w.ts⟩, ⟨p, kid w.d 1, w.pl ++ [1], w.prs, w.ts⟩]
  | _ => []
theorem surv_turn (F : Nat → List W → FRes) (sub : Subs) (fu : Nat) (w : Wt) (ok : w.ok) (x : D) (acc : List D) (ws : List Wt) (hl : acc.length + ws.length ≤ 1000) (a b c d e : Option W) :
    ∃ a' b' c' d' e', evSs F sub fu [] lb_surveyed_0 [some (.val x), some (.lst (acc.map .val)), some (.lst ((ws ++ [w]).map Wt.w)), a, b, c, d, e] =
      .next [some (.val x), some (.lst ((acc ++ [spD w.pl w.d w.prs w.ts]).map .val)), some (.lst ((ws ++ w.kids).map Wt.w)), a', b', c', d', e'] := by
  obtain ⟨p, dd, pl, prs, ts⟩ := w
  obtain ⟨h, o1, o2, o3⟩ := ok
  dsimp only at h o1 o2 o3
  cases p with
  | none =>
    obtain ⟨ds, r, e, l⟩ := frz_part1 h
    simp [lb_surveyed_0, Wt.w, spD, r.elem, szOk_small (n := acc.length + 1) (by omega), Wt.kids]
  | give is =>
    obtain ⟨ds, r, e, l⟩ := frz_part1 h
    simp [lb_surveyed_0, Wt.w, spD, r.elem, szOk_small (n := acc.length + 1) (by omega), Wt.kids]
  | each x y p =>
    obtain ⟨ds, r, e, l⟩ := frz_part1 h
    rcases ds with _ | ⟨a, _ | ⟨b, _ | ⟨c, _ | ⟨z, ds⟩⟩⟩⟩ <;> simp at e
    simp only [Prt.sz] at o1 o2 o3
    simp [lb_surveyed_0, Wt.w, spD, r.elem, szOk_small (n := acc.length + 1) (by omega), Wt.kids, szOk_small (n := pl.length + 1) (by omega), szOk_small (n := prs.length + 1) (by omega), szOk_small (n := ws.length + 1) (by omega), r.kid]
  | last x y p =>
    obtain ⟨ds, r, e, l⟩ := frz_part1 h
    rcases ds with _ | ⟨a, _ | ⟨b, _ | ⟨c, _ | ⟨z, ds⟩⟩⟩⟩ <;> simp at e
    simp only [Prt.sz] at o1 o2 o3
    simp [lb_surveyed_0, Wt.w, spD, r.elem, szOk_small (n := acc.length + 1) (by omega), Wt.kids, szOk_small (n := pl.length + 1) (by omega), szOk_small (n := prs.length + 1) (by omega), szOk_small (n := ws.length + 1) (by omega), r.kid]
  | when t p =>
    obtain ⟨ds, r, e, l⟩ := frz_part1 h
    rcases ds with _ | ⟨a, _ | ⟨b, _ | ⟨z, ds⟩⟩⟩ <;> simp at e
    simp only [Prt.sz] at o1 o2 o3
    simp [lb_surveyed_0, Wt.w, spD, r.elem, szOk_small (n := acc.length + 1) (by omega), Wt.kids, szOk_small (n := pl.length + 1) (by omega), szOk_small (n := ts.length + 1) (by omega), szOk_small (n := ws.length + 1) (by omega), r.kid]
  | choice p q =>
    obtain ⟨ds, r, e, l⟩ := frz_part1 h
    rcases ds with _ | ⟨a, _ | ⟨b, _ | ⟨z, ds⟩⟩⟩ <;> simp at e
    simp only [Prt.sz] at o1 o2 o3
    simp [lb_surveyed_0, Wt.w, spD, r.elem, szOk_small (n := acc.length + 1) (by omega), Wt.kids, szOk_small (n := pl.length + 1) (by omega), szOk_small (n := ws.length + 1 + 1) (by omega), szOk_small (n := ws.length + 1) (by omega), r.kid]
theorem kids_ok (w : Wt) (ok : w.ok) : ∀ k ∈ w.kids, k.ok := by
  obtain ⟨p, dd, pl, prs, ts⟩ := w
  obtain ⟨h, o1, o2, o3⟩ := ok
  dsimp only at h o1 o2 o3
  cases p <;> simp only [Wt.kids, List.not_mem_nil, List.mem_cons, or_false, false_implies, implies_true, forall_eq]
  all_goals (obtain ⟨ds, r, e, l⟩ := frz_part1 h; simp only [Prt.sz] at o1 o2 o3)
  · rcases ds with _ | ⟨a, _ | ⟨b, _ | ⟨c, _ | ⟨z, ds⟩⟩⟩⟩ <;> simp at e
    exact ⟨by rw [r.kid]; exact e.2.2, by simp; omega, by simp; omega, by simp; omega⟩
  · rcases ds with _ | ⟨a, _ | ⟨b, _ | ⟨z, ds⟩⟩⟩ <;> simp at e
    rintro k (rfl | rfl)
    · exact ⟨by rw [r.kid]; exact e.2, by simp; omega, by simp; omega, by simp; omega⟩
    · exact ⟨by rw [r.kid]; exact e.1, by simp; omega, by simp; omega, by simp; omega⟩
  · rcases ds with _ | ⟨a, _ | ⟨b, _ | ⟨z, ds⟩⟩⟩ <;> simp at e
    exact ⟨by rw [r.kid]; exact e.2, by simp; omega, by simp; omega, by simp; omega⟩
  · rcases ds with _ | ⟨a, _ | ⟨b, _ | ⟨c, _ | ⟨z, ds⟩⟩⟩⟩ <;> simp at e
    exact ⟨by rw [r.kid]; exact e.2.2, by simp; omega, by simp; omega, by simp; omega⟩
theorem kids_surv (w : Wt) : w.surv = spD w.pl w.d w.prs w.ts :: (w.kids.reverse.flatMap Wt.surv) := by
  obtain ⟨p, dd, pl, prs, ts⟩ := w
  cases p <;> simp [Wt.surv, surv, Wt.kids]
theorem kids_sz (w : Wt) : szs w.kids + 1 = w.p.sz := by
  obtain ⟨p, dd, pl, prs, ts⟩ := w
  cases p <;> simp [Wt.kids, szs, Prt.sz]
  omega
theorem szs_app (a b : List Wt) : szs (a ++ b) = szs a + szs b := by simp [szs]
theorem szs_len : ∀ a : List Wt, a.length ≤ szs a
  | [] => by simp [szs]
  | w :: a => by have := szs_len a; have := sz_pos w.p; simp [szs] at *; omega
theorem surv_len : ∀ (p : Prt) (d : D) (pl : List Int) (prs ts : List D), (surv p d pl prs ts).length = p.sz
  | .none, _, _, _, _ | .give _, _, _, _, _ => by simp [surv, Prt.sz]
  | .each _ _ p, _, _, _, _ | .last _ _ p, _, _, _, _ | .when _ p, _, _, _, _ => by simp [surv, Prt.sz, surv_len p]
  | .choice p q, _, _, _, _ => by simp [surv, Prt.sz, surv_len p, surv_len q]
theorem surv_loop (F : Nat → List W → FRes) (sub : Subs) (fu0 : Nat) (x : D) : ∀ (fu : Nat) (ws : List Wt) (acc : List D), (∀ w ∈ ws, w.ok) → szs ws < fu → acc.length + szs ws ≤ 1000 → ∀ a b c d e : Option W,
    ∃ a' b' c' d' e', whileL (fun e => evT F (.loc 2) e) (fun e => evSs F sub fu0 [] lb_surveyed_0 e) fu [some (.val x), some (.lst (acc.map .val)), some (.lst (ws.map Wt.w)), a, b, c, d, e] =
      .next [some (.val x), some (.lst ((acc ++ ws.reverse.flatMap Wt.surv).map .val)), some (.lst []), a', b', c', d', e']
  | 0, _, _, _, h, _, _, _, _, _, _ => by omega
  | fu + 1, ws, acc, ok, hf, hl, a, b, c, d, e => by
    rcases List.eq_nil_or_concat ws with rfl | ⟨ws', w, rfl⟩
    rotate_left
    rw [List.concat_eq_append] at *
    rotate_left
    · refine ⟨a, b, c, d, e, ?_⟩
      rw [whileL]
      simp [evT_ok]
    · rw [szs_app] at hf hl
      have hk := kids_sz w
      have e1 : szs [w] = w.p.sz := by simp [szs]
      have hl2 := szs_len ws'
      obtain ⟨a1, b1, c1, d1, e1', ht⟩ := surv_turn F sub fu0 w (ok w (by simp)) x acc ws' (by omega) a b c d e
      obtain ⟨a2, b2, c2, d2, e2, hr⟩ := surv_loop F sub fu0 x fu (ws' ++ w.kids) (acc ++ [spD w.pl w.d w.prs w.ts]) (fun k hk => by
        rcases List.mem_append.mp hk with h | h
        · exact ok k (List.mem_append_left _ h)
        · exact kids_ok w (ok w (by simp)) k h) (by rw [szs_app]; omega) (by rw [szs_app]; simp; omega) a1 b1 c1 d1 e1'
      refine ⟨a2, b2, c2, d2, e2, ?_⟩
      rw [whileL]
      have tr : (W.lst ((ws' ++ [w]).map Wt.w)).toD.bind truthD = some true := by
        rw [W.toD_lst, toDs_wts]
        simp
      rw [evT_ok, ev_loc_test]
      simp only [Env.get_succ, Env.get_zero, Res.bind_ok, tr, Option.map_some, Res.of_some, Out.of_ok, if_true]
      rw [ht]
      dsimp only
      rw [hr]
      simp [kids_surv]
theorem run_surveyed {p : Prt} {d : D} (h : frz d = p.toD) (hs : p.sz ≤ 90) (n : Nat) : runN (n + 1) 12 [.val d] = .ret (.lst ((surv p d [] [] []).map .val)) [] := by
  rw [rn_surveyed]
  obtain ⟨a, b, c, d', e, hr⟩ := surv_loop (runN n) subT 1000 d 1000 [⟨p, d, [], [], []⟩] [] (fun w hw => by
    simp at hw; subst hw; exact ⟨h, by simp; omega, by simp; omega, by simp; omega⟩) (by simp [szs]; omega) (by simp [szs]; omega) none none none none none
  have hr' := hr
  simp only [List.map_nil, List.nil_append, List.map_cons, Wt.w] at hr'
  simp only [spD, List.map_nil, plD] at hr'
  simp [evF, ir_surveyed, retR]
  rw [hr']
  simp [Wt.surv, retR]
end TA

set_option Elab.async false
set_option linter.all false
set_option maxRecDepth 100000
/-! Pu5: depth, bounds, open_fault, opened. -/
namespace TA
open PySem
def Prt.dp : Prt → Nat
  | .none | .give _ => 1
  | .each _ _ p | .when _ p | .last _ _ p => 1 + p.dp
  | .choice p q => 1 + max p.dp q.dp
theorem max2_val (i j : Nat) : bltD .max2 [.int i, .int j] = some (.val (.int (max i j : Nat))) := by
  simp only [bltD]
  congr 3
  split <;> omega
@[simp] theorem add_int (i j : Int) : binD .add (.int i) (.int j) = some (.val (.int (i + j))) := (rfl)
@[simp] theorem sub_int (i j : Int) : binD .sub (.int i) (.int j) = some (.val (.int (i - j))) := (rfl)
theorem depth_ok : ∀ (p : Prt) {d : D}, frz d = p.toD → ∀ n, p.dp ≤ n → runN n 13 [.val d] = .ret (.val (.int (p.dp : Nat))) []
  | .none, d, h, n, hn => by
    obtain ⟨m, rfl⟩ : ∃ m, n = m + 1 := ⟨n - 1, by simp [Prt.dp] at hn; omega⟩
    obtain ⟨ds, r, e, l⟩ := frz_part1 h
    rw [rn_depth_of]
    simp [evF, ir_depth_of, retR, r.elem, Prt.dp]
  | .give is, d, h, n, hn => by
    obtain ⟨m, rfl⟩ : ∃ m, n = m + 1 := ⟨n - 1, by simp [Prt.dp] at hn; omega⟩
    obtain ⟨ds, r, e, l⟩ := frz_part1 h
    rw [rn_depth_of]
    simp [evF, ir_depth_of, retR, r.elem, Prt.dp]
  | .each x y p, d, h, n, hn => by
    simp only [Prt.dp] at hn
    obtain ⟨m, rfl⟩ : ∃ m, n = m + 1 := ⟨n - 1, by omega⟩
    obtain ⟨ds, r, e, l⟩ := frz_part1 h
    rcases ds with _ | ⟨a, _ | ⟨b, _ | ⟨c, _ | ⟨z, ds⟩⟩⟩⟩ <;> simp at e
    have ih := depth_ok p e.2.2 m (by omega)
    rw [rn_depth_of]
    simp [evF, ir_depth_of, retR, r.elem, r.len, Prt.dp, ih]
  | .last x y p, d, h, n, hn => by
    simp only [Prt.dp] at hn
    obtain ⟨m, rfl⟩ : ∃ m, n = m + 1 := ⟨n - 1, by omega⟩
    obtain ⟨ds, r, e, l⟩ := frz_part1 h
    rcases ds with _ | ⟨a, _ | ⟨b, _ | ⟨c, _ | ⟨z, ds⟩⟩⟩⟩ <;> simp at e
    have ih := depth_ok p e.2.2 m (by omega)
    rw [rn_depth_of]
    simp [evF, ir_depth_of, retR, r.elem, r.len, Prt.dp, ih]
  | .when t p, d, h, n, hn => by
    simp only [Prt.dp] at hn
    obtain ⟨m, rfl⟩ : ∃ m, n = m + 1 := ⟨n - 1, by omega⟩
    obtain ⟨ds, r, e, l⟩ := frz_part1 h
    rcases ds with _ | ⟨a, _ | ⟨b, _ | ⟨z, ds⟩⟩⟩ <;> simp at e
    have ih := depth_ok p e.2 m (by omega)
    rw [rn_depth_of]
    simp [evF, ir_depth_of, retR, r.elem, r.len, Prt.dp, ih]
  | .choice p q, d, h, n, hn => by
    simp only [Prt.dp] at hn
    obtain ⟨m, rfl⟩ : ∃ m, n = m + 1 := ⟨n - 1, by omega⟩
    obtain ⟨ds, r, e, l⟩ := frz_part1 h
    rcases ds with _ | ⟨a, _ | ⟨b, _ | ⟨z, ds⟩⟩⟩ <;> simp at e
    have ih1 := depth_ok p e.1 m (by omega)
    have ih2 := depth_ok q e.2 m (by omega)
    rw [rn_depth_of]
    simp [evF, ir_depth_of, retR, r.elem, r.len, Prt.dp, ih1, ih2, max2_val]
/-! ### bounds -/
def Prt.nm : Prt → Nat
  | .none | .give _ => 0
  | .each _ _ p => p.nm + 1
  | .when _ p | .last _ _ p => p.nm
  | .choice p q => max p.nm q.nm
/-- its row names, its variables are among these -/
def Prt.In (R V : List Str) : Prt → Prop
  | .none | .give _ => True
  | .each _ r p => r ∈ R ∧ p.In R V
  | .when _ p => p.In R V
  | .last v _ p => v ∈ V ∧ p.In R V
  | .choice p q => p.In R V ∧ q.In R V
theorem surv_mem {R V : List Str} : ∀ (p : Prt) {d : D} {pl : List Int} {prs ts : List D}, frz d = p.toD → p.In R V → ∀ e ∈ surv p d pl prs ts, ∃ (pl' : List Int) (q : Prt) (d' : D) (prs' ts' : List D), e = spD pl' d' prs' ts' ∧ frz d' = q.toD ∧ q.In R V ∧ prs'.length ≤ prs.length + p.nm
  | .none, d, pl, prs, ts, h, hi, e, he => by
    simp [surv] at he; subst he
    exact ⟨pl, .none, d, prs, ts, rfl, h, hi, by omega⟩
  | .give is, d, pl, prs, ts, h, hi, e, he => by
    simp [surv] at he; subst he
    exact ⟨pl, .give is, d, prs, ts, rfl, h, hi, by omega⟩
  | .each x y p, d, pl, prs, ts, h, hi, e, he => by
    rw [surv, List.mem_cons] at he
    rcases he with rfl | he
    · exact ⟨pl, _, d, prs, ts, rfl, h, hi, by omega⟩
    · obtain ⟨ds, r, e', l⟩ := frz_part1 h
      rcases ds with _ | ⟨a, _ | ⟨b, _ | ⟨c, _ | ⟨z, ds⟩⟩⟩⟩ <;> simp at e'
      obtain ⟨a1, a2, a3, a4, a5, b1, b2, b3, b4⟩ := surv_mem p (by rw [r.kid]; exact e'.2.2) hi.2 e he
      exact ⟨a1, a2, a3, a4, a5, b1, b2, b3, by (try simp at b4); simp [Prt.nm]; omega⟩
  | .last x y p, d, pl, prs, ts, h, hi, e, he => by
    rw [surv, List.mem_cons] at he
    rcases he with rfl | he
    · exact ⟨pl, _, d, prs, ts, rfl, h, hi, by omega⟩
    · obtain ⟨ds, r, e', l⟩ := frz_part1 h
      rcases ds with _ | ⟨a, _ | ⟨b, _ | ⟨c, _ | ⟨z, ds⟩⟩⟩⟩ <;> simp at e'
      obtain ⟨a1, a2, a3, a4, a5, b1, b2, b3, b4⟩ := surv_mem p (by rw [r.kid]; exact e'.2.2) hi.2 e he
      exact ⟨a1, a2, a3, a4, a5, b1, b2, b3, by (try simp at b4); simp [Prt.nm]; omega⟩
  | .when t p, d, pl, prs, ts, h, hi, e, he => by
    rw [surv, List.mem_cons] at he
    rcases he with rfl | he
    · exact ⟨pl, _, d, prs, ts, rfl, h, hi, by omega⟩
    · obtain ⟨ds, r, e', l⟩ := frz_part1 h
      rcases ds with _ | ⟨a, _ | ⟨b, _ | ⟨z, ds⟩⟩⟩ <;> simp at e'
      obtain ⟨a1, a2, a3, a4, a5, b1, b2, b3, b4⟩ := surv_mem p (by rw [r.kid]; exact e'.2) hi e he
      exact ⟨a1, a2, a3, a4, a5, b1, b2, b3, by (try simp at b4); simp [Prt.nm]; omega⟩
  | .choice p q, d, pl, prs, ts, h, hi, e, he => by
    rw [surv, List.mem_cons, List.mem_append] at he
    obtain ⟨ds, r, e', l⟩ := frz_part1 h
    rcases ds with _ | ⟨a, _ | ⟨b, _ | ⟨z, ds⟩⟩⟩ <;> simp at e'
    rcases he with rfl | he | he
    · exact ⟨pl, _, d, prs, ts, rfl, h, hi, by omega⟩
    · obtain ⟨a1, a2, a3, a4, a5, b1, b2, b3, b4⟩ := surv_mem p (by rw [r.kid]; exact e'.1) hi.1 e he
      exact ⟨a1, a2, a3, a4, a5, b1, b2, b3, by simp [Prt.nm]; omega⟩
    · obtain ⟨a1, a2, a3, a4, a5, b1, b2, b3, b4⟩ := surv_mem q (by rw [r.kid]; exact e'.2) hi.2 e he
      exact ⟨a1, a2, a3, a4, a5, b1, b2, b3, by simp [Prt.nm]; omega⟩
theorem compL_fm {step : D → Env → Res (Env × Option W)} {g : D → Option D} {env0 : Env} : ∀ {ds : List D} {acc : List D}, (∀ d ∈ ds, step d env0 = .ok (env0, (g d).map W.val)) → acc.length + ds.length ≤ 1000 → compL step ds env0 (acc.map .val) = .ok (env0, (acc ++ ds.filterMap g).map .val)
  | [], acc, _, _ => by simp [compL]
  | d :: ds, acc, h, l => by
    rw [compL, h d (List.mem_cons_self ..)]
    simp only [Res.bind_ok]
    cases e : g d with
    | none =>
      simp only [Option.map_none]
      rw [compL_fm (fun e he => h e (List.mem_cons_of_mem _ he)) (by simp at l ⊢; omega)]
      simp [e]
    | some x =>
      simp only [Option.map_some]
      rw [if_pos (szOk_small (by simp at l ⊢; omega))]
      have := compL_fm (step := step) (g := g) (env0 := env0) (ds := ds) (acc := acc ++ [x]) (fun e he => h e (List.mem_cons_of_mem _ he)) (by simp at l ⊢; omega)
      rw [List.map_append] at this
      rw [show [x].map W.val = [W.val x] from rfl] at this
      rw [this]
      simp [e]
theorem maxL_le : ∀ {ds : List D} {b : Int}, ds ≠ [] → (∀ d ∈ ds, ∃ i : Int, d = .int i ∧ i ≤ b) → ∃ m, maxL ds = some m ∧ m ≤ b
  | [], b, h, _ => absurd rfl h
  | [d], b, _, h => by
    obtain ⟨i, rfl, hi⟩ := h d (by simp)
    exact ⟨i, rfl, hi⟩
  | d :: d2 :: ds, b, _, h => by
    obtain ⟨i, rfl, hi⟩ := h d (by simp)
    obtain ⟨m, e, hm⟩ := maxL_le (ds := d2 :: ds) (b := b) (by simp) fun x hx => h x (List.mem_cons_of_mem _ hx)
    refine ⟨max i m, ?_, by omega⟩
    rw [maxL]
    · rw [e]; rfl
    · simp
@[simp] theorem eqK_str (x y : Str) : eqK (.str x) (.str y) = (x == y) := by simp [eqK]
/-- a set of texts has no more items than there are -/
theorem set_len {L : List Str} : ∀ {xs : List Str} {acc : List Str}, (∀ x ∈ xs, x ∈ L) → (∀ x ∈ acc, x ∈ L) → acc.Nodup → ∃ r : List Str, (xs.map PyData.str).foldl (fun acc d => insK d acc) (acc.map .str) = r.map .str ∧ (∀ x ∈ r, x ∈ L) ∧ r.Nodup
  | [], acc, _, h, nd => ⟨acc, rfl, h, nd⟩
  | x :: xs, acc, hx, h, nd => by
    rw [List.map_cons, List.foldl_cons]
    have e : insK (.str x) (acc.map PyData.str) = (if x ∈ acc then acc else acc ++ [x]).map .str := by
      unfold insK
      have : (acc.map PyData.str).any (eqK (.str x)) = decide (x ∈ acc) := by
        rw [List.any_map]
        have : eqK (.str x) ∘ PyData.str = fun y => x == y := by funext y; simp
        rw [this]
        by_cases h : x ∈ acc
        · simp [h]
        · simp [h]
          intro y hy z
          exact h (z ▸ hy)
      rw [this]
      by_cases h : x ∈ acc <;> simp [h]
    rw [e]
    refine set_len (fun y hy => hx y (List.mem_cons_of_mem _ hy)) (fun y hy => ?_) ?_
    · split at hy
      · exact h y hy
      · rcases List.mem_append.mp hy with hy | hy
        · exact h y hy
        · simp at hy; subst hy; exact hx _ (by simp)
    · split
      · exact nd
      · rename_i hn
        rw [List.nodup_append]
        exact ⟨nd, by simp, fun a ha b hb => by simp at hb; subst hb; exact fun z => hn (z ▸ ha)⟩
theorem nodup_le : ∀ {r L : List Str}, (∀ x ∈ r, x ∈ L) → r.Nodup → r.length ≤ L.length
  | [], _, _, _ => by simp
  | a :: r, L, h, nd => by
    rw [List.nodup_cons] at nd
    have := nodup_le (r := r) (L := L.erase a) (fun x hx => by
      have hne : x ≠ a := fun z => nd.1 (z ▸ hx)
      exact (List.mem_erase_of_ne hne).mpr (h x (List.mem_cons_of_mem _ hx))) nd.2
    rw [List.length_erase_of_mem (h a (by simp))] at this
    have : 0 < L.length := List.length_pos_of_mem (h a (by simp))
    simp; omega
theorem setW_len {L xs : List Str} (h : ∀ x ∈ xs, x ∈ L) (hz : xs.length ≤ 1000) : ∃ ds, setW (xs.map fun x => W.val (.str x)) = some (.set ds) ∧ ds.length ≤ L.length := by
  obtain ⟨r, e, hr, nd⟩ := set_len (L := L) (xs := xs) (acc := []) h (by simp) (by simp)
  refine ⟨r.map .str, ?_, by rw [List.length_map]; exact nodup_le hr nd⟩
  have e1 : W.toDs (xs.map fun x => W.val (.str x)) = some (xs.map PyData.str) := by
    rw [← toDs_vals (xs.map PyData.str), List.map_map]; rfl
  have e2 : ((xs.map PyData.str).all flatK && decide ((xs.map PyData.str).length ≤ 1000)) = true := by
    rw [Bool.and_eq_true, decide_eq_true_eq, List.length_map]
    refine ⟨?_, hz⟩
    rw [List.all_eq_true]
    intro d hd
    obtain ⟨x, _, rfl⟩ := List.mem_map.mp hd
    rfl
  unfold setW
  rw [e1, Option.bind_some, if_pos e2, show ([] : List D) = ([] : List Str).map PyData.str from rfl, e]
end TA

set_option Elab.async false
set_option linter.all false
set_option maxRecDepth 100000
/-! Pu6: bounds, open_fault, opened; places. -/
namespace TA
open PySem
structure Prt.Bnd (R V : List Str) (p : Prt) : Prop where
  dp : p.dp ≤ 12
  sz : p.sz ≤ 40
  nm : p.nm ≤ 3
  ok : p.Ok []
  inn : p.In R V
  r3 : R.length ≤ 3
  v3 : V.length ≤ 3
theorem lv_dp : ∀ p : Prt, p.lv + 2 = 2 * p.dp
  | .none => rfl
  | .give _ => rfl
  | .each _ _ p => by have := lv_dp p; simp [Prt.lv, Prt.dp]; omega
  | .last _ _ p => by have := lv_dp p; simp [Prt.lv, Prt.dp]; omega
  | .when _ p => by have := lv_dp p; simp [Prt.lv, Prt.dp]; omega
  | .choice p q => by have := lv_dp p; have := lv_dp q; simp [Prt.lv, Prt.dp]; omega
theorem run_within {R V : List Str} {p : Prt} {d : D} (h : frz d = p.toD) (b : p.Bnd R V) (n : Nat) : runN (n + 13) 14 [.val d] = .ret (.val (.bool true)) [] := by
  have hd := depth_ok p h (n + 12) (by have := b.dp; omega)
  have hs := run_surveyed h (by have := b.sz; omega) (n + 11)
  have hl := surv_len p d [] [] []
  have hm := surv_mem (R := R) (V := V) p (pl := []) (prs := []) (ts := []) h b.inn
  have sz := b.sz
  generalize surv p d [] [] [] = L at hs hl hm
  have ne : L ≠ [] := fun z => by rw [z] at hl; have := sz_pos p; simp at hl; omega
  rw [rn_within_bounds]
  -- the lengths of the names
  have st1 : ∀ e ∈ L, ∀ x6 x7 : Option W, stepL (runN (n + 12)) [2, 3, 4, 5] true (.blt .len [.loc 4]) (.lit (.bool true)) [2, 3, 4, 5] e [some (.val d), some (.val (.list L)), none, none, none, none, none, none] =
      .ok ([some (.val d), some (.val (.list L)), none, none, none, none, none, none], ((fun e => match kid e 2 with | .tuple prs => some (PyData.int prs.length) | _ => none) e).map W.val) := fun e he x6 x7 => by
    obtain ⟨pl', q, d', prs', ts', rfl, hq, hin, hp⟩ := hm e he
    simp [stepL, spD, kid]
  have mx : ∃ m, maxL (L.filterMap (fun e => match kid e 2 with | .tuple prs => some (PyData.int prs.length) | _ => none)) = some m ∧ m ≤ 3 := by
    refine maxL_le (fun z => ?_) fun x hx => ?_
    · rw [List.filterMap_eq_nil_iff] at z
      obtain ⟨e, r, rfl⟩ := List.exists_cons_of_ne_nil ne
      obtain ⟨pl', q, d', prs', ts', rfl, _⟩ := hm e (by simp)
      have := z _ (List.mem_cons_self ..)
      simp [spD, kid] at this
    · obtain ⟨e, he, hx⟩ := List.mem_filterMap.mp hx
      obtain ⟨pl', q, d', prs', ts', rfl, hq, hin, hp⟩ := hm e he
      simp [spD, kid] at hx
      subst hx
      have := b.nm
      exact ⟨_, rfl, by simp at hp; omega⟩
  obtain ⟨m, hmx, hm3⟩ := mx
  have c1 := compL_fm (acc := []) (fun e he => st1 e he none none) (by simp; omega)
  -- the row names
  have kinds : ∀ e ∈ L, ∃ pl' d' prs' ts' ds k, e = spD pl' d' prs' ts' ∧ IsRow d' (.str k :: ds) ∧ (k = S "each" → ∃ a x r, ds = a :: .str x :: r ∧ x ∈ R) ∧ (k = S "last" → ∃ x r, ds = .str x :: r ∧ x ∈ V) := fun e he => by
    obtain ⟨pl', q, d', prs', ts', rfl, hq, hin, hp⟩ := hm e he
    cases q with
    | none => obtain ⟨ds, r, e, l⟩ := frz_part1 hq; exact ⟨pl', d', prs', ts', ds, _, rfl, r, by simp, by simp⟩
    | give is => obtain ⟨ds, r, e, l⟩ := frz_part1 hq; exact ⟨pl', d', prs', ts', ds, _, rfl, r, by simp, by simp⟩
    | when t p => obtain ⟨ds, r, e, l⟩ := frz_part1 hq; exact ⟨pl', d', prs', ts', ds, _, rfl, r, by simp, by simp⟩
    | choice t p => obtain ⟨ds, r, e, l⟩ := frz_part1 hq; exact ⟨pl', d', prs', ts', ds, _, rfl, r, by simp, by simp⟩
    | each x y p =>
      obtain ⟨ds, r, e, l⟩ := frz_part1 hq
      rcases ds with _ | ⟨a, _ | ⟨b, _ | ⟨c, _ | ⟨z, ds⟩⟩⟩⟩ <;> simp at e
      refine ⟨pl', d', prs', ts', _, _, rfl, r, fun _ => ⟨a, y, [c], ?_, hin.1⟩, by simp⟩
      rw [frz_str e.2.1]
    | last x y p =>
      obtain ⟨ds, r, e, l⟩ := frz_part1 hq
      rcases ds with _ | ⟨a, _ | ⟨b, _ | ⟨c, _ | ⟨z, ds⟩⟩⟩⟩ <;> simp at e
      refine ⟨pl', d', prs', ts', _, _, rfl, r, by simp, fun _ => ⟨x, [b, c], ?_, hin.1⟩⟩
      rw [frz_str e.1]
  let gR : D → Option D := fun e => if eqx (kid (kid e 1) 0) (.str (S "each")) then some (kid (kid e 1) 2) else none
  let gV : D → Option D := fun e => if eqx (kid (kid e 1) 0) (.str (S "last")) then some (kid (kid e 1) 1) else none
  have st2 : ∀ e ∈ L, stepL (runN (n + 12)) [2, 3, 4, 5] true (.idx (.loc 3) (.lit (.int (2)))) (.cmp .eq (.idx (.loc 3) (.lit (.int (0)))) (.lit (.str (S "each")))) [2, 3, 4, 5] e [some (.val d), some (.val (.list L)), none, none, none, none, none, none] =
      .ok ([some (.val d), some (.val (.list L)), none, none, none, none, none, none], (gR e).map W.val) := fun e he => by
    obtain ⟨pl', d', prs', ts', ds, k, rfl, r, h1, h2⟩ := kinds e he
    have k0 : kid (kid (spD pl' d' prs' ts') 1) 0 = .str k := r.kid 0
    by_cases hk : k = S "each"
    · obtain ⟨a, x, r', rfl, hx⟩ := h1 hk
      have k2 : kid (kid (spD pl' d' prs' ts') 1) 2 = .str x := r.kid 2
      subst hk
      have hg : gR (spD pl' d' prs' ts') = some (.str x) := by simp [gR, eqx, k0, k2]
      rw [hg]
      simp [stepL, spD, r.elem]
    · have hg : gR (spD pl' d' prs' ts') = none := by simp [gR, eqx, k0, hk]
      rw [hg]
      simp [stepL, spD, r.elem, hk]
  have c2 := fun x6 => compL_fm (acc := []) st2 (by simp; omega)
  have m2 : ∃ xs : List Str, L.filterMap gR = xs.map PyData.str ∧ ∀ x ∈ xs, x ∈ R := by
    clear c1 hmx hs hl ne st1 c2 st2 hm
    induction L with
    | nil => exact ⟨[], rfl, by simp⟩
    | cons e L ih =>
      obtain ⟨xs, e1, h1⟩ := ih (fun e he => kinds e (List.mem_cons_of_mem _ he))
      obtain ⟨pl', d', prs', ts', ds, k, rfl, r, h1', h2⟩ := kinds e (by simp)
      have k0 : kid (kid (spD pl' d' prs' ts') 1) 0 = .str k := r.kid 0
      by_cases hk : k = S "each"
      · obtain ⟨a, x, r', rfl, hx⟩ := h1' hk
        have k2 : kid (kid (spD pl' d' prs' ts') 1) 2 = .str x := r.kid 2
        subst hk
        exact ⟨x :: xs, by simp [gR, eqx, k0, k2, e1], by simpa [hx] using h1⟩
      · exact ⟨xs, by simp [gR, eqx, k0, hk, e1], h1⟩
  have m3 : ∃ xs : List Str, L.filterMap gV = xs.map PyData.str ∧ ∀ x ∈ xs, x ∈ V := by
    clear c1 hmx hs hl ne st1 c2 st2 hm m2
    induction L with
    | nil => exact ⟨[], rfl, by simp⟩
    | cons e L ih =>
      obtain ⟨xs, e1, h1⟩ := ih (fun e he => kinds e (List.mem_cons_of_mem _ he))
      obtain ⟨pl', d', prs', ts', ds, k, rfl, r, h1', h2⟩ := kinds e (by simp)
      have k0 : kid (kid (spD pl' d' prs' ts') 1) 0 = .str k := r.kid 0
      by_cases hk : k = S "last"
      · obtain ⟨x, r', rfl, hx⟩ := h2 hk
        have k2 : kid (kid (spD pl' d' prs' ts') 1) 1 = .str x := r.kid 1
        subst hk
        exact ⟨x :: xs, by simp [gV, eqx, k0, k2, e1], by simpa [hx] using h1⟩
      · exact ⟨xs, by simp [gV, eqx, k0, hk, e1], h1⟩
  obtain ⟨xs, ex, hx⟩ := m2
  obtain ⟨ys, ey, hy⟩ := m3
  have lx : xs.length ≤ 1000 := by
    have e := congrArg List.length ex
    rw [List.length_map] at e
    have := List.length_filterMap_le gR L
    omega
  have ly : ys.length ≤ 1000 := by
    have e := congrArg List.length ey
    rw [List.length_map] at e
    have := List.length_filterMap_le gV L
    omega
  obtain ⟨s1, es1, l1⟩ := setW_len hx lx
  obtain ⟨s2, es2, l2⟩ := setW_len hy ly
  have st3 : ∀ e ∈ L, stepL (runN (n + 12)) [2, 3, 4, 5] true (.idx (.loc 3) (.lit (.int (1)))) (.cmp .eq (.idx (.loc 3) (.lit (.int (0)))) (.lit (.str (S "last")))) [2, 3, 4, 5] e [some (.val d), some (.val (.list L)), none, none, none, none, some (.set s1), none] =
      .ok ([some (.val d), some (.val (.list L)), none, none, none, none, some (.set s1), none], (gV e).map W.val) := fun e he => by
    obtain ⟨pl', d', prs', ts', ds, k, rfl, r, h1, h2⟩ := kinds e he
    have k0 : kid (kid (spD pl' d' prs' ts') 1) 0 = .str k := r.kid 0
    by_cases hk : k = S "last"
    · obtain ⟨x, r', rfl, hx⟩ := h2 hk
      have k2 : kid (kid (spD pl' d' prs' ts') 1) 1 = .str x := r.kid 1
      subst hk
      have hg : gV (spD pl' d' prs' ts') = some (.str x) := by simp [gV, eqx, k0, k2]
      rw [hg]
      simp [stepL, spD, r.elem]
    · have hg : gV (spD pl' d' prs' ts') = none := by simp [gV, eqx, k0, hk]
      rw [hg]
      simp [stepL, spD, r.elem, hk]
  have c3 := compL_fm (acc := []) st3 (by simp; omega)
  have c2' := compL_fm (acc := []) st2 (by simp; omega)
  simp only [List.map_nil, List.nil_append] at c1 c2' c3
  rw [ex, List.map_map] at c2'
  rw [ey, List.map_map] at c3
  have es1' : setW (xs.map (W.val ∘ PyData.str)) = some (.set s1) := es1
  have es2' : setW (ys.map (W.val ∘ PyData.str)) = some (.set s2) := es2
  have dp := b.dp
  have r3 := b.r3
  have v3 := b.v3
  simp [evF, ir_within_bounds, hd, hs, d_MOST_DEEP, d_MOST_PARTS, d_MOST_NAMES, retR, hl, c1, c2', c3, es1', es2', bltD, hmx, show ¬ (12 : Int) < (p.dp : Int) by omega, show ¬ (40 : Int) < (p.sz : Int) by omega, show ¬ (3 : Int) < m by omega, show (s1.length : Int) ≤ 3 by omega, show (s2.length : Int) ≤ 3 by omega]
end TA

set_option Elab.async false
set_option linter.all false
set_option maxRecDepth 100000
/-! Pu7: open_fault, opened; places, found_part. -/
namespace TA
open PySem
theorem run_open_fault {R V : List Str} {p : Prt} {d : D} (h : frz d = p.toD) (b : p.Bnd R V) (n : Nat) : runN (n + 31) 15 [.val d] = .ret (.val .none) [] := by
  have h1 : runN (n + 30) 11 [.val d, .val (.tuple [])] = _ := part_ok p (g := []) h b.ok (by have := lv_dp p; have := b.dp; simp; omega) (n + 30) (by have := lv_dp p; have := b.dp; omega)
  have h2 := run_within h b (n + 17)
  rw [rn_open_fault]
  simp [evF, ir_open_fault, retR, h1, h2]
/-! ### how deep data are -/
theorem Sm.mono {n m : Nat} {d : D} (h : Sm n d) : n ≤ m → Sm m d := by
  induction h generalizing m with
  | lst l h ih =>
    intro hm
    obtain ⟨k, rfl⟩ : ∃ k, m = k + 1 := ⟨m - 1, by omega⟩
    exact .lst l fun d hd => ih d hd (by omega)
  | tup l h ih =>
    intro hm
    obtain ⟨k, rfl⟩ : ∃ k, m = k + 1 := ⟨m - 1, by omega⟩
    exact .tup l fun d hd => ih d hd (by omega)
  | _ => intro _; constructor
theorem Sm.frz {n : Nat} : ∀ {d : D}, Sm n (TA.frz d) → Sm n d := by
  induction n with
  | zero =>
    intro d h
    cases d with
    | list ds => rw [TA.frz] at h; cases h
    | tuple ds => rw [TA.frz] at h; cases h
    | _ => constructor
  | succ n ih =>
    intro d h
    cases d with
    | list ds =>
      rw [TA.frz, frzs_map] at h
      cases h with
      | tup l h => exact .lst (by simpa using l) fun d hd => ih (h _ (List.mem_map_of_mem hd))
    | tuple ds =>
      rw [TA.frz, frzs_map] at h
      cases h with
      | tup l h => exact .tup (by simpa using l) fun d hd => ih (h _ (List.mem_map_of_mem hd))
    | _ => constructor
theorem Sm.rows {n : Nat} {ds : List D} (l : ds.length ≤ 100) (h : ∀ d ∈ ds, Sm n d) : Sm (n + 1) (.tuple ds) := .tup l h
theorem sm_itm {g : List Str} {i : Itm} (h : i.Ok g) : Sm 1 i.toD := by
  cases i with
  | name x => exact .tup (by simp) (by simp; exact ⟨.str _, .str _⟩)
  | atom a => exact .tup (by simp) (by
      simp
      refine ⟨.str _, ?_⟩
      cases a
      · exact .int _
      · exact .str _)
theorem sm_tst {g : List Str} {t : Tst} (h : t.Ok g) : Sm 2 t.toD := .tup (by simp) (by simp; exact ⟨.str _, sm_itm h.1, sm_itm h.2⟩)
theorem sm_prt : ∀ {p : Prt} {g : List Str}, p.Ok g → Sm (p.dp + 2) p.toD
  | .none, g, h => .tup (by simp) (by simp; exact .str _)
  | .give is, g, h => .tup (by simp) (by
      simp
      refine ⟨.str _, .tup (by have := h.1; simp; omega) fun d hd => ?_⟩
      obtain ⟨i, hi, rfl⟩ := List.mem_map.mp hd
      exact (sm_itm (h.2 i hi)))
  | .each x r p, g, h => (Sm.tup (n := p.dp + 2) (by simp) (by simp; exact ⟨.str _, .str _, .str _, sm_prt h.2.2.2⟩)).mono (by simp [Prt.dp]; omega)
  | .choice p q, g, h => (Sm.tup (n := max p.dp q.dp + 2) (by simp) (by simp; exact ⟨.str _, (sm_prt h.1).mono (by omega), (sm_prt h.2).mono (by omega)⟩)).mono (by simp [Prt.dp]; omega)
  | .when t p, g, h => (Sm.tup (n := p.dp + 2) (by simp) (by simp; exact ⟨.str _, (sm_tst h.1).mono (by omega), sm_prt h.2⟩)).mono (by simp [Prt.dp]; omega)
  | .last v i p, g, h => (Sm.tup (n := p.dp + 2) (by simp) (by simp; exact ⟨.str _, .str _, (sm_itm h.2.1).mono (by omega), sm_prt h.2.2⟩)).mono (by simp [Prt.dp]; omega)
theorem run_opened {R V : List Str} {p : Prt} {d : D} (h : frz d = p.toD) (b : p.Bnd R V) (n : Nat) : runN (n + 32) 16 [.val d] = .ret (.val p.toD) [] := by
  have h1 := run_open_fault h b n
  have sm : Sm (p.dp + 2) d := Sm.frz (by rw [h]; exact sm_prt b.ok)
  have h2 := run_frozen sm (n + 31) (by have := b.dp; omega)
  rw [rn_opened]
  simp [evF, ir_opened, retR, h1, h2, h]
/-! ### a part is frozen -/
theorem frz_itm {g : List Str} {i : Itm} (h : i.Ok g) : frz i.toD = i.toD := by
  cases i with
  | name x => rfl
  | atom a => cases a <;> rfl
theorem frz_tst {g : List Str} {t : Tst} (h : t.Ok g) : frz t.toD = t.toD := by
  simp only [Tst.toD, frz, frzs, frz_itm h.1, frz_itm h.2]
theorem frz_prt : ∀ {p : Prt} {g : List Str}, p.Ok g → frz p.toD = p.toD
  | .none, g, h => rfl
  | .give is, g, h => by
    simp only [Prt.toD, frz, frzs, frzs_map, List.map_map]
    congr 4
    rw [List.map_inj_left]
    exact fun i hi => frz_itm (h.2 i hi)
  | .each x r p, g, h => by simp only [Prt.toD, frz, frzs, frz_prt h.2.2.2]
  | .choice p q, g, h => by simp only [Prt.toD, frz, frzs, frz_prt h.1, frz_prt h.2]
  | .when t p, g, h => by simp only [Prt.toD, frz, frzs, frz_tst h.1, frz_prt h.2]
  | .last v i p, g, h => by simp only [Prt.toD, frz, frzs, frz_itm h.2.1, frz_prt h.2.2]
/-! ### abstract places -/
structure Spot where
  pl : List Int
  p : Prt
  prs : List (Str × Str)
  ts : List Tst
def prD (x : Str × Str) : D := .tuple [.str x.1, .str x.2]
def Spot.toD (s : Spot) : D := spD s.pl s.p.toD (s.prs.map prD) (s.ts.map Tst.toD)
def Prt.spots : Prt → List Int → List (Str × Str) → List Tst → List Spot
  | .each x r p, pl, prs, ts => ⟨pl, .each x r p, prs, ts⟩ :: p.spots (pl ++ [3]) (prs ++ [(x, r)]) ts
  | .last v i p, pl, prs, ts => ⟨pl, .last v i p, prs, ts⟩ :: p.spots (pl ++ [3]) prs ts
  | .when t p, pl, prs, ts => ⟨pl, .when t p, prs, ts⟩ :: p.spots (pl ++ [2]) prs (ts ++ [t])
  | .choice p q, pl, prs, ts => ⟨pl, .choice p q, prs, ts⟩ :: (p.spots (pl ++ [1]) prs ts ++ q.spots (pl ++ [2]) prs ts)
  | .none, pl, prs, ts => [⟨pl, .none, prs, ts⟩]
  | .give is, pl, prs, ts => [⟨pl, .give is, prs, ts⟩]
theorem kid_tup (ds : List D) (i : Nat) : kid (.tuple ds) i = ds.getD i .none := rfl
theorem surv_spots : ∀ (p : Prt) (pl : List Int) (prs : List (Str × Str)) (ts : List Tst), surv p p.toD pl (prs.map prD) (ts.map Tst.toD) = (p.spots pl prs ts).map Spot.toD
  | .none, _, _, _ => rfl
  | .give _, _, _, _ => rfl
  | .each x r p, pl, prs, ts => by
    have := surv_spots p (pl ++ [3]) (prs ++ [(x, r)]) ts
    simp only [List.map_append, List.map_cons, List.map_nil] at this
    simp only [surv, Prt.spots, List.map_cons]
    rw [← this]
    rfl
  | .last x r p, pl, prs, ts => by
    simp only [surv, Prt.spots, List.map_cons]
    rw [← surv_spots p (pl ++ [3]) prs ts]
    rfl
  | .when t p, pl, prs, ts => by
    have := surv_spots p (pl ++ [2]) prs (ts ++ [t])
    simp only [List.map_append, List.map_cons, List.map_nil] at this
    simp only [surv, Prt.spots, List.map_cons]
    rw [← this]
    rfl
  | .choice p q, pl, prs, ts => by
    simp only [surv, Prt.spots, List.map_cons, List.map_append]
    rw [← surv_spots p (pl ++ [1]) prs ts, ← surv_spots q (pl ++ [2]) prs ts]
    rfl
theorem spots_pre : ∀ (p : Prt) {pl : List Int} {prs : List (Str × Str)} {ts : List Tst}, ∀ s ∈ p.spots pl prs ts, ∃ t, s.pl = pl ++ t
  | .none, _, _, _, s, h => by simp [Prt.spots] at h; subst h; exact ⟨[], by simp⟩
  | .give _, _, _, _, s, h => by simp [Prt.spots] at h; subst h; exact ⟨[], by simp⟩
  | .each x r p, pl, prs, ts, s, h => by
    rw [Prt.spots, List.mem_cons] at h
    rcases h with rfl | h
    · exact ⟨[], by simp⟩
    · obtain ⟨t, e⟩ := spots_pre p s h; exact ⟨[3] ++ t, by rw [e]; simp⟩
  | .last x r p, pl, prs, ts, s, h => by
    rw [Prt.spots, List.mem_cons] at h
    rcases h with rfl | h
    · exact ⟨[], by simp⟩
    · obtain ⟨t, e⟩ := spots_pre p s h; exact ⟨[3] ++ t, by rw [e]; simp⟩
  | .when x p, pl, prs, ts, s, h => by
    rw [Prt.spots, List.mem_cons] at h
    rcases h with rfl | h
    · exact ⟨[], by simp⟩
    · obtain ⟨t, e⟩ := spots_pre p s h; exact ⟨[2] ++ t, by rw [e]; simp⟩
  | .choice p q, pl, prs, ts, s, h => by
    rw [Prt.spots, List.mem_cons, List.mem_append] at h
    rcases h with rfl | h | h
    · exact ⟨[], by simp⟩
    · obtain ⟨t, e⟩ := spots_pre p s h; exact ⟨[1] ++ t, by rw [e]; simp⟩
    · obtain ⟨t, e⟩ := spots_pre q s h; exact ⟨[2] ++ t, by rw [e]; simp⟩
theorem app_ne {pl t : List Int} {a : Int} : pl ++ [a] ++ t ≠ pl := fun h => by
  have := congrArg List.length h
  simp at this
theorem spots_nd : ∀ (p : Prt) (pl : List Int) (prs : List (Str × Str)) (ts : List Tst), ((p.spots pl prs ts).map Spot.pl).Nodup
  | .none, _, _, _ => by simp [Prt.spots]
  | .give _, _, _, _ => by simp [Prt.spots]
  | .each x r p, pl, prs, ts => by
    rw [Prt.spots, List.map_cons, List.nodup_cons]
    refine ⟨fun h => ?_, spots_nd p _ _ _⟩
    obtain ⟨s, hs, e⟩ := List.mem_map.mp h
    obtain ⟨t, e2⟩ := spots_pre p s hs
    rw [e2] at e; exact app_ne e
  | .last x r p, pl, prs, ts => by
    rw [Prt.spots, List.map_cons, List.nodup_cons]
    refine ⟨fun h => ?_, spots_nd p _ _ _⟩
    obtain ⟨s, hs, e⟩ := List.mem_map.mp h
    obtain ⟨t, e2⟩ := spots_pre p s hs
    rw [e2] at e; exact app_ne e
  | .when x p, pl, prs, ts => by
    rw [Prt.spots, List.map_cons, List.nodup_cons]
    refine ⟨fun h => ?_, spots_nd p _ _ _⟩
    obtain ⟨s, hs, e⟩ := List.mem_map.mp h
    obtain ⟨t, e2⟩ := spots_pre p s hs
    rw [e2] at e; exact app_ne e
  | .choice p q, pl, prs, ts => by
    rw [Prt.spots, List.map_cons, List.nodup_cons, List.map_append]
    refine ⟨fun h => ?_, List.nodup_append.mpr ⟨spots_nd p _ _ _, spots_nd q _ _ _, fun a ha b hb e => ?_⟩⟩
    · rcases List.mem_append.mp h with h | h
      · obtain ⟨s, hs, e⟩ := List.mem_map.mp h
        obtain ⟨t, e2⟩ := spots_pre p s hs
        rw [e2] at e; exact app_ne e
      · obtain ⟨s, hs, e⟩ := List.mem_map.mp h
        obtain ⟨t, e2⟩ := spots_pre q s hs
        rw [e2] at e; exact app_ne e
    · obtain ⟨s, hs, e1⟩ := List.mem_map.mp ha
      obtain ⟨s', hs', e2⟩ := List.mem_map.mp hb
      obtain ⟨t, e3⟩ := spots_pre p s hs
      obtain ⟨t', e4⟩ := spots_pre q s' hs'
      rw [← e1, ← e2, e3, e4] at e
      simp at e
/-! ### is_path, found_part -/
theorem path_ok {d : D} {pl : List Int} (h : IsRow d (pl.map .int)) (n : Nat) : runN (n + 2) 17 [.val d] = .ret (.val (.bool true)) [] := by
  rw [rn_is_path]
  have st : ∀ (a : Int) (x : Option W), turnF (runN (n + 1)) subT 1000 [] [1] false lb_is_path_0 (.int a) [some (.val d), x] = .next [some (.val d), some (.val (.int a))] := fun a x => by
    simp [turnF, lb_is_path_0, run_is_whole]
  have lp : ∀ (l : List Int) (x : Option W), ∃ x', forL (turnF (runN (n + 1)) subT 1000 [] [1] false lb_is_path_0) (l.map .int) [some (.val d), x] = .next [some (.val d), x'] := fun l => by
    induction l with
    | nil => intro x; exact ⟨x, rfl⟩
    | cons a l ih =>
      intro x
      obtain ⟨x', e⟩ := ih (some (.val (.int a)))
      exact ⟨x', by rw [List.map_cons, forL_next (st a x)]; exact e⟩
  obtain ⟨x', e⟩ := lp pl none
  simp [evF, ir_is_path, retR, run_is_row, h.row, h.items, e]
theorem eqxs_int : ∀ a b : List Int, eqxs (a.map .int) (b.map .int) = decide (a = b)
  | [], [] => by simp [eqxs]
  | [], _ :: _ => by simp [eqxs]
  | _ :: _, [] => by simp [eqxs]
  | x :: a, y :: b => by
    simp only [List.map_cons, eqxs, eqx, eqxs_int a b]
    by_cases h : x = y <;> simp [h]
@[simp] theorem cmpb_ii (n : Nat) (x y : Int) : cmpb n (.int x) (.int y) = true := by cases n <;> rfl
@[simp] theorem cmpb_ss (n : Nat) (x y : Str) : cmpb n (.str x) (.str y) = true := by cases n <;> rfl
@[simp] theorem cmpb_is (n : Nat) (x : Int) (y : Str) : cmpb n (.int x) (.str y) = true := by cases n <;> rfl
@[simp] theorem cmpb_si (n : Nat) (x : Str) (y : Int) : cmpb n (.str x) (.int y) = true := by cases n <;> rfl
@[simp] theorem cmpb_tt (n : Nat) (xs ys : List D) : cmpb (n + 1) (.tuple xs) (.tuple ys) = cmpbs n xs ys := by simp only [cmpb]
@[simp] theorem cmpbs_nil (n : Nat) (ys : List D) : cmpbs n [] ys = true := by simp [cmpbs]
@[simp] theorem cmpbs_nil2 (n : Nat) (ys : List D) : cmpbs n ys [] = true := by cases ys <;> simp [cmpbs]
@[simp] theorem cmpbs_cons (n : Nat) (x y : D) (xs ys : List D) : cmpbs n (x :: xs) (y :: ys) = (cmpb n x y && cmpbs n xs ys) := by simp only [cmpbs]
theorem cmpbs_int (n : Nat) : ∀ a b : List Int, cmpbs n (a.map .int) (b.map .int) = true
  | [], _ => by simp
  | _ :: _, [] => by simp
  | x :: a, y :: b => by
    rw [List.map_cons, List.map_cons, cmpbs_cons, cmpb_ii, cmpbs_int n a b]
    rfl
theorem eqD_pl (a b : List Int) : eqD (plD a) (plD b) = some (decide (a = b)) := by
  unfold eqD
  rw [show cmpb 50 (plD a) (plD b) = cmpbs 49 (a.map .int) (b.map .int) from by simp [cmpb], cmpbs_int]
  simp [isDict, eqx, eqxs_int]
def spPl : D → D
  | .tuple (p :: _) => p
  | _ => .none
theorem found_loop (F : Nat → List W → FRes) (sub : Subs) (fu : Nat) {e d : D} {pl : List Int} (h : IsRow d (pl.map .int)) : ∀ (L : List Spot), (L.map Spot.pl).Nodup → ∀ x : Option W,
    (∀ s ∈ L, s.pl = pl → forL (turnF F sub fu [] [2] false lb_found_part_0) (L.map Spot.toD) [some (.val e), some (.val d), x] = .ret (.val s.toD) [some (.val e), some (.val d), some (.val s.toD)]) ∧
    ((∀ s ∈ L, s.pl ≠ pl) → ∃ x', forL (turnF F sub fu [] [2] false lb_found_part_0) (L.map Spot.toD) [some (.val e), some (.val d), x] = .next [some (.val e), some (.val d), x'])
  | [], _, x => ⟨fun s hs => by simp at hs, fun _ => ⟨x, rfl⟩⟩
  | s0 :: L, nd, x => by
    rw [List.map_cons, List.nodup_cons] at nd
    obtain ⟨ih1, ih2⟩ := found_loop F sub fu (e := e) h L nd.2 (some (.val s0.toD))
    have es : elemD s0.toD (.int 0) = some (plD s0.pl) := rfl
    by_cases hp : s0.pl = pl
    · have turn : turnF F sub fu [] [2] false lb_found_part_0 s0.toD [some (.val e), some (.val d), x] = .ret (.val s0.toD) [some (.val e), some (.val d), some (.val s0.toD)] := by
        simp [turnF, lb_found_part_0, es, h.btup, eqD_pl, hp, retR]
      refine ⟨fun s hs hq => ?_, fun hn => absurd hp (hn s0 (by simp))⟩
      rcases List.mem_cons.mp hs with rfl | hs
      · rw [List.map_cons, forL_ret turn]
      · exact absurd (List.mem_map_of_mem (f := Spot.pl) hs) (by rw [hq, ← hp]; exact nd.1)
    · have turn : turnF F sub fu [] [2] false lb_found_part_0 s0.toD [some (.val e), some (.val d), x] = .next [some (.val e), some (.val d), some (.val s0.toD)] := by
        simp [turnF, lb_found_part_0, es, h.btup, eqD_pl, hp, retR]
      rw [List.map_cons, forL_next turn]
      refine ⟨fun s hs hq => ?_, fun hn => ih2 fun s hs => hn s (List.mem_cons_of_mem _ hs)⟩
      rcases List.mem_cons.mp hs with rfl | hs
      · exact absurd hq hp
      · exact ih1 s hs hq
theorem run_found {p : Prt} {d : D} (ok : p.Ok []) (hs : p.sz ≤ 90) {s : Spot} (hm : s ∈ p.spots [] [] []) (h : IsRow d (s.pl.map .int)) (n : Nat) : runN (n + 3) 18 [.val p.toD, .val d] = .ret (.val s.toD) [] := by
  have h1 := run_surveyed (p := p) (d := p.toD) (frz_prt ok) hs (n + 1)
  have h2 := surv_spots p [] [] []
  simp only [List.map_nil] at h2
  rw [h2, List.map_map] at h1
  have h3 := path_ok h n
  have lp := (found_loop (runN (n + 2)) subT 1000 (e := p.toD) h (p.spots [] [] []) (spots_nd p _ _ _) none).1 s hm rfl
  rw [rn_found_part]
  have e1 : W.toDs ((p.spots [] [] []).map (W.val ∘ Spot.toD)) = some ((p.spots [] [] []).map Spot.toD) := by rw [← List.map_map, toDs_vals]
  simp [evF, ir_found_part, h1, h3, e1, lp]
theorem run_lost {p : Prt} {d : D} {pl : List Int} (ok : p.Ok []) (hs : p.sz ≤ 90) (hm : ∀ s ∈ p.spots [] [] [], s.pl ≠ pl) (h : IsRow d (pl.map .int)) (n : Nat) : runN (n + 3) 18 [.val p.toD, .val d] = .exc 1 d := by
  have h1 := run_surveyed (p := p) (d := p.toD) (frz_prt ok) hs (n + 1)
  have h2 := surv_spots p [] [] []
  simp only [List.map_nil] at h2
  rw [h2, List.map_map] at h1
  have h3 := path_ok h n
  obtain ⟨x', lp⟩ := (found_loop (runN (n + 2)) subT 1000 (e := p.toD) h (p.spots [] [] []) (spots_nd p _ _ _) none).2 hm
  rw [rn_found_part]
  have e1 : W.toDs ((p.spots [] [] []).map (W.val ∘ Spot.toD)) = some ((p.spots [] [] []).map Spot.toD) := by rw [← List.map_map, toDs_vals]
  simp [evF, ir_found_part, h1, h3, e1, lp]
theorem run_nopath {e d : D} (n : Nat) (h : runN (n + 2) 17 [.val d] = .ret (.val (.bool false)) []) : runN (n + 3) 18 [.val e, .val d] = .exc 1 d := by
  rw [rn_found_part]
  simp [evF, ir_found_part, h]
end TA

set_option Elab.async false
set_option linter.all false
set_option maxRecDepth 100000
/-! Pu8: classes, written_classes, test_follows. -/
namespace TA
open PySem
abbrev NM := List (Itm × Int)
def nK (m : NM) : List D := m.map fun e => e.1.toD
def nD (m : NM) : D := .dict (m.map fun e => (e.1.toD, .int e.2))
def nW (m : NM) : W := .dic (nK m) (m.map fun e => .val (.int e.2))
def num : NM → Itm → Option Int
  | [], _ => none
  | (j, v) :: m, i => if j = i then some v else num m i
def put : NM → Itm → Int → NM
  | [], i, v => [(i, v)]
  | (j, w) :: m, i, v => if j = i then (j, v) :: m else (j, w) :: put m i v
/-! ### keys -/
@[simp] theorem keyOk_itm (i : Itm) : keyOk i.toD = true := by
  cases i with
  | name x => simp [Itm.toD, keyOk]
  | atom a => cases a <;> simp [Itm.toD, keyOk, Atm.toD]
@[simp] theorem flatK_itm (i : Itm) : flatK i.toD = false := by cases i <;> rfl
theorem eqK_itm (i j : Itm) : eqK i.toD j.toD = decide (i = j) := by
  cases i with
  | name x =>
    cases j with
    | name y => simp [Itm.toD, eqK, eqK.eqKs]; by_cases h : x = y <;> simp [h]
    | atom b => simp [Itm.toD, eqK, eqK.eqKs]
  | atom a =>
    cases j with
    | name y => simp [Itm.toD, eqK, eqK.eqKs]
    | atom b =>
      cases a <;> cases b <;> simp [Itm.toD, eqK, eqK.eqKs, Atm.toD]
      · rename_i x y; by_cases h : x = y <;> simp [h]
      · rename_i x y; by_cases h : x = y <;> simp [h]
theorem look_n {α : Type} (f : Int → α) (i : Itm) : ∀ m : NM, look (nK m) (m.map fun e => f e.2) i.toD = (num m i).map f
  | [] => rfl
  | (j, v) :: m => by
    have ih := look_n f i m
    simp only [nK] at ih
    simp only [nK, List.map_cons, look, num, eqK_itm]
    by_cases h : j = i
    · simp [h]
    · simp [h, ih]
theorem putW_n (i : Itm) (v : Int) : ∀ m : NM, putW (nK m) (m.map fun e => W.val (.int e.2)) i.toD (.val (.int v)) = (nK (put m i v), (put m i v).map fun e => W.val (.int e.2))
  | [] => by simp [nK, putW, put]
  | (j, w) :: m => by
    have ih := putW_n i v m
    simp only [nK] at ih
    simp only [nK, List.map_cons, putW, put, eqK_itm]
    by_cases h : j = i
    · simp [h]
    · simp [h, ih]
theorem zip_maps {α β γ : Type} (f : α → β) (g : α → γ) : ∀ m : List α, (m.map f).zip (m.map g) = m.map fun e => (f e, g e)
  | [] => rfl
  | a :: m => by simp [zip_maps f g m]
@[simp] theorem nW_toD (m : NM) : (nW m).toD = some (nD m) := by
  unfold nW nD nK
  rw [W.toD_dic]
  have : W.toDs (m.map fun e => W.val (.int e.2)) = some (m.map fun e => .int e.2) := by
    rw [← toDs_vals (m.map fun e => PyData.int e.2), List.map_map]; rfl
  rw [this, Option.map_some, zip_maps]
theorem valsW_map (ds : List D) : valsW (ds.map W.val) = some ds := by
  induction ds with
  | nil => rfl
  | cons d ds ih => rw [List.map_cons, valsW, ih]; rfl
@[simp] theorem nW_flat (m : NM) : (nW m).flat = some (nD m) := by
  unfold nW nD nK
  rw [W.flat]
  have : valsW (m.map fun e => W.val (.int e.2)) = some (m.map fun e => .int e.2) := by
    rw [← valsW_map (m.map fun e => PyData.int e.2), List.map_map]; rfl
  rw [this, Option.map_some, zip_maps]
@[simp] theorem share_nW (m : NM) (es : Env) : Env.share (some (nW m) :: es) 0 = .ok (some (.val (nD m)) :: es, .val (nD m)) := by
  simp [Env.share]
theorem in_n (i : Itm) (m : NM) : inD i.toD (nD m) = some (num m i).isSome := by
  unfold inD nD
  have h1 : (m.map fun e => (e.1.toD, PyData.int e.2)).all (fun kv => flatK kv.1 == flatK i.toD) = true := by
    rw [List.all_map, List.all_eq_true]
    intro e _
    simp
  have h2 := look_n (fun v => PyData.int v) i m
  simp only [nK] at h2
  simp only [keyOk_itm, h1, Bool.and_self, if_true, List.map_map]
  rw [show ((fun x : D × D => x.1) ∘ fun e : Itm × Int => (e.1.toD, PyData.int e.2)) = fun e => e.1.toD from rfl, show ((fun x : D × D => x.2) ∘ fun e : Itm × Int => (e.1.toD, PyData.int e.2)) = fun e => PyData.int e.2 from rfl, h2]
  cases num m i <;> rfl
theorem elem_dict (kvs : List (D × D)) (k : D) : elemD (.dict kvs) k = if keyOk k then look (kvs.map (·.1)) (kvs.map (·.2)) k else none := by cases k <;> rfl
theorem elem_n (i : Itm) (m : NM) : elemD (nD m) i.toD = (num m i).map .int := by
  have h2 := look_n (fun v => PyData.int v) i m
  simp only [nK] at h2
  rw [nD, elem_dict, if_pos (keyOk_itm i), List.map_map, List.map_map]
  exact h2
theorem store_n (i : Itm) (v : Int) (m : NM) (h : m.length ≤ 1000) : storeW (nW m) (.val i.toD) (.val (.int v)) = some (nW (put m i v)) := by
  unfold nW storeW
  have h1 : (nK m).all (fun q => flatK q == flatK i.toD) = true := by
    unfold nK
    rw [List.all_map, List.all_eq_true]
    intro e _
    simp
  simp [W.toD_val, keyOk_itm, h1, szOk_small (n := m.length + 1) (by omega), nK]
  have := putW_n i v m
  simp only [nK] at this
  rw [this]
  exact ⟨rfl, rfl⟩
/-! ### the first walk -/
def addN (m : NM) (i : Itm) : NM := if (num m i).isSome then m else put m i m.length
theorem put_len (m : NM) (i : Itm) (v : Int) : (put m i v).length ≤ m.length + 1 := by
  induction m with
  | nil => simp [put]
  | cons e m ih =>
    obtain ⟨j, w⟩ := e
    unfold put
    split <;> simp <;> omega
theorem addN_len (m : NM) (i : Itm) : (addN m i).length ≤ m.length + 1 := by
  unfold addN
  split
  · omega
  · exact put_len m i _
theorem len_nD (m : NM) : lenD (nD m) = some m.length := by simp [nD]
section
variable (F : Nat → List W → FRes) (sub : Subs) (fu : Nat)
theorem cls_turn0 (m : NM) (i : Itm) (h : m.length ≤ 1000) (a b c d e : Option W) : turnF F sub fu [] [3] false lb_classes_0 i.toD [a, some (nW m), b, c, d, e] = .next [a, some (nW (addN m i)), b, some (.val i.toD), d, e] := by
  unfold addN
  cases hn : num m i with
  | some v => simp [turnF, lb_classes_0, in_n, hn]
  | none => simp [turnF, lb_classes_0, in_n, hn, len_nD, store_n i _ m h]
@[simp] theorem slice_t (t : Tst) : sliceD t.toD (some 1) none = some (.val (.tuple [t.a.toD, t.b.toD])) := by
  simp [sliceD, Tst.toD, cutL, sIx]
theorem cls_turn1 (m : NM) (t : Tst) (h : m.length ≤ 900) (a b c d e : Option W) : turnF F sub fu [] [2] false lb_classes_1 t.toD [a, some (nW m), b, c, d, e] = .next [a, some (nW (addN (addN m t.a) t.b)), some (.val t.toD), some (.val t.b.toD), d, e] := by
  have h1 := addN_len m t.a
  simp only [turnF, lb_classes_1, Env.target_one, Res.of_some, Out.of_ok, List.set_cons_succ, List.set_cons_zero, ess_cons, es_for, evEs_cons, evEs_nil, ev_slc]
  simp [IE.isNo, partW, slice_t]
  rw [cls_turn0 F sub fu m t.a (by omega) _ _ _ _ _]
  dsimp only
  rw [cls_turn0 F sub fu _ t.b (by omega) _ _ _ _ _]
  simp
def ph1 (ts : List Tst) (m : NM) : NM := ts.foldl (fun m t => addN (addN m t.a) t.b) m
theorem cls_loop1 (a : Option W) : ∀ (ts : List Tst) (m : NM), m.length + 2 * ts.length ≤ 900 → ∀ b c d e : Option W, ∃ b' c', forL (turnF F sub fu [] [2] false lb_classes_1) (ts.map Tst.toD) [a, some (nW m), b, c, d, e] = .next [a, some (nW (ph1 ts m)), b', c', d, e]
  | [], m, _, b, c, d, e => ⟨b, c, rfl⟩
  | t :: ts, m, h, b, c, d, e => by
    simp only [List.length_cons] at h
    have h1 := addN_len m t.a
    have h2 := addN_len (addN m t.a) t.b
    obtain ⟨b', c', hr⟩ := cls_loop1 a ts (addN (addN m t.a) t.b) (by omega) (some (.val t.toD)) (some (.val t.b.toD)) d e
    exact ⟨b', c', by rw [List.map_cons, forL_next (cls_turn1 F sub fu m t (by omega) _ _ _ _ _)]; exact hr⟩
/-! ### the second walk -/
def mrg1 (m : NM) (o n : Int) (i : Itm) : NM := if num m i = some o then put m i n else m
theorem put_keys : ∀ {m : NM} {i : Itm} {v : Int}, (num m i).isSome → (put m i v).map (·.1) = m.map (·.1)
  | [], _, _, h => by simp [num] at h
  | (j, w) :: m, i, v, h => by
    unfold put
    unfold num at h
    by_cases e : j = i
    · simp [e]
    · simp only [e, if_false] at h ⊢
      simp [put_keys h]
theorem mrg1_keys (m : NM) (o n : Int) (i : Itm) : (mrg1 m o n i).map (·.1) = m.map (·.1) := by
  unfold mrg1
  split
  · rename_i h; exact put_keys (by rw [h]; rfl)
  · rfl
theorem num_keys {m : NM} {i : Itm} : (num m i).isSome ↔ i ∈ m.map (·.1) := by
  induction m with
  | nil => simp [num]
  | cons e m ih =>
    obtain ⟨j, w⟩ := e
    unfold num
    by_cases h : j = i
    · simp [h]
    · simp only [h, if_false, List.map_cons, List.mem_cons, ih, Ne.symm h, false_or]
theorem cls_turn2 (m : NM) (i : Itm) (o n : Int) (h : m.length ≤ 1000) (hi : (num m i).isSome) (a b c : Option W) : turnF F sub fu [] [3] false lb_classes_2 i.toD [a, some (nW m), b, c, some (.val (.int o)), some (.val (.int n))] = .next [a, some (nW (mrg1 m o n i)), b, some (.val i.toD), some (.val (.int o)), some (.val (.int n))] := by
  obtain ⟨v, hv⟩ := Option.isSome_iff_exists.mp hi
  unfold mrg1
  by_cases e : v = o
  · subst e
    simp [turnF, lb_classes_2, elem_n, hv, store_n i _ m h]
  · simp [turnF, lb_classes_2, elem_n, hv, e]
theorem cls_loop2 (a b : Option W) (o n : Int) : ∀ (is : List Itm) (m : NM), (∀ i ∈ is, i ∈ m.map (·.1)) → m.length ≤ 1000 → ∀ c : Option W, ∃ c', forL (turnF F sub fu [] [3] false lb_classes_2) (is.map Itm.toD) [a, some (nW m), b, c, some (.val (.int o)), some (.val (.int n))] = .next [a, some (nW (is.foldl (fun m i => mrg1 m o n i) m)), b, c', some (.val (.int o)), some (.val (.int n))]
  | [], m, _, _, c => ⟨c, rfl⟩
  | i :: is, m, h, hl, c => by
    have e : (mrg1 m o n i).length = m.length := by
      have := congrArg List.length (mrg1_keys m o n i)
      simpa using this
    obtain ⟨c', hr⟩ := cls_loop2 a b o n is (mrg1 m o n i) (fun j hj => by rw [mrg1_keys]; exact h j (List.mem_cons_of_mem _ hj)) (by omega) (some (.val i.toD))
    exact ⟨c', by rw [List.map_cons, forL_next (cls_turn2 F sub fu m i o n hl (num_keys.mpr (h i (by simp))) _ _ _)]; exact hr⟩
def mrg (m : NM) (a b : Itm) : NM := match num m a, num m b with
  | some o, some n => (m.map (·.1)).foldl (fun m i => mrg1 m o n i) m
  | _, _ => m
def ph2 (ts : List Tst) (m : NM) : NM := ts.foldl (fun m t => if t.al then mrg m t.a t.b else m) m
theorem fold_keys (o n : Int) : ∀ (is : List Itm) (m : NM), (is.foldl (fun m i => mrg1 m o n i) m).map (·.1) = m.map (·.1)
  | [], _ => rfl
  | i :: is, m => by rw [List.foldl_cons, fold_keys o n is, mrg1_keys]
theorem mrg_keys (m : NM) (a b : Itm) : (mrg m a b).map (·.1) = m.map (·.1) := by
  unfold mrg
  split
  · exact fold_keys _ _ _ _
  · rfl
theorem blist_nD (m : NM) : bltD .list [nD m] = some (.lst ((m.map (·.1)).map fun i => .val i.toD)) := by
  simp only [bltD, nD, List.map_map]
  rfl
theorem cls_turn3 (m : NM) (t : Tst) (h : m.length ≤ 1000) (ha : (num m t.a).isSome) (hb : (num m t.b).isSome) (a b c d e : Option W) : ∃ c' d' e', turnF F sub fu [] [2] false lb_classes_3 t.toD [a, some (nW m), b, c, d, e] = .next [a, some (nW (if t.al then mrg m t.a t.b else m)), some (.val t.toD), c', d', e'] := by
  obtain ⟨o, ho⟩ := Option.isSome_iff_exists.mp ha
  obtain ⟨n, hn⟩ := Option.isSome_iff_exists.mp hb
  cases hal : t.al with
  | false =>
    refine ⟨c, d, e, ?_⟩
    simp [turnF, lb_classes_3, Tst.toD, hal, alS]
  | true =>
    obtain ⟨c', hr⟩ := cls_loop2 F sub fu a (some (.val t.toD)) o n (m.map (·.1)) m (fun _ h => h) h c
    refine ⟨c', some (.val (.int o)), some (.val (.int n)), ?_⟩
    have et : elemD t.toD (.int 0) = some (.str (S "alike")) := by simp [Tst.toD, alS, hal]
    have e1 : elemD t.toD (.int 1) = some t.a.toD := by simp [Tst.toD]
    have e2 : elemD t.toD (.int 2) = some t.b.toD := by simp [Tst.toD]
    have e3 : W.toDs ((m.map (·.1)).map fun i => W.val i.toD) = some ((m.map (·.1)).map Itm.toD) := by
      have := toDs_vals ((m.map (·.1)).map Itm.toD)
      rw [List.map_map] at this
      exact this
    simp only [List.map_map] at e3 hr
    simp [turnF, lb_classes_3, et, e1, e2, elem_n, ho, hn, blist_nD, e3, mrg]
    rw [show (Itm.toD ∘ fun x : Itm × Int => x.1) = fun e => e.1.toD from rfl] at *
    rw [hr]
    simp [List.foldl_map]
end
end TA

set_option Elab.async false
set_option linter.all false
set_option maxRecDepth 100000
/-! Pu9: what the numbers tell; test_follows. -/
namespace TA
open PySem
theorem num_put (m : NM) (i j : Itm) (v : Int) : num (put m i v) j = if i = j then some v else num m j := by
  induction m with
  | nil => simp [put, num]
  | cons e m ih =>
    obtain ⟨k, w⟩ := e
    unfold put
    by_cases h : k = i
    · subst h
      simp only [if_true, num]
      by_cases h2 : k = j <;> simp [h2]
    · simp only [h, if_false, num, ih]
      by_cases h2 : k = j
      · subst h2; simp [Ne.symm h]
      · simp [h2]
theorem put_new {m : NM} {i : Itm} {v : Int} (h : num m i = none) : put m i v = m ++ [(i, v)] := by
  induction m with
  | nil => rfl
  | cons e m ih =>
    obtain ⟨k, w⟩ := e
    unfold num at h
    unfold put
    by_cases e : k = i
    · simp [e] at h
    · simp only [e, if_false] at h ⊢
      rw [ih h]
      rfl
/-- the first walk's numbers -/
structure Nu1 (m : NM) (P : Itm → Prop) : Prop where
  nd : (m.map (·.1)).Nodup
  lt : ∀ i v, num m i = some v → v < m.length
  inj : ∀ i j v, num m i = some v → num m j = some v → i = j
  dom : ∀ i, (num m i).isSome → P i
theorem addN_nu {m : NM} {P : Itm → Prop} (h : Nu1 m P) {i : Itm} (hi : P i) : Nu1 (addN m i) P ∧ (num (addN m i) i).isSome ∧ ∀ j, (num m j).isSome → (num (addN m i) j).isSome := by
  unfold addN
  cases e : num m i with
  | some v => simp only [Option.isSome_some, if_true]; exact ⟨h, by rw [e]; rfl, fun j hj => hj⟩
  | none =>
    simp only [Option.isSome_none, Bool.false_eq_true, if_false]
    have hp : ∀ j, num (put m i m.length) j = if i = j then some (m.length : Int) else num m j := fun j => num_put m i j _
    refine ⟨⟨?_, fun j v hj => ?_, fun j k v hj hk => ?_, fun j hj => ?_⟩, by rw [hp]; simp, fun j hj => ?_⟩
    · rw [put_new e, List.map_append, List.nodup_append]
      refine ⟨h.nd, by simp, fun a ha b hb => ?_⟩
      simp at hb
      subst hb
      intro z
      subst z
      rw [num_keys.mpr ha |> fun z => Option.isSome_iff_exists.mp z |>.choose_spec] at e
      cases e
    · rw [hp] at hj
      have hl : (put m i (m.length : Int)).length = m.length + 1 := by rw [put_new e]; simp
      rw [hl]
      by_cases z : i = j
      · simp only [z, if_true, Option.some.injEq] at hj; omega
      · simp only [z, if_false] at hj; have := h.lt j v hj; omega
    · rw [hp] at hj hk
      by_cases z : i = j <;> by_cases y : i = k
      · exact z.symm.trans y
      · simp only [z, if_true, Option.some.injEq] at hj
        simp only [y, if_false] at hk
        have := h.lt k v hk; omega
      · simp only [y, if_true, Option.some.injEq] at hk
        simp only [z, if_false] at hj
        have := h.lt j v hj; omega
      · simp only [z, y, if_false] at hj hk
        exact h.inj j k v hj hk
    · rw [hp] at hj
      by_cases z : i = j
      · exact z ▸ hi
      · simp only [z, if_false] at hj; exact h.dom j hj
    · rw [hp]
      split
      · rfl
      · exact hj
theorem ph1_nu {P : Itm → Prop} : ∀ (ts : List Tst) {m : NM}, Nu1 m P → (∀ t ∈ ts, P t.a ∧ P t.b) → Nu1 (ph1 ts m) P ∧ (∀ t ∈ ts, (num (ph1 ts m) t.a).isSome ∧ (num (ph1 ts m) t.b).isSome) ∧ ∀ j, (num m j).isSome → (num (ph1 ts m) j).isSome
  | [], m, h, _ => ⟨h, by simp, fun _ z => z⟩
  | t :: ts, m, h, hp => by
    obtain ⟨h1, a1, b1⟩ := addN_nu h (hp t (by simp)).1
    obtain ⟨h2, a2, b2⟩ := addN_nu h1 (hp t (by simp)).2
    obtain ⟨h3, a3, b3⟩ := ph1_nu ts h2 fun u hu => hp u (List.mem_cons_of_mem _ hu)
    refine ⟨h3, fun u hu => ?_, fun j hj => b3 j (b2 j (b1 j hj))⟩
    rcases List.mem_cons.mp hu with rfl | hu
    · exact ⟨b3 _ (b2 _ a1), b3 _ a2⟩
    · exact a3 u hu
theorem fold_num (o n : Int) (j : Itm) : ∀ (is : List Itm) (m : NM), num (is.foldl (fun m i => mrg1 m o n i) m) j = if j ∈ is ∧ num m j = some o then some n else num m j
  | [], m => by simp
  | i :: is, m => by
    rw [List.foldl_cons, fold_num o n j is]
    have h1 : num (mrg1 m o n i) j = if i = j ∧ num m j = some o then some n else num m j := by
      unfold mrg1
      by_cases h : num m i = some o
      · rw [if_pos h, num_put]
        by_cases z : i = j
        · subst z; simp [h]
        · simp [z]
      · rw [if_neg h]
        by_cases z : i = j
        · subst z; simp [h]
        · simp [z]
    rw [h1]
    by_cases z : i = j
    · subst z
      by_cases y : num m i = some o
      · simp [y]
      · simp [y]
    · have z' : ¬ j = i := fun e => z e.symm
      simp [z, z']
theorem num_mrg {m : NM} {a b : Itm} {o n : Int} (ha : num m a = some o) (hb : num m b = some n) (j : Itm) : num (mrg m a b) j = if num m j = some o then some n else num m j := by
  unfold mrg
  rw [ha, hb]
  dsimp only
  rw [fold_num]
  by_cases h : num m j = some o
  · have : j ∈ m.map (·.1) := num_keys.mp (by rw [h]; rfl)
    simp [h, this]
  · simp [h]
/-- the second walk's -/
structure Nu2 (ts done : List Tst) (m : NM) : Prop where
  dom : ∀ t ∈ ts, (num m t.a).isSome ∧ (num m t.b).isSome
  al : ∀ t ∈ done, t.al = true → num m t.a = num m t.b
  one : ∀ ρ : Rho, (∀ t ∈ ts, t.al = true → t.pass ρ = true) → ∀ i j v, num m i = some v → num m j = some v → i.ev ρ = j.ev ρ
theorem mrg_nu {ts done : List Tst} {m : NM} (h : Nu2 ts done m) {t : Tst} (ht : t ∈ ts) : Nu2 ts (done ++ [t]) (if t.al then mrg m t.a t.b else m) := by
  cases hal : t.al with
  | false =>
    simp only [Bool.false_eq_true, if_false]
    exact ⟨h.dom, (fun u hu hau => by
      rcases List.mem_append.mp hu with hu | hu
      · exact h.al u hu hau
      · simp at hu; subst hu; rw [hal] at hau; exact nomatch hau), h.one⟩
  | true =>
    simp only [if_true]
    obtain ⟨o, ho⟩ := Option.isSome_iff_exists.mp (h.dom t ht).1
    obtain ⟨n, hn⟩ := Option.isSome_iff_exists.mp (h.dom t ht).2
    have N := fun j => num_mrg ho hn j
    have iss : ∀ j, (num m j).isSome → (num (mrg m t.a t.b) j).isSome := fun j hj => by
      rw [N]
      split
      · rfl
      · exact hj
    refine ⟨fun u hu => ⟨iss _ (h.dom u hu).1, iss _ (h.dom u hu).2⟩, fun u hu hau => ?_, fun ρ p i j v hi hj => ?_⟩
    · rcases List.mem_append.mp hu with hu | hu
      · rw [N, N, h.al u hu hau]
      · simp at hu
        subst hu
        rw [N, N, ho, hn]
        simp
    · have e : t.a.ev ρ = t.b.ev ρ := by
        have := p t ht hal
        rw [Tst.pass, hal] at this
        simpa using this
      have key : ∀ k, num (mrg m t.a t.b) k = some v → (num m k = some v) ∨ (num m k = some o ∧ v = n) := fun k hk => by
        rw [N] at hk
        by_cases z : num m k = some o
        · rw [if_pos z] at hk
          exact .inr ⟨z, (Option.some.inj hk).symm⟩
        · rw [if_neg z] at hk
          exact .inl hk
      rcases key i hi with h1 | ⟨h1, z1⟩ <;> rcases key j hj with h2 | ⟨h2, z2⟩
      · exact h.one ρ p i j v h1 h2
      · rw [h.one ρ p j t.a o h2 ho, e, h.one ρ p i t.b n (z2 ▸ h1) hn]
      · rw [h.one ρ p i t.a o h1 ho, e, h.one ρ p j t.b n (z1 ▸ h2) hn]
      · exact h.one ρ p i j o h1 h2
theorem ph2_nu {ts : List Tst} : ∀ (us : List Tst) {done : List Tst} {m : NM}, (∀ u ∈ us, u ∈ ts) → Nu2 ts done m → Nu2 ts (done ++ us) (ph2 us m)
  | [], done, m, _, h => by simpa [ph2] using h
  | u :: us, done, m, hu, h => by
    have := ph2_nu us (fun x hx => hu x (List.mem_cons_of_mem _ hx)) (mrg_nu h (hu u (by simp)))
    rw [List.append_assoc] at this
    exact this
theorem ph2_keys : ∀ (ts : List Tst) (m : NM), (ph2 ts m).map (·.1) = m.map (·.1)
  | [], _ => rfl
  | t :: ts, m => by
    rw [ph2, List.foldl_cons]
    have := ph2_keys ts (if t.al then mrg m t.a t.b else m)
    rw [ph2] at this
    rw [this]
    split
    · exact mrg_keys m _ _
    · rfl
section
variable (F : Nat → List W → FRes) (sub : Subs) (fu : Nat)
theorem cls_loop3 (a : Option W) : ∀ (ts : List Tst) (m : NM), (∀ t ∈ ts, (num m t.a).isSome ∧ (num m t.b).isSome) → m.length ≤ 1000 → ∀ b c d e : Option W, ∃ b' c' d' e', forL (turnF F sub fu [] [2] false lb_classes_3) (ts.map Tst.toD) [a, some (nW m), b, c, d, e] = .next [a, some (nW (ph2 ts m)), b', c', d', e']
  | [], m, _, _, b, c, d, e => ⟨b, c, d, e, rfl⟩
  | t :: ts, m, hd, h, b, c, d, e => by
    obtain ⟨c1, d1, e1, ht⟩ := cls_turn3 F sub fu m t h (hd t (by simp)).1 (hd t (by simp)).2 a b c d e
    have hk : (if t.al then mrg m t.a t.b else m).map (·.1) = m.map (·.1) := by
      split
      · exact mrg_keys m _ _
      · rfl
    have hl : (if t.al then mrg m t.a t.b else m).length = m.length := by simpa using congrArg List.length hk
    obtain ⟨b', c', d', e', hr⟩ := cls_loop3 a ts (if t.al then mrg m t.a t.b else m) (fun u hu => by
      rw [num_keys, num_keys, hk, ← num_keys, ← num_keys]
      exact hd u (List.mem_cons_of_mem _ hu)) (by omega) (some (.val t.toD)) c1 d1 e1
    exact ⟨b', c', d', e', by rw [List.map_cons, forL_next ht]; exact hr⟩
end
theorem ph1_len : ∀ (ts : List Tst) (m : NM), (ph1 ts m).length ≤ m.length + 2 * ts.length
  | [], m => by simp [ph1]
  | t :: ts, m => by
    have := ph1_len ts (addN (addN m t.a) t.b)
    have h1 := addN_len m t.a
    have h2 := addN_len (addN m t.a) t.b
    simp only [ph1, List.foldl_cons, List.length_cons] at *
    omega
def nums (ts : List Tst) : NM := ph2 ts (ph1 ts [])
theorem run_classes (ts : List Tst) (h : ts.length ≤ 100) (n : Nat) : runN (n + 1) 20 [.val (.tuple (ts.map Tst.toD))] = .ret (nW (nums ts)) [] := by
  obtain ⟨b1, c1, h1⟩ := cls_loop1 (runN n) subT 1000 (some (.val (.tuple (ts.map Tst.toD)))) ts [] (by simp; omega) none none none none
  have nu := (ph1_nu (P := fun _ => True) ts (m := []) ⟨by simp, by simp [num], by simp [num], by simp⟩ (by simp)).2.1
  have hl := ph1_len ts []
  obtain ⟨b2, c2, d2, e2, h2⟩ := cls_loop3 (runN n) subT 1000 (some (.val (.tuple (ts.map Tst.toD)))) ts (ph1 ts []) nu (by simp at hl; omega) b1 c1 none none
  have e0 : W.dic [] [] = nW [] := rfl
  rw [rn_classes]
  simp [evF, ir_classes, retR, e0, h1, h2]
  rfl
/-- what the numbers of all tests, with one more that is unlike, tell -/
theorem nums_ok (ts : List Tst) (a b : Itm) {P : Itm → Prop} (hP : ∀ t ∈ ts, P t.a ∧ P t.b) (ha : P a) (hb : P b) :
    let m := nums (ts ++ [⟨false, a, b⟩])
    Nums ts (num m) ∧ (num m a).isSome ∧ (num m b).isSome ∧ (m.map (·.1)).Nodup ∧ ∀ i, (num m i).isSome → P i := by
  intro m
  have hp' : ∀ t ∈ ts ++ [⟨false, a, b⟩], P t.a ∧ P t.b := fun t ht => by
    rcases List.mem_append.mp ht with ht | ht
    · exact hP t ht
    · simp at ht; subst ht; exact ⟨ha, hb⟩
  obtain ⟨n1, d1, _⟩ := ph1_nu (P := P) (ts ++ [⟨false, a, b⟩]) (m := []) ⟨by simp, by simp [num], by simp [num], by simp [num]⟩ hp'
  have n2 := ph2_nu (ts := ts ++ [⟨false, a, b⟩]) (ts ++ [⟨false, a, b⟩]) (done := []) (fun _ h => h) ⟨d1, by simp, fun ρ _ i j v hi hj => by rw [n1.inj i j v hi hj]⟩
  have hk := ph2_keys (ts ++ [⟨false, a, b⟩]) (ph1 (ts ++ [⟨false, a, b⟩]) [])
  refine ⟨⟨fun t ht => n2.dom t (List.mem_append_left _ ht), fun t ht => n2.al t (by simp; exact .inl ht), fun ρ p => n2.one ρ fun t ht hal => ?_⟩, (n2.dom ⟨false, a, b⟩ (by simp)).1, (n2.dom ⟨false, a, b⟩ (by simp)).2, ?_, fun i hi => ?_⟩
  · rcases List.mem_append.mp ht with ht | ht
    · exact p t ht
    · simp at ht; subst ht; cases hal
  · show ((ph2 _ _).map (·.1)).Nodup
    rw [hk]
    exact n1.nd
  · refine n1.dom i ?_
    rw [num_keys] at hi ⊢
    rw [← hk]
    exact hi
/-! ### the written atoms of classes -/
abbrev KM := List (Int × Atm)
def kvD (f : KM) : D := .dict (f.map fun e => (.int e.1, e.2.toD))
def kvW (f : KM) : W := .dic (f.map fun e => .int e.1) (f.map fun e => .val e.2.toD)
def knw (f : KM) (v : Int) : Bool := f.any fun e => e.1 == v
def wc (m : NM) : List Itm → KM → Option KM
  | [], f => some f
  | .name _ :: ks, f => wc m ks f
  | .atom a :: ks, f => match num m (.atom a) with
    | some v => if knw f v then none else wc m ks (f ++ [(v, a)])
    | none => none
@[simp] theorem kvW_toD (f : KM) : (kvW f).toD = some (kvD f) := by
  unfold kvW kvD
  rw [W.toD_dic]
  have : W.toDs (f.map fun e => W.val e.2.toD) = some (f.map fun e => e.2.toD) := by
    rw [← toDs_vals (f.map fun e => e.2.toD), List.map_map]; rfl
  rw [this, Option.map_some, zip_maps]
@[simp] theorem share_kvW (f : KM) (es : Env) : Env.share (some (kvW f) :: es) 0 = .ok (some (.val (kvD f)) :: es, .val (kvD f)) := by
  simp [Env.share]
theorem look_k {α : Type} (g : Int × Atm → α) (v : Int) : ∀ f : KM, (look (f.map fun e => PyData.int e.1) (f.map g) (.int v)).isSome = knw f v
  | [] => rfl
  | (w, a) :: f => by
    have ih := look_k g v f
    simp only [List.map_cons, look, knw, List.any_cons, eqK]
    by_cases h : w = v
    · simp [h]
    · simp only [beq_eq_false_iff_ne.mpr h, Bool.false_or, Bool.false_eq_true, if_false]
      exact ih
theorem in_k (v : Int) (f : KM) : inD (.int v) (kvD f) = some (knw f v) := by
  unfold inD kvD
  have h1 : (f.map fun e => (PyData.int e.1, e.2.toD)).all (fun kv => flatK kv.1 == flatK (.int v)) = true := by
    rw [List.all_map, List.all_eq_true]
    intro e _
    simp [flatK]
  have h2 := look_k (fun e => e.2.toD) v f
  simp only [keyOk, h1, Bool.and_self, if_true, List.map_map]
  rw [← h2]
  rfl
theorem putW_k (v : Int) (a : Atm) : ∀ {f : KM}, knw f v = false → putW (f.map fun e => PyData.int e.1) (f.map fun e => W.val e.2.toD) (.int v) (.val a.toD) = ((f ++ [(v, a)]).map fun e => PyData.int e.1, (f ++ [(v, a)]).map fun e => W.val e.2.toD)
  | [], _ => rfl
  | (w, b) :: f, h => by
    simp only [knw, List.any_cons, Bool.or_eq_false_iff] at h
    have ih := putW_k v a (f := f) (by simpa [knw] using h.2)
    simp only [List.map_cons, putW, eqK, h.1, Bool.false_eq_true, if_false, List.cons_append, ih]
theorem store_k (v : Int) (a : Atm) (f : KM) (h : f.length ≤ 1000) (hn : knw f v = false) : storeW (kvW f) (.val (.int v)) (.val a.toD) = some (kvW (f ++ [(v, a)])) := by
  unfold kvW storeW
  have h1 : (f.map fun e => PyData.int e.1).all (fun q => flatK q == flatK (.int v)) = true := by
    rw [List.all_map, List.all_eq_true]
    intro e _
    simp [flatK]
  simp only [W.toD_val, Option.bind_some, keyOk, h1, List.length_map, szOk_small (n := f.length + 1) (by omega), Bool.and_self, if_true]
  rw [putW_k v a hn]
@[simp] theorem e0_itm_n (x : Str) : elemD (Itm.name x).toD (.int 0) = some (.str (S "name")) := by simp [Itm.toD]
@[simp] theorem e0_itm_a (a : Atm) : elemD (Itm.atom a).toD (.int 0) = some (.str (S "atom")) := by simp [Itm.toD]
@[simp] theorem e1_itm_n (x : Str) : elemD (Itm.name x).toD (.int 1) = some (.str x) := by simp [Itm.toD]
@[simp] theorem e1_itm_a (a : Atm) : elemD (Itm.atom a).toD (.int 1) = some a.toD := by simp [Itm.toD]
section
variable (F : Nat → List W → FRes) (sub : Subs) (fu : Nat)
theorem wc_loop (m : NM) : ∀ (ks : List Itm) (f : KM), (∀ k ∈ ks, (num m k).isSome) → f.length + ks.length ≤ 1000 → ∀ x : Option W,
    (∀ f', wc m ks f = some f' → ∃ x', forL (turnF F sub fu [] [2] false lb_written_classes_0) (ks.map Itm.toD) [some (.val (nD m)), some (kvW f), x] = .next [some (.val (nD m)), some (kvW f'), x']) ∧
    (wc m ks f = none → ∃ e', forL (turnF F sub fu [] [2] false lb_written_classes_0) (ks.map Itm.toD) [some (.val (nD m)), some (kvW f), x] = .ret (.val .none) e')
  | [], f, _, _, x => ⟨fun f' h => by cases h; exact ⟨x, rfl⟩, fun h => nomatch h⟩
  | .name y :: ks, f, hk, hl, x => by
    obtain ⟨h1, h2⟩ := wc_loop m ks f (fun k hk' => hk k (List.mem_cons_of_mem _ hk')) (by simp at hl; omega) (some (.val (Itm.name y).toD))
    have st : turnF F sub fu [] [2] false lb_written_classes_0 (Itm.name y).toD [some (.val (nD m)), some (kvW f), x] = .next [some (.val (nD m)), some (kvW f), some (.val (Itm.name y).toD)] := by
      simp [turnF, lb_written_classes_0]
    rw [List.map_cons, forL_next st]
    exact ⟨h1, h2⟩
  | .atom a :: ks, f, hk, hl, x => by
    obtain ⟨v, hv⟩ := Option.isSome_iff_exists.mp (hk (.atom a) (by simp))
    simp only [wc, hv]
    cases hn : knw f v with
    | true =>
      refine ⟨fun f' h => by simp at h, fun _ => ?_⟩
      have st : ∃ e', turnF F sub fu [] [2] false lb_written_classes_0 (Itm.atom a).toD [some (.val (nD m)), some (kvW f), x] = .ret (.val .none) e' := by
        simp [turnF, lb_written_classes_0, elem_n, hv, in_k, hn, retR]
      obtain ⟨e', st⟩ := st
      exact ⟨e', by rw [List.map_cons, forL_ret st]⟩
    | false =>
      simp only [Bool.false_eq_true, if_false]
      obtain ⟨h1, h2⟩ := wc_loop m ks (f ++ [(v, a)]) (fun k hk' => hk k (List.mem_cons_of_mem _ hk')) (by simp at hl ⊢; omega) (some (.val (Itm.atom a).toD))
      have st : turnF F sub fu [] [2] false lb_written_classes_0 (Itm.atom a).toD [some (.val (nD m)), some (kvW f), x] = .next [some (.val (nD m)), some (kvW (f ++ [(v, a)])), some (.val (Itm.atom a).toD)] := by
        simp [turnF, lb_written_classes_0, elem_n, hv, in_k, hn, store_k v a f (by simp at hl; omega) hn]
      rw [List.map_cons, forL_next st]
      exact ⟨h1, h2⟩
end
theorem items_nD (m : NM) : itemsD (nD m) = some ((m.map (·.1)).map Itm.toD) := by
  simp only [nD, items_dic, List.map_map]
  rfl
theorem run_written (m : NM) (hl : m.length ≤ 900) (n : Nat) : runN (n + 1) 21 [.val (nD m)] = (match wc m (m.map (·.1)) [] with
    | some f => .ret (kvW f) []
    | none => .ret (.val .none) []) := by
  obtain ⟨h1, h2⟩ := wc_loop (runN n) subT 1000 m (m.map (·.1)) [] (fun k hk => num_keys.mpr hk) (by simp; omega) none
  have e0 : W.dic [] [] = kvW [] := rfl
  rw [rn_written_classes]
  cases e : wc m (m.map (·.1)) [] with
  | some f =>
    obtain ⟨x', h⟩ := h1 f e
    simp only [List.map_map] at h
    simp [evF, ir_written_classes, retR, e0, items_nD, h]
  | none =>
    obtain ⟨x', h⟩ := h2 e
    simp only [List.map_map] at h
    simp [evF, ir_written_classes, retR, e0, items_nD, h]
theorem knw_iff {f : KM} {v : Int} : knw f v = true ↔ ∃ a, (v, a) ∈ f := by
  unfold knw
  rw [List.any_eq_true]
  constructor
  · rintro ⟨⟨w, a⟩, h, e⟩
    simp at e
    subst e
    exact ⟨a, h⟩
  · rintro ⟨a, h⟩
    exact ⟨_, h, by simp⟩
/-- what the walk over the written atoms tells -/
theorem wc_ok (m : NM) : ∀ (ks : List Itm) (f : KM), (∀ k ∈ ks, (num m k).isSome) → ks.Nodup → (∀ v a, (v, a) ∈ f → num m (.atom a) = some v ∧ .atom a ∉ ks) → (∀ v a b, (v, a) ∈ f → (v, b) ∈ f → a = b) →
    (∀ f', wc m ks f = some f' → (∀ v a, (v, a) ∈ f' ↔ (v, a) ∈ f ∨ (.atom a ∈ ks ∧ num m (.atom a) = some v)) ∧ ∀ v a b, (v, a) ∈ f' → (v, b) ∈ f' → a = b) ∧
    (wc m ks f = none → ∃ a b v, a ≠ b ∧ num m (.atom a) = some v ∧ num m (.atom b) = some v)
  | [], f, _, _, _, u => ⟨fun f' h => by cases h; exact ⟨by simp, u⟩, fun h => nomatch h⟩
  | .name y :: ks, f, hk, nd, hf, u => by
    obtain ⟨h1, h2⟩ := wc_ok m ks f (fun k hk' => hk k (List.mem_cons_of_mem _ hk')) (List.nodup_cons.mp nd).2 (fun v a h => ⟨(hf v a h).1, fun z => (hf v a h).2 (List.mem_cons_of_mem _ z)⟩) u
    exact ⟨fun f' h => ⟨fun v a => by rw [(h1 f' h).1]; simp, (h1 f' h).2⟩, h2⟩
  | .atom a :: ks, f, hk, nd, hf, u => by
    obtain ⟨v, hv⟩ := Option.isSome_iff_exists.mp (hk (.atom a) (by simp))
    simp only [wc, hv]
    cases hn : knw f v with
    | true =>
      obtain ⟨b, hb⟩ := knw_iff.mp hn
      refine ⟨fun f' h => by simp at h, fun _ => ⟨a, b, v, fun z => (hf v b hb).2 (by rw [z]; simp), hv, (hf v b hb).1⟩⟩
    | false =>
      simp only [Bool.false_eq_true, if_false]
      have nk : ∀ b, (v, b) ∉ f := fun b hb => by rw [knw_iff.mpr ⟨b, hb⟩] at hn; cases hn
      obtain ⟨h1, h2⟩ := wc_ok m ks (f ++ [(v, a)]) (fun k hk' => hk k (List.mem_cons_of_mem _ hk')) (List.nodup_cons.mp nd).2 (fun w b h => by
        rcases List.mem_append.mp h with h | h
        · exact ⟨(hf w b h).1, fun z => (hf w b h).2 (List.mem_cons_of_mem _ z)⟩
        · simp at h
          obtain ⟨rfl, rfl⟩ := h
          exact ⟨hv, (List.nodup_cons.mp nd).1⟩) (fun w b c hb hc => by
        rcases List.mem_append.mp hb with hb1 | hb1 <;> rcases List.mem_append.mp hc with hc1 | hc1
        · exact u w b c hb1 hc1
        · simp at hc1
          rw [hc1.1] at hb1
          exact absurd hb1 (nk b)
        · simp at hb1
          rw [hb1.1] at hc1
          exact absurd hc1 (nk c)
        · simp at hb1 hc1; rw [hb1.2, hc1.2])
      refine ⟨fun f' h => ⟨fun w b => ?_, (h1 f' h).2⟩, h2⟩
      rw [(h1 f' h).1]
      simp only [List.mem_append, List.mem_cons, List.not_mem_nil, or_false, Prod.mk.injEq, Itm.atom.injEq]
      constructor
      · rintro ((h | ⟨rfl, rfl⟩) | ⟨h, e⟩)
        · exact .inl h
        · exact .inr ⟨.inl rfl, hv⟩
        · exact .inr ⟨.inr h, e⟩
      · rintro (h | ⟨rfl | h, e⟩)
        · exact .inl (.inl h)
        · rw [hv] at e
          exact .inl (.inr ⟨(Option.some.inj e).symm, rfl⟩)
        · exact .inr ⟨h, e⟩
end TA

set_option Elab.async false
set_option linter.all false
set_option maxRecDepth 100000
/-! Pu10: test_follows. -/
namespace TA
open PySem
def sp (c d : Int) : Int × Int := if d < c then (d, c) else (c, d)
def pD (p : Int × Int) : D := .list [.int p.1, .int p.2]
def apF (m : NM) : List Tst → Option (List (Int × Int))
  | [] => some []
  | t :: ts => if t.al then apF m ts else match num m t.a, num m t.b with
    | some c, some d => if c = d then none else (apF m ts).map (sp c d :: ·)
    | _, _ => none
@[simp] theorem bltD_sorted (i j : Int) : bltD .sorted [.list [.int i, .int j]] = some (.lst [.val (.int (sp i j).1), .val (.int (sp i j).2)]) := by
  simp only [bltD, sort2, sp]
  split <;> rfl
theorem e0_tst (t : Tst) : elemD t.toD (.int 0) = some (.str (alS t.al)) := by simp [Tst.toD]
theorem e1_tst (t : Tst) : elemD t.toD (.int 1) = some t.a.toD := by simp [Tst.toD]
theorem e2_tst (t : Tst) : elemD t.toD (.int 2) = some t.b.toD := by simp [Tst.toD]
@[simp] theorem alS_unlike (b : Bool) : (alS b == S "unlike") = !b := by cases b <;> simp [alS]
@[simp] theorem alS_alike (b : Bool) : (alS b == S "alike") = b := by cases b <;> simp [alS]
theorem sp_eq (c d : Int) : ((sp c d).1 == (sp c d).2) = decide (c = d) := by
  rw [Bool.eq_iff_iff]
  unfold sp
  split <;> simp
  omega
section
variable (F : Nat → List W → FRes) (sub : Subs) (fu : Nat)
abbrev apW (ps : List (Int × Int)) : W := .lst (ps.map fun p => .val (pD p))
theorem ap_loop (m : NM) (a b k : Option W) : ∀ (ts : List Tst) (ps : List (Int × Int)), (∀ t ∈ ts, (num m t.a).isSome ∧ (num m t.b).isSome) → ps.length + ts.length ≤ 1000 → ∀ c d e f : Option W,
    (∀ qs, apF m ts = some qs → ∃ c' d', forL (turnF F sub fu [] [5] false lb_test_follows_0) (ts.map Tst.toD) [a, b, some (.val (nD m)), k, some (apW ps), c, d, e, f] = .next [a, b, some (.val (nD m)), k, some (apW (ps ++ qs)), c', d', e, f]) ∧
    (apF m ts = none → ∃ e', forL (turnF F sub fu [] [5] false lb_test_follows_0) (ts.map Tst.toD) [a, b, some (.val (nD m)), k, some (apW ps), c, d, e, f] = .ret (.val (.bool true)) e')
  | [], ps, _, _, c, d, e, f => ⟨fun qs h => by cases h; exact ⟨c, d, by simp⟩, fun h => nomatch h⟩
  | t :: ts, ps, hd, hl, c, d, e, f => by
    obtain ⟨x, hx⟩ := Option.isSome_iff_exists.mp (hd t (by simp)).1
    obtain ⟨y, hy⟩ := Option.isSome_iff_exists.mp (hd t (by simp)).2
    simp only [List.length_cons] at hl
    have hd' := fun u hu => hd u (List.mem_cons_of_mem _ hu)
    simp only [apF]
    cases hal : t.al with
    | true =>
      simp only [if_true]
      have st : turnF F sub fu [] [5] false lb_test_follows_0 t.toD [a, b, some (.val (nD m)), k, some (apW ps), c, d, e, f] = .next [a, b, some (.val (nD m)), k, some (apW ps), some (.val t.toD), d, e, f] := by
        simp [turnF, lb_test_follows_0, e0_tst, hal]
      rw [List.map_cons, forL_next st]
      exact ap_loop m a b k ts ps hd' (by omega) _ _ e f
    | false =>
      simp only [Bool.false_eq_true, if_false, hx, hy]
      by_cases hxy : x = y
      · rw [if_pos hxy]
        refine ⟨fun qs h => (nomatch h), fun _ => ?_⟩
        have st : ∃ e', turnF F sub fu [] [5] false lb_test_follows_0 t.toD [a, b, some (.val (nD m)), k, some (apW ps), c, d, e, f] = .ret (.val (.bool true)) e' := by
          simp [turnF, lb_test_follows_0, e0_tst, e1_tst, e2_tst, elem_n, hx, hy, hal, sp_eq, hxy, retR]
        obtain ⟨e', st⟩ := st
        exact ⟨e', by rw [List.map_cons, forL_ret st]⟩
      · rw [if_neg hxy]
        have st : turnF F sub fu [] [5] false lb_test_follows_0 t.toD [a, b, some (.val (nD m)), k, some (apW ps), c, d, e, f] = .next [a, b, some (.val (nD m)), k, some (apW (ps ++ [sp x y])), some (.val t.toD), some (.val (pD (sp x y))), e, f] := by
          simp [turnF, lb_test_follows_0, e0_tst, e1_tst, e2_tst, elem_n, hx, hy, hal, sp_eq, hxy, szOk_small (n := ps.length + 1) (by omega), pD]
        rw [List.map_cons, forL_next st]
        obtain ⟨h1, h2⟩ := ap_loop m a b k ts (ps ++ [sp x y]) hd' (by simp; omega) (some (.val t.toD)) (some (.val (pD (sp x y)))) e f
        refine ⟨fun qs h => ?_, fun h => ?_⟩
        · cases e1 : apF m ts with
          | none => rw [e1] at h; cases h
          | some rs =>
            rw [e1] at h
            cases h
            obtain ⟨c', d', hr⟩ := h1 rs e1
            exact ⟨c', d', by rw [hr]; simp⟩
        · cases e1 : apF m ts with
          | none => exact h2 e1
          | some rs => rw [e1] at h; cases h
end
theorem ap_none {m : NM} : ∀ {ts : List Tst}, (∀ t ∈ ts, (num m t.a).isSome ∧ (num m t.b).isSome) → apF m ts = none → ∃ u ∈ ts, u.al = false ∧ num m u.a = num m u.b
  | [], _, h => nomatch h
  | t :: ts, hd, h => by
    have hd' := fun u hu => hd u (List.mem_cons_of_mem _ hu)
    obtain ⟨x, hx⟩ := Option.isSome_iff_exists.mp (hd t (by simp)).1
    obtain ⟨y, hy⟩ := Option.isSome_iff_exists.mp (hd t (by simp)).2
    simp only [apF, hx, hy] at h
    cases hal : t.al with
    | true =>
      simp only [hal, if_true] at h
      obtain ⟨u, hu, r⟩ := ap_none hd' h
      exact ⟨u, List.mem_cons_of_mem _ hu, r⟩
    | false =>
      simp only [hal, Bool.false_eq_true, if_false] at h
      by_cases hxy : x = y
      · exact ⟨t, by simp, hal, by rw [hx, hy, hxy]⟩
      · simp only [hxy, if_false, Option.map_eq_none_iff] at h
        obtain ⟨u, hu, r⟩ := ap_none hd' h
        exact ⟨u, List.mem_cons_of_mem _ hu, r⟩
theorem ap_some {m : NM} : ∀ {ts : List Tst} {ps : List (Int × Int)}, (∀ t ∈ ts, (num m t.a).isSome ∧ (num m t.b).isSome) → apF m ts = some ps → (∀ u ∈ ts, u.al = false → num m u.a ≠ num m u.b) ∧ ∀ q, q ∈ ps ↔ ∃ u ∈ ts, u.al = false ∧ ∃ x y, num m u.a = some x ∧ num m u.b = some y ∧ sp x y = q
  | [], ps, _, h => by cases h; simp
  | t :: ts, ps, hd, h => by
    have hd' := fun u hu => hd u (List.mem_cons_of_mem _ hu)
    obtain ⟨x, hx⟩ := Option.isSome_iff_exists.mp (hd t (by simp)).1
    obtain ⟨y, hy⟩ := Option.isSome_iff_exists.mp (hd t (by simp)).2
    simp only [apF, hx, hy] at h
    cases hal : t.al with
    | true =>
      simp only [hal, if_true] at h
      obtain ⟨h1, h2⟩ := ap_some hd' h
      refine ⟨fun u hu hau => ?_, fun q => ?_⟩
      · rcases List.mem_cons.mp hu with rfl | hu
        · rw [hal] at hau; cases hau
        · exact h1 u hu hau
      · rw [h2]
        constructor
        · rintro ⟨u, hu, r⟩; exact ⟨u, List.mem_cons_of_mem _ hu, r⟩
        · rintro ⟨u, hu, hau, r⟩
          rcases List.mem_cons.mp hu with rfl | hu
          · rw [hal] at hau; cases hau
          · exact ⟨u, hu, hau, r⟩
    | false =>
      simp only [hal, Bool.false_eq_true, if_false] at h
      by_cases hxy : x = y
      · rw [if_pos hxy] at h; cases h
      · simp only [hxy, if_false] at h
        cases e1 : apF m ts with
        | none => rw [e1] at h; cases h
        | some rs =>
          rw [e1] at h
          cases h
          obtain ⟨h1, h2⟩ := ap_some hd' e1
          refine ⟨fun u hu hau => ?_, fun q => ?_⟩
          · rcases List.mem_cons.mp hu with rfl | hu
            · rw [hx, hy]; simpa using hxy
            · exact h1 u hu hau
          · rw [List.mem_cons, h2]
            constructor
            · rintro (rfl | ⟨u, hu, r⟩)
              · exact ⟨t, by simp, hal, x, y, hx, hy, rfl⟩
              · exact ⟨u, List.mem_cons_of_mem _ hu, r⟩
            · rintro ⟨u, hu, hau, x', y', e2, e3, e4⟩
              rcases List.mem_cons.mp hu with rfl | hu
              · rw [hx] at e2; rw [hy] at e3; cases e2; cases e3; exact .inl e4.symm
              · exact .inr ⟨u, hu, hau, x', y', e2, e3, e4⟩
theorem sp_iff (a b c d : Int) : sp a b = sp c d ↔ (a = c ∧ b = d) ∨ (a = d ∧ b = c) := by
  unfold sp
  constructor
  · intro h
    split at h <;> split at h <;> simp at h <;> omega
  · rintro (⟨rfl, rfl⟩ | ⟨rfl, rfl⟩)
    · rfl
    · split <;> split <;> simp <;> omega
theorem in_ap (q : Int × Int) : ∀ ps : List (Int × Int), inD (pD q) (.list (ps.map pD)) = some (decide (q ∈ ps)) := by
  intro ps
  unfold inD
  have h1 : (ps.map pD).all (fun z => cmpb 50 z (pD q)) = true := by
    rw [List.all_map, List.all_eq_true]
    intro p _
    simp [pD, cmpb]
  have h2 : (ps.map pD).any (fun z => eqx z (pD q)) = decide (q ∈ ps) := by
    clear h1
    induction ps with
    | nil => simp
    | cons p ps ih =>
      rw [List.map_cons, List.any_cons, ih]
      obtain ⟨a, b⟩ := p
      obtain ⟨c, d⟩ := q
      simp only [pD, eqx, eqxs, Bool.and_true, List.mem_cons, Prod.mk.injEq]
      rw [Bool.eq_iff_iff]
      by_cases h : (c, d) ∈ ps <;> simp [h]
      constructor <;> rintro ⟨rfl, rfl⟩ <;> simp
  simp only [h1, if_true, h2]
/-- what test_follows tells is so -/
theorem run_test_follows (ts : List Tst) (t : Tst) (g : List Str) (as : List Atm) (hl : ts.length ≤ 50) (gl : g.length ≤ 20) (ok : ∀ u ∈ ts, u.Ok g) (okt : t.Ok g) (has : ∀ u ∈ ts ++ [t], (∀ a, u.a = .atom a → a ∈ as) ∧ ∀ a, u.b = .atom a → a ∈ as) (n : Nat) :
    ∃ b, runN (n + 2) 22 [.val (.tuple (ts.map Tst.toD)), .val t.toD] = .ret (.val (.bool b)) [] ∧ Follows ts t g as b := by
  obtain ⟨N, ia, ib, nd, dm⟩ := nums_ok ts t.a t.b (P := fun i => i.Ok g ∧ ∀ a, i = .atom a → a ∈ as) (fun u hu => ⟨⟨(ok u hu).1, (has u (List.mem_append_left _ hu)).1⟩, (ok u hu).2, (has u (List.mem_append_left _ hu)).2⟩) ⟨okt.1, (has t (by simp)).1⟩ ⟨okt.2, (has t (by simp)).2⟩
  have hc := run_classes (ts ++ [⟨false, t.a, t.b⟩]) (by simp; omega) n
  have hml : (nums (ts ++ [⟨false, t.a, t.b⟩])).length ≤ 900 := by
    have h1 := ph1_len (ts ++ [⟨false, t.a, t.b⟩]) []
    have h2 := congrArg List.length (ph2_keys (ts ++ [⟨false, t.a, t.b⟩]) (ph1 (ts ++ [⟨false, t.a, t.b⟩]) []))
    simp at h1 h2
    show (ph2 _ _).length ≤ 900
    rw [h2]
    omega
  generalize nums (ts ++ [⟨false, t.a, t.b⟩]) = m at *
  have C : Ctx0 ts t g as (num m) := ⟨N, ia, ib, gl, fun x hx => (dm _ hx).1.2, fun a ha => (dm _ ha).1, fun a ha => (dm _ ha).2 a rfl⟩
  have hw := run_written m hml n
  obtain ⟨x, hx⟩ := Option.isSome_iff_exists.mp ia
  obtain ⟨y, hy⟩ := Option.isSome_iff_exists.mp ib
  have eadd : binD .add (.tuple (ts.map Tst.toD)) (.tuple [.tuple [.str (S "unlike"), t.a.toD, t.b.toD]]) = some (.val (.tuple ((ts ++ [(⟨false, t.a, t.b⟩ : Tst)]).map Tst.toD))) := by
    simp [szOk_small (n := ts.length + 1) (by omega), Tst.toD, alS]
  obtain ⟨w1, w2⟩ := wc_ok m (m.map (·.1)) [] (fun k hk => num_keys.mpr hk) nd (by simp) (by simp)
  obtain ⟨p1, p2⟩ := ap_loop (runN (n + 1)) subT 1000 m (some (.val (.tuple (ts.map Tst.toD)))) (some (.val t.toD)) (match wc m (m.map (·.1)) [] with
    | some f => some (kvW f)
    | none => none) ts [] N.dom (by simp; omega) none none none none
  simp only [List.map_append, List.map_cons, List.map_nil] at hc eadd
  rw [rn_test_follows]
  cases e : wc m (m.map (·.1)) [] with
  | none =>
    rw [e] at hw
    obtain ⟨a, b, c, ne, h1, h2⟩ := w2 e
    refine ⟨true, ?_, fol_vac (clash N h1 h2 ne)⟩
    simp [evF, ir_test_follows, retR, e1_tst, e2_tst, eadd, hc, hw]
  | some f =>
    rw [e] at hw p1 p2
    dsimp only at hw p1 p2
    obtain ⟨f1, f2⟩ := w1 f e
    have U : ∀ a b c, num m (.atom a) = some c → num m (.atom b) = some c → a = b := fun a b c h1 h2 =>
      f2 c a b ((f1 c a).mpr (.inr ⟨num_keys.mp (by rw [h1]; rfl), h1⟩)) ((f1 c b).mpr (.inr ⟨num_keys.mp (by rw [h2]; rfl), h2⟩))
    have kn : ∀ c, knw f c = true ↔ Known (num m) c := fun c => by
      rw [knw_iff]
      constructor
      · rintro ⟨a, h⟩
        rcases (f1 c a).mp h with h | ⟨_, h⟩
        · simp at h
        · exact ⟨a, h⟩
      · rintro ⟨a, h⟩
        exact ⟨a, (f1 c a).mpr (.inr ⟨num_keys.mp (by rw [h]; rfl), h⟩)⟩
    cases ea : apF m ts with
    | none =>
      obtain ⟨u, hu, hal, q⟩ := ap_none N.dom ea
      obtain ⟨e', hr⟩ := p2 ea
      refine ⟨true, ?_, fol_apart C hu hal q⟩
      simp [evF, ir_test_follows, retR, e1_tst, e2_tst, eadd, hc, hw, kvD]
      simp [apW] at hr
      rw [hr]
      rfl
    | some ps =>
      obtain ⟨un, hps⟩ := ap_some N.dom ea
      obtain ⟨c', d', hr⟩ := p1 ps ea
      simp only [List.map_nil, apW, List.nil_append] at hr
      cases hal : t.al with
      | true =>
        refine ⟨decide (x = y), ?_, ?_⟩
        · simp [evF, ir_test_follows, retR, e0_tst, e1_tst, e2_tst, eadd, hc, hw, kvD, hr, elem_n, hx, hy, hal]
          rw [Bool.eq_iff_iff]
          simp
        · by_cases hxy : x = y
          · rw [decide_eq_true hxy]
            exact fol_yes C hal (by rw [hx, hy, hxy])
          · rw [decide_eq_false hxy]
            refine fol_no C U un ?_
            rw [hx, hy, hal]
            simpa using hxy
      | false =>
        by_cases hxy : x = y
        · refine ⟨false, ?_, fol_no C U un (by rw [hx, hy, hal]; simpa using hxy)⟩
          simp [evF, ir_test_follows, retR, e0_tst, e1_tst, e2_tst, eadd, hc, hw, kvD, hr, elem_n, hx, hy, hal, hxy]
        · have eD : (W.lst (ps.map fun p => .val (pD p))).toD = some (.list (ps.map pD)) := by
            rw [W.toD_lst]
            have := toDs_vals (ps.map pD)
            rw [List.map_map] at this
            rw [show (fun p => W.val (pD p)) = W.val ∘ pD from rfl, this]
            rfl
          refine ⟨(knw f x && knw f y) || decide (sp x y ∈ ps), ?_, ?_⟩
          · have ip := in_ap (sp x y) ps
            simp only [pD] at ip
            have ik1 := in_k x f
            have ik2 := in_k y f
            simp only [kvD] at ik1 ik2
            simp [evF, ir_test_follows, retR, e0_tst, e1_tst, e2_tst, eadd, hc, hw, kvD, hr, elem_n, hx, hy, hal, hxy, ik1, ik2]
            cases knw f x <;> cases knw f y <;> simp [ip, eD]
          · have hk : (sp x y ∈ ps) ↔ ∃ u ∈ ts, u.al = false ∧ ((num m u.a = some x ∧ num m u.b = some y) ∨ (num m u.a = some y ∧ num m u.b = some x)) := by
              rw [hps]
              constructor
              · rintro ⟨u, hu, hau, a, b, h1, h2, h3⟩
                refine ⟨u, hu, hau, ?_⟩
                rcases (sp_iff a b x y).mp h3 with ⟨rfl, rfl⟩ | ⟨rfl, rfl⟩
                · exact .inl ⟨h1, h2⟩
                · exact .inr ⟨h1, h2⟩
              · rintro ⟨u, hu, hau, ⟨h1, h2⟩ | ⟨h1, h2⟩⟩
                · exact ⟨u, hu, hau, _, _, h1, h2, rfl⟩
                · exact ⟨u, hu, hau, _, _, h1, h2, (sp_iff _ _ _ _).mpr (.inr ⟨rfl, rfl⟩)⟩
            by_cases hb : (knw f x && knw f y) || decide (sp x y ∈ ps)
            · rw [hb]
              refine fol_unlike_yes C U hal hx hy hxy ?_
              simp only [Bool.or_eq_true, Bool.and_eq_true, decide_eq_true_eq, kn, hk] at hb
              exact hb
            · have hb' : ((knw f x && knw f y) || decide (sp x y ∈ ps)) = false := by simpa using hb
              rw [hb']
              simp only [Bool.or_eq_true, Bool.and_eq_true, decide_eq_true_eq, kn, hk, not_or] at hb
              exact fol_unlike_no C U un hal hx hy hb.1 hb.2
end TA

set_option Elab.async false
set_option linter.all false
set_option maxRecDepth 100000
/-! Pu11: follows, open_part. -/
namespace TA
open PySem
def nmsOf (prs : List (Str × Str)) : List Str := prs.map (·.1)
theorem Itm.Ok.mono {g : List Str} {i : Itm} (h : i.Ok g) (x : Str) : i.Ok (g ++ [x]) := by
  cases i with
  | name y => exact ⟨h.1, List.mem_append_left _ h.2⟩
  | atom a => exact h
theorem Tst.Ok.mono {g : List Str} {t : Tst} (h : t.Ok g) (x : Str) : t.Ok (g ++ [x]) := ⟨h.1.mono x, h.2.mono x⟩
/-- what is so at each place -/
structure Spot.Ok (s : Spot) : Prop where
  p : s.p.Ok (nmsOf s.prs)
  ts : ∀ u ∈ s.ts, u.Ok (nmsOf s.prs)
  nd : (nmsOf s.prs).Nodup
  nn : ∀ x ∈ nmsOf s.prs, x ∈ nms
theorem spots_ok : ∀ (p : Prt) {pl : List Int} {prs : List (Str × Str)} {ts : List Tst}, (⟨pl, p, prs, ts⟩ : Spot).Ok → ∀ s ∈ p.spots pl prs ts, s.Ok ∧ s.prs.length ≤ prs.length + p.nm ∧ s.ts.length ≤ ts.length + p.sz
  | .none, pl, prs, ts, h, s, hs => by simp [Prt.spots] at hs; subst hs; exact ⟨h, by simp, by simp⟩
  | .give is, pl, prs, ts, h, s, hs => by simp [Prt.spots] at hs; subst hs; exact ⟨h, by simp, by simp⟩
  | .each x r p, pl, prs, ts, h, s, hs => by
    rw [Prt.spots, List.mem_cons] at hs
    rcases hs with rfl | hs
    · exact ⟨h, by simp, by simp⟩
    · obtain ⟨hx, hn, _, hp⟩ := h.p
      obtain ⟨h1, h2, h3⟩ := spots_ok p (pl := pl ++ [3]) (prs := prs ++ [(x, r)]) (ts := ts) ⟨by simpa [nmsOf] using hp, fun u hu => by
        have := (h.ts u hu).mono x
        simpa [nmsOf] using this, by
        have := h.nd
        simp only [nmsOf] at this hn ⊢
        rw [List.map_append, List.nodup_append]
        exact ⟨this, by simp, fun a ha b hb => by simp at hb; subst hb; exact fun z => hn (z ▸ ha)⟩, fun y hy => by
        simp only [nmsOf, List.map_append, List.mem_append, List.map_cons, List.map_nil, List.mem_singleton] at hy
        rcases hy with hy | rfl
        · exact h.nn y hy
        · exact hx⟩ s hs
      exact ⟨h1, by simp at h2; simp [Prt.nm]; omega, by simp [Prt.sz]; omega⟩
  | .last v i p, pl, prs, ts, h, s, hs => by
    rw [Prt.spots, List.mem_cons] at hs
    rcases hs with rfl | hs
    · exact ⟨h, by simp, by simp⟩
    · obtain ⟨h1, h2, h3⟩ := spots_ok p (pl := pl ++ [3]) (prs := prs) (ts := ts) ⟨h.p.2.2, h.ts, h.nd, h.nn⟩ s hs
      exact ⟨h1, by simp [Prt.nm]; omega, by simp [Prt.sz]; omega⟩
  | .when t p, pl, prs, ts, h, s, hs => by
    rw [Prt.spots, List.mem_cons] at hs
    rcases hs with rfl | hs
    · exact ⟨h, by simp, by simp⟩
    · obtain ⟨h1, h2, h3⟩ := spots_ok p (pl := pl ++ [2]) (prs := prs) (ts := ts ++ [t]) ⟨h.p.2, fun u hu => by
        rcases List.mem_append.mp hu with hu | hu
        · exact h.ts u hu
        · simp at hu; subst hu; exact h.p.1, h.nd, h.nn⟩ s hs
      exact ⟨h1, by simp [Prt.nm]; omega, by simp at h3; simp [Prt.sz]; omega⟩
  | .choice p q, pl, prs, ts, h, s, hs => by
    rw [Prt.spots, List.mem_cons, List.mem_append] at hs
    rcases hs with rfl | hs | hs
    · exact ⟨h, by simp, by simp⟩
    · obtain ⟨h1, h2, h3⟩ := spots_ok p (pl := pl ++ [1]) (prs := prs) (ts := ts) ⟨h.p.1, h.ts, h.nd, h.nn⟩ s hs
      exact ⟨h1, by simp [Prt.nm]; omega, by simp [Prt.sz]; omega⟩
    · obtain ⟨h1, h2, h3⟩ := spots_ok q (pl := pl ++ [2]) (prs := prs) (ts := ts) ⟨h.p.2, h.ts, h.nd, h.nn⟩ s hs
      exact ⟨h1, by simp [Prt.nm]; omega, by simp [Prt.sz]; omega⟩
theorem Prt.Bnd.spot {R V : List Str} {p : Prt} (b : p.Bnd R V) {s : Spot} (hs : s ∈ p.spots [] [] []) : s.Ok ∧ s.prs.length ≤ 3 ∧ s.ts.length ≤ 40 := by
  obtain ⟨h1, h2, h3⟩ := spots_ok p (pl := []) (prs := []) (ts := []) ⟨b.ok, by simp, by simp [nmsOf], by simp [nmsOf]⟩ s hs
  have := b.nm
  have := b.sz
  exact ⟨h1, by simp at h2; omega, by simp at h3; omega⟩
theorem e0_prD (x : Str × Str) : elemD (prD x) (.int 0) = some (.str x.1) := by simp [prD]
theorem run_names (s : Spot) (h : s.prs.length ≤ 100) (n : Nat) : runN (n + 1) 25 [.val s.toD] = .ret (.val (gD (nmsOf s.prs))) [] := by
  have e2 : elemD s.toD (.int 2) = some (.tuple (s.prs.map prD)) := by simp [Spot.toD, spD]
  have hs : ∀ d ∈ s.prs.map prD, stepL (runN n) [1] false (.idx (.loc 1) (.lit (.int (0)))) (.lit (.bool true)) [1] d [some (.val s.toD), none] = .ok ([some (.val s.toD), none], some (.val (match d with
      | .tuple (.str x :: _) => .str x
      | _ => .none))) := fun d hd => by
    obtain ⟨x, _, rfl⟩ := List.mem_map.mp hd
    simp [stepL, e0_prD]
    rfl
  have c := compL_map (acc := []) hs (by simp; omega)
  rw [List.map_map, List.nil_append] at c
  have e3 : ((fun d : D => W.val (match d with
      | .tuple (.str x :: _) => .str x
      | _ => .none)) ∘ prD) = fun x => W.val (.str x.1) := rfl
  rw [e3] at c
  have e4 : W.toDs (s.prs.map fun x => W.val (.str x.1)) = some ((nmsOf s.prs).map .str) := by
    have := toDs_vals ((nmsOf s.prs).map .str)
    simp only [nmsOf, List.map_map] at this ⊢
    exact this
  rw [rn_names_of]
  simp [evF, ir_names_of, retR, e2, c, e4]
theorem run_checked {d : D} {t : Tst} {g : List Str} (h : frz d = t.toD) (ok : t.Ok g) (n : Nat) : runN (n + 6) 23 [.val d, .val (gD g)] = .ret (.val t.toD) [] := by
  have h1 := test_ok h ok (n + 1)
  have sm : Sm 2 d := Sm.frz (by rw [h]; exact sm_tst ok)
  have h2 := run_frozen sm (n + 5) (by omega)
  rw [rn_checked_test]
  simp [evF, ir_checked_test, retR, h1, h2, h]
theorem run_check_bad {d : D} {g : List Str} {x : List D} {n : Nat} (h : runN (n + 1) 7 [.val d, .val (gD g)] = .ret (.val (.tuple x)) []) : runN (n + 2) 23 [.val d, .val (gD g)] = .exc 3 d := by
  rw [rn_checked_test]
  simp [evF, ir_checked_test, retR, h]
/-- the atoms of tests -/
def AtIn (as : List Atm) (u : Tst) : Prop := (∀ a, u.a = .atom a → a ∈ as) ∧ ∀ a, u.b = .atom a → a ∈ as
theorem run_follows {R V : List Str} {p : Prt} {d pd td : D} (h : frz d = p.toD) (b : p.Bnd R V) {s : Spot} (hs : s ∈ p.spots [] [] []) (hp : IsRow pd (s.pl.map .int)) {t : Tst} (ht : frz td = t.toD) (okt : t.Ok (nmsOf s.prs)) (as : List Atm) (has : ∀ u ∈ s.ts ++ [t], AtIn as u) (n : Nat) :
    ∃ k, runN (n + 33) 24 [.val d, .val pd, .val td] = .ret (.val (.bool k)) [] ∧ Follows s.ts t (nmsOf s.prs) as k := by
  obtain ⟨so, l1, l2⟩ := b.spot hs
  obtain ⟨k, h1, hf⟩ := run_test_follows s.ts t (nmsOf s.prs) as (by omega) (by simp [nmsOf]; omega) so.ts okt has (n + 30)
  refine ⟨k, ?_, hf⟩
  have h2 := run_opened h b n
  have h3 := run_found b.ok (by have := b.sz; omega) hs hp (n + 29)
  have h4 := run_names s (by omega) (n + 31)
  have h5 := run_checked ht okt (n + 26)
  have e3 : elemD s.toD (.int 3) = some (.tuple (s.ts.map Tst.toD)) := by simp [Spot.toD, spD]
  rw [rn_follows]
  simp [evF, ir_follows, retR, h2, h3, h4, h5, e3, h1]
/-- .. refused: no part there -/
theorem run_follows_place {R V : List Str} {p : Prt} {d pd td : D} (h : frz d = p.toD) (b : p.Bnd R V) {n : Nat} (hp : runN (n + 32) 18 [.val p.toD, .val pd] = .exc 1 pd) : runN (n + 33) 24 [.val d, .val pd, .val td] = .exc 1 pd := by
  have h2 := run_opened h b n
  rw [rn_follows]
  simp [evF, ir_follows, retR, h2, hp]
theorem run_follows_test {R V : List Str} {p : Prt} {d pd td : D} (h : frz d = p.toD) (b : p.Bnd R V) {s : Spot} (hs : s ∈ p.spots [] [] []) (hp : IsRow pd (s.pl.map .int)) {n : Nat} (ht : runN (n + 32) 23 [.val td, .val (gD (nmsOf s.prs))] = .exc 3 td) : runN (n + 33) 24 [.val d, .val pd, .val td] = .exc 3 td := by
  obtain ⟨so, l1, l2⟩ := b.spot hs
  have h2 := run_opened h b n
  have h3 := run_found b.ok (by have := b.sz; omega) hs hp (n + 29)
  have h4 := run_names s (by omega) (n + 31)
  have e3 : elemD s.toD (.int 3) = some (.tuple (s.ts.map Tst.toD)) := by simp [Spot.toD, spD]
  rw [rn_follows]
  simp [evF, ir_follows, retR, h2, h3, h4, e3, ht]
theorem run_open_part_place {R V : List Str} {p : Prt} {d pd : D} (h : frz d = p.toD) (b : p.Bnd R V) {n : Nat} (hp : runN (n + 32) 18 [.val p.toD, .val pd] = .exc 1 pd) : runN (n + 33) 19 [.val d, .val pd] = .exc 1 pd := by
  have h2 := run_opened h b n
  rw [rn_open_part]
  simp [evF, ir_open_part, retR, h2, hp]
end TA

set_option Elab.async false
set_option linter.all false
set_option maxRecDepth 100000
/-! Pu12: the law's own trying. -/
namespace TA
open PySem
def atsD (as : List Atm) : D := .list (as.map Atm.toD)
abbrev atsW (as : List Atm) : W := .lst (as.map fun a => .val a.toD)
theorem atsW_toD (as : List Atm) : (atsW as).toD = some (atsD as) := by
  rw [atsW, W.toD_lst]
  have := toDs_vals (as.map Atm.toD)
  rw [List.map_map] at this
  rw [show (fun a : Atm => W.val a.toD) = W.val ∘ Atm.toD from rfl, this]
  rfl
theorem eqD_at (a b : Atm) : eqD a.toD b.toD = some (decide (a = b)) := by
  cases a <;> cases b <;> simp [Atm.toD, eqD, isDict, eqx]
  · rw [Bool.eq_iff_iff]; simp
  · rw [Bool.eq_iff_iff]; simp
theorem eqx_at (a b : Atm) : eqx a.toD b.toD = decide (a = b) := by
  cases a <;> cases b <;> simp [Atm.toD, eqx]
  · rw [Bool.eq_iff_iff]; simp
  · rw [Bool.eq_iff_iff]; simp
theorem cmpb_at (n : Nat) (a b : Atm) : cmpb n a.toD b.toD = true := by cases a <;> cases b <;> simp [Atm.toD]
theorem in_at (a : Atm) (as : List Atm) : inD a.toD (atsD as) = some (decide (a ∈ as)) := by
  unfold inD atsD
  have h1 : (as.map Atm.toD).all (fun z => cmpb 50 z a.toD) = true := by
    rw [List.all_map, List.all_eq_true]
    intro p _
    exact cmpb_at 50 p a
  have h2 : (as.map Atm.toD).any (fun z => eqx z a.toD) = decide (a ∈ as) := by
    clear h1
    induction as with
    | nil => simp
    | cons b as ih =>
      rw [List.map_cons, List.any_cons, ih, eqx_at, Bool.eq_iff_iff]
      simp only [Bool.or_eq_true, decide_eq_true_eq, List.mem_cons]
      exact or_congr eq_comm Iff.rfl
  simp only [h1, if_true, h2]
/-- what an item is, list or tuple -/
theorem itm_row {d : D} {i : Itm} (h : frz d = i.toD) : ∃ p, IsRow d [.str (match i with | .name _ => S "name" | .atom _ => S "atom"), p] ∧ (∀ x, i = .name x → p = .str x) ∧ ∀ a, i = .atom a → p = a.toD := by
  cases i with
  | name x => exact ⟨.str x, frz_name h, (fun y e => by cases e; rfl), (fun y e => nomatch e)⟩
  | atom a => exact ⟨a.toD, frz_atom h, (fun y e => nomatch e), (fun y e => by cases e; rfl)⟩
def addA (as : List Atm) : Itm → List Atm
  | .atom a => if a ∈ as then as else as ++ [a]
  | .name _ => as
def foundA (ts : List Tst) (as : List Atm) : List Atm := ts.foldl (fun as t => addA (addA as t.a) t.b) as
theorem addA_len (as : List Atm) (i : Itm) : (addA as i).length ≤ as.length + 1 := by
  cases i with
  | name x => simp [addA]
  | atom a => simp only [addA]; split <;> simp
theorem foundA_len : ∀ (ts : List Tst) (as : List Atm), (foundA ts as).length ≤ as.length + 2 * ts.length
  | [], as => by simp [foundA]
  | t :: ts, as => by
    have := foundA_len ts (addA (addA as t.a) t.b)
    have h1 := addA_len as t.a
    have h2 := addA_len (addA as t.a) t.b
    simp only [foundA, List.foldl_cons, List.length_cons] at *
    omega
theorem addA_sub {as : List Atm} {i : Itm} {a : Atm} : a ∈ addA as i ↔ a ∈ as ∨ i = .atom a := by
  cases i with
  | name x => simp [addA]
  | atom b =>
    simp only [addA, Itm.atom.injEq]
    split
    · rename_i h
      constructor
      · exact .inl
      · rintro (h | rfl)
        · exact h
        · assumption
    · simp [eq_comm]
theorem foundA_sub {a : Atm} : ∀ {ts : List Tst} {as : List Atm}, a ∈ foundA ts as ↔ a ∈ as ∨ ∃ t ∈ ts, t.a = .atom a ∨ t.b = .atom a
  | [], as => by simp [foundA]
  | t :: ts, as => by
    have := foundA_sub (a := a) (ts := ts) (as := addA (addA as t.a) t.b)
    rw [foundA, List.foldl_cons]
    rw [foundA] at this
    rw [this, addA_sub, addA_sub]
    simp only [List.mem_cons, exists_eq_or_imp, or_assoc]
theorem IsRow.target {d : D} {ds : List D} (h : IsRow d ds) (env : Env) (is : List Nat) : env.target is true d = Env.putT is ds env := by rcases h with rfl | rfl <;> rfl
section
variable (F : Nat → List W → FRes) (sub : Subs) (fu : Nat)
theorem pool_turn0 {d : D} {i : Itm} (h : frz d = i.toD) (as : List Atm) (hl : as.length ≤ 1000) (a b c e f x y z : Option W) : turnF F sub fu [] [6] false lb__law_pool_0 d [a, b, some (atsW as), c, e, f, x, y, z] = .next [a, b, some (atsW (addA as i)), c, e, f, some (.val d), y, z] := by
  obtain ⟨p, r, h1, h2⟩ := itm_row h
  cases i with
  | name n => simp [turnF, lb__law_pool_0, r.elem, addA]
  | atom n =>
    have e1 := atsW_toD as
    rw [atsW, W.toD_lst] at e1
    have e2 := in_at n as
    rw [h2 n rfl] at r
    by_cases hm : n ∈ as
    · simp [turnF, lb__law_pool_0, r.elem, addA, e1, e2, hm]
    · simp [turnF, lb__law_pool_0, r.elem, addA, e1, e2, hm, szOk_small (n := as.length + 1) (by omega)]
theorem pool_turn1 {d : D} {t : Tst} (h : frz d = t.toD) (as : List Atm) (hl : as.length ≤ 900) (a b c e f x y z : Option W) : ∃ c' e' f' x', turnF F sub fu [] [3, 4, 5] true lb__law_pool_1 d [a, b, some (atsW as), c, e, f, x, y, z] = .next [a, b, some (atsW (addA (addA as t.a) t.b)), c', e', f', x', y, z] := by
  obtain ⟨p, q, r, hp, hq⟩ := frz_test h
  have h1 := addA_len as t.a
  refine ⟨some (.val (.str (alS t.al))), some (.val p), some (.val q), some (.val q), ?_⟩
  unfold turnF
  rw [r.target]
  simp [lb__law_pool_1]
  have e1 := pool_turn0 F sub fu hp as (by omega) a b (some (.val (.str (alS t.al)))) (some (.val p)) (some (.val q)) x y z
  have e2 := pool_turn0 F sub fu hq (addA as t.a) (by omega) a b (some (.val (.str (alS t.al)))) (some (.val p)) (some (.val q)) (some (.val p)) y z
  simp only [atsW] at e1 e2 ⊢
  rw [e1]
  dsimp only
  rw [e2]
  rfl
theorem pool_loop (a b y z : Option W) : ∀ (ds : List D) (ts : List Tst) (as : List Atm), ds.map frz = ts.map Tst.toD → as.length + 2 * ts.length ≤ 900 → ∀ c e f x : Option W, ∃ c' e' f' x', forL (turnF F sub fu [] [3, 4, 5] true lb__law_pool_1) ds [a, b, some (atsW as), c, e, f, x, y, z] = .next [a, b, some (atsW (foundA ts as)), c', e', f', x', y, z]
  | [], [], as, _, _, c, e, f, x => ⟨c, e, f, x, rfl⟩
  | [], _ :: _, _, h, _, _, _, _, _ => by simp at h
  | _ :: _, [], _, h, _, _, _, _, _ => by simp at h
  | d :: ds, t :: ts, as, h, hl, c, e, f, x => by
    simp only [List.map_cons, List.cons.injEq] at h
    simp only [List.length_cons] at hl
    have h1 := addA_len as t.a
    have h2 := addA_len (addA as t.a) t.b
    obtain ⟨c1, e1, f1, x1, st⟩ := pool_turn1 F sub fu h.1 as (by omega) a b c e f x y z
    obtain ⟨c2, e2, f2, x2, hr⟩ := pool_loop a b y z ds ts (addA (addA as t.a) t.b) h.2 (by omega) c1 e1 f1 x1
    exact ⟨c2, e2, f2, x2, by rw [forL_next st]; exact hr⟩
end
theorem run_pool {ds : List D} {ts : List Tst} {g : List Str} (h : ds.map frz = ts.map Tst.toD) (hl : ts.length ≤ 100) (gl : g.length ≤ 20) (ok : ∀ t ∈ ts, t.Ok g) (n : Nat) : runN (n + 1) 38 [.val (.list ds), .val (.int g.length)] = .ret (atsW (pool (foundA ts []) g)) [] := by
  obtain ⟨c, e, f, x, hr⟩ := pool_loop (runN n) subT 1000 (some (.val (.list ds))) (some (.val (.int g.length))) none none ds ts [] h (by simp; omega) none none none none
  have hf := foundA_len ts []
  have fresh : ∀ k : Nat, k < 20 → (Atm.i (900 + k)) ∉ foundA ts [] := fun k hk hm => by
    rw [foundA_sub] at hm
    rcases hm with hm | ⟨t, ht, hm⟩
    · simp at hm
    · obtain ⟨o1, o2⟩ := ok t ht
      rcases hm with hm | hm
      · rw [hm] at o1; simp only [Itm.Ok, AtOk] at o1; omega
      · rw [hm] at o2; simp only [Itm.Ok, AtOk] at o2; omega
  generalize foundA ts [] = as at *
  have e1 := atsW_toD as
  rw [atsW, W.toD_lst] at e1
  have st : ∀ d ∈ (List.range 20).map (fun (k : Nat) => PyData.int (900 + k)), stepL (runN n) [8] false (.loc 8) (.cmp .notin (.loc 8) (.loc 2)) [8] d [some (.val (.list ds)), some (.val (.int g.length)), some (atsW as), c, e, f, x, none, none] = .ok ([some (.val (.list ds)), some (.val (.int g.length)), some (atsW as), c, e, f, x, none, none], some (.val d)) := fun d hd => by
    obtain ⟨k, hk, rfl⟩ := List.mem_map.mp hd
    have e2 := in_at (.i (900 + (k : Nat))) as
    rw [decide_eq_false (fresh k (List.mem_range.mp hk))] at e2
    simp only [Atm.toD] at e2
    simp [stepL, e1, e2]
  have c1 := compL_map (g := W.val) (acc := []) st (by simp)
  have rg : itemsOf .rng2 [.val (.int 900), .val (.int 920)] = some ((List.range 20).map fun (k : Nat) => .int (900 + k)) := by simp [itemsOf]
  have e3 : W.toDs (as.map fun a => W.val a.toD) = some (as.map Atm.toD) := by
    have := toDs_vals (as.map Atm.toD)
    rw [List.map_map] at this
    exact this
  have cut : cutL ((List.range 20).map fun (k : Nat) => PyData.int (900 + k)) none (some (g.length : Int)) = (List.range g.length).map fun (k : Nat) => .int (900 + k) := by
    have s2 : TA.sIx 20 20 (some (g.length : Int)) = g.length := by
      simp only [TA.sIx]
      rw [if_neg (by omega)]
      simp only [Int.toNat_natCast]
      omega
    have s1 : TA.sIx 20 0 none = 0 := rfl
    unfold cutL
    simp only [List.length_map, List.length_range, s1, s2, List.drop_zero, Nat.sub_zero]
    rw [← List.map_take, List.take_range]
    congr 2
  have e4 : W.toD (.lst (((List.range 20).map fun (k : Nat) => PyData.int (900 + k)).map W.val)) = some (.list ((List.range 20).map fun (k : Nat) => .int (900 + k))) := by rw [W.toD_lst, toDs_vals]; rfl
  have e5 : W.flat (.lst (((List.range 20).map fun (k : Nat) => PyData.int (900 + k)).map W.val)) = some (.list ((List.range 20).map fun (k : Nat) => .int (900 + k))) := by rw [flat_lst, valsW_map]; rfl
  have e6 : W.toDs ((List.range g.length).map (W.val ∘ fun (k : Nat) => PyData.int (900 + k))) = some ((List.range g.length).map fun (k : Nat) => .int (900 + k)) := by
    rw [← List.map_map, toDs_vals]
  rw [rn__law_pool]
  simp only [atsW, List.map_nil] at hr
  simp only [List.nil_append, List.map_map] at c1 cut e4 e5
  simp [evF, ir__law_pool, hr, rg, c1, retR, e3, e4, e5, e6, IE.isNo, partW, sliceD, cut, pool, szOk_small (n := as.length + g.length) (by simp at hf; omega)]
  rfl
end TA

set_option Elab.async false
set_option linter.all false
set_option maxRecDepth 100000
/-! Pu13: the law's own answer. -/
namespace TA
open PySem
@[simp] theorem toDs_comp {α : Type} (f : α → D) (l : List α) : W.toDs (l.map (W.val ∘ f)) = some (l.map f) := by
  rw [← List.map_map, toDs_vals]
@[simp] theorem toDs_lam {α : Type} (f : α → D) (l : List α) : W.toDs (l.map fun a => W.val (f a)) = some (l.map f) := toDs_comp f l
@[simp] theorem toDs_app : ∀ xs ys : List W, W.toDs (xs ++ ys) = (W.toDs xs).bind fun a => (W.toDs ys).map fun b => a ++ b
  | [], ys => by simp
  | x :: xs, ys => by
    rw [List.cons_append, W.toDs_cons, W.toDs_cons, toDs_app xs ys]
    cases W.toD x <;> cases W.toDs xs <;> cases W.toDs ys <;> rfl
abbrev EL := List (Str × Atm)
def enD (l : EL) : D := .dict (l.map fun e => (.str e.1, e.2.toD))
def enW (l : EL) : W := .dic (l.map fun e => .str e.1) (l.map fun e => .val e.2.toD)
def rhoL (l : EL) : Rho := fun x => match l.find? (fun e => decide (e.1 = x)) with
  | some e => e.2
  | none => .i 0
@[simp] theorem enW_toD (l : EL) : (enW l).toD = some (enD l) := by
  unfold enW enD
  rw [W.toD_dic]
  have : W.toDs (l.map fun e => W.val e.2.toD) = some (l.map fun e => e.2.toD) := by
    rw [← toDs_vals (l.map fun e => e.2.toD), List.map_map]; rfl
  rw [this, Option.map_some, zip_maps]
theorem look_en {α : Type} (f : Atm → α) (x : Str) : ∀ l : EL, look (l.map fun e => PyData.str e.1) (l.map fun e => f e.2) (.str x) = (l.find? fun e => decide (e.1 = x)).map fun e => f e.2
  | [] => rfl
  | (y, a) :: l => by
    have ih := look_en f x l
    simp only [List.map_cons, look, eqK_str, List.find?_cons]
    by_cases h : y = x
    · simp [h]
    · simp [h, ih]
theorem elem_en {l : EL} {x : Str} (h : x ∈ l.map (·.1)) : elemD (enD l) (.str x) = some (rhoL l x).toD := by
  rw [enD, elem_dict, if_pos (by rfl), List.map_map, List.map_map]
  have := look_en (fun a => a.toD) x l
  rw [show ((fun x : D × D => x.1) ∘ fun e : Str × Atm => (PyData.str e.1, e.2.toD)) = fun e => PyData.str e.1 from rfl, show ((fun x : D × D => x.2) ∘ fun e : Str × Atm => (PyData.str e.1, e.2.toD)) = fun e => e.2.toD from rfl, this]
  unfold rhoL
  cases e : l.find? fun e => decide (e.1 = x) with
  | some e => rfl
  | none =>
    rw [List.find?_eq_none] at e
    obtain ⟨q, hq, rfl⟩ := List.mem_map.mp h
    exact absurd (by simp) (e q hq)
theorem run_law_atom {d : D} {i : Itm} {l : EL} {g : List Str} (h : frz d = i.toD) (ok : i.Ok g) (hk : ∀ x ∈ g, x ∈ l.map (·.1)) (n : Nat) : runN (n + 1) 32 [.val d, .val (enD l)] = .ret (.val (i.ev (rhoL l)).toD) [] := by
  obtain ⟨p, r, h1, h2⟩ := itm_row h
  rw [rn__law_atom]
  cases i with
  | name x =>
    rw [h1 x rfl] at r
    simp [evF, ir__law_atom, retR, r.elem, elem_en (hk x ok.2), Itm.ev]
  | atom a =>
    rw [h2 a rfl] at r
    simp [evF, ir__law_atom, retR, r.elem, Itm.ev]
@[simp] theorem eqD_bool (a b : Bool) : eqD (.bool a) (.bool b) = some (a == b) := by simp [eqD, cmpb, isDict, eqx]
theorem run_passes {d : D} {t : Tst} {l : EL} {g : List Str} (h : frz d = t.toD) (ok : t.Ok g) (hk : ∀ x ∈ g, x ∈ l.map (·.1)) (n : Nat) : runN (n + 2) 33 [.val d, .val (enD l)] = .ret (.val (.bool (t.pass (rhoL l)))) [] := by
  obtain ⟨a, b, r, ha, hb⟩ := frz_test h
  have h1 := run_law_atom ha ok.1 hk n
  have h2 := run_law_atom hb ok.2 hk n
  rw [rn__law_passes]
  simp [evF, ir__law_passes, retR, r.elem, h1, h2, eqD_at, Tst.pass]
/-! ### all ways -/
def stepE (P : List Atm) (L : List EL) (x : Str) : List EL := L.flatMap fun l => P.map fun a => l ++ [(x, a)]
def envs (P : List Atm) (g : List Str) : List EL := g.foldl (stepE P) [[]]
theorem putW_en (x : Str) (a : Atm) : ∀ {l : EL}, x ∉ l.map (·.1) → putW (l.map fun e => PyData.str e.1) (l.map fun e => W.val e.2.toD) (.str x) (.val a.toD) = ((l ++ [(x, a)]).map fun e => PyData.str e.1, (l ++ [(x, a)]).map fun e => W.val e.2.toD)
  | [], _ => rfl
  | (y, b) :: l, h => by
    simp only [List.map_cons, List.mem_cons, not_or] at h
    have ih := putW_en x a (l := l) h.2
    simp only [List.map_cons, putW, eqK_str, beq_eq_false_iff_ne.mpr (Ne.symm h.1), Bool.false_eq_true, if_false, List.cons_append, ih]
theorem store_en (x : Str) (a : Atm) (l : EL) (h : l.length ≤ 1000) (hn : x ∉ l.map (·.1)) : storeW (enW l) (.val (.str x)) (.val a.toD) = some (enW (l ++ [(x, a)])) := by
  unfold enW storeW
  have h1 : (l.map fun e => PyData.str e.1).all (fun q => flatK q == flatK (.str x)) = true := by
    rw [List.all_map, List.all_eq_true]
    intro e _
    simp [flatK]
  simp only [W.toD_val, Option.bind_some, keyOk, h1, List.length_map, szOk_small (n := l.length + 1) (by omega), Bool.and_self, if_true]
  rw [putW_en x a hn]
theorem bdict_en (l : EL) : bltD .dict [enD l] = some (enW l) := by
  simp only [bltD, enD]
  have h1 : (l.map fun e => (PyData.str e.1, e.2.toD)).all (fun kv => flatK kv.1) = true := by
    rw [List.all_map, List.all_eq_true]
    intro e _
    rfl
  rw [if_pos h1]
  simp only [List.map_map]
  rfl
abbrev elsW (L : List EL) : W := .lst (L.map fun l => .val (enD l))
theorem elsW_toD (L : List EL) : (elsW L).toD = some (.list (L.map enD)) := by
  rw [elsW, W.toD_lst]
  have := toDs_vals (L.map enD)
  rw [List.map_map] at this
  rw [show (fun l : EL => W.val (enD l)) = W.val ∘ enD from rfl, this]
  rfl
section
variable (F : Nat → List W → FRes) (sub : Subs) (fu : Nat)
theorem alw_turn0 (l : EL) (x : Str) (a : Atm) (A : List EL) (hl : l.length ≤ 1000) (hA : A.length ≤ 1000000) (hn : x ∉ l.map (·.1)) (o0 o1 o2 o3 o4 o8 o9 oz : Option W) :
    turnF F sub fu [] [8] false lb__law_always_0 a.toD [o0, o1, o2, o3, o4, some (.val (.str x)), some (elsW A), some (.val (enD l)), o8, o9, oz] =
      .next [o0, o1, o2, o3, o4, some (.val (.str x)), some (elsW (A ++ [l ++ [(x, a)]])), some (.val (enD l)), some (.val a.toD), some (.val (enD (l ++ [(x, a)]))), oz] := by
  have e1 := bdict_en l
  have e2 := store_en x a l hl hn
  simp [turnF, lb__law_always_0, e1]
  rw [e2]
  simp [szOk_small (n := A.length + 1) (by omega)]
theorem alw_loop0 (l : EL) (x : Str) (hl : l.length ≤ 1000) (hn : x ∉ l.map (·.1)) (o0 o1 o2 o3 o4 oz : Option W) : ∀ (P : List Atm) (A : List EL), A.length + P.length ≤ 1000000 → ∀ o8 o9 : Option W, ∃ o8' o9',
    forL (turnF F sub fu [] [8] false lb__law_always_0) (P.map Atm.toD) [o0, o1, o2, o3, o4, some (.val (.str x)), some (elsW A), some (.val (enD l)), o8, o9, oz] =
      .next [o0, o1, o2, o3, o4, some (.val (.str x)), some (elsW (A ++ P.map fun a => l ++ [(x, a)])), some (.val (enD l)), o8', o9', oz]
  | [], A, _, o8, o9 => ⟨o8, o9, by simp⟩
  | a :: P, A, h, o8, o9 => by
    simp only [List.length_cons] at h
    obtain ⟨o8', o9', hr⟩ := alw_loop0 l x hl hn o0 o1 o2 o3 o4 oz P (A ++ [l ++ [(x, a)]]) (by simp; omega) (some (.val a.toD)) (some (.val (enD (l ++ [(x, a)]))))
    exact ⟨o8', o9', by rw [List.map_cons, forL_next (alw_turn0 F sub fu l x a A hl (by omega) hn _ _ _ _ _ _ _ _), hr]; simp⟩
theorem alw_turn1 (l : EL) (x : Str) (P : List Atm) (w3 : W) (h3 : w3.toD = some (atsD P)) (A : List EL) (hl : l.length ≤ 1000) (hA : A.length + P.length ≤ 1000000) (hn : x ∉ l.map (·.1)) (o0 o1 o2 o4 o7 o8 o9 oz : Option W) : ∃ o8' o9',
    turnF F sub fu [] [7] false lb__law_always_1 (enD l) [o0, o1, o2, some w3, o4, some (.val (.str x)), some (elsW A), o7, o8, o9, oz] =
      .next [o0, o1, o2, some (.val (atsD P)), o4, some (.val (.str x)), some (elsW (A ++ P.map fun a => l ++ [(x, a)])), some (.val (enD l)), o8', o9', oz] := by
  obtain ⟨o8', o9', hr⟩ := alw_loop0 F sub fu l x hl hn o0 o1 o2 (some (.val (atsD P))) o4 oz P A hA o8 o9
  refine ⟨o8', o9', ?_⟩
  have e : itemsD (atsD P) = some (P.map Atm.toD) := rfl
  simp [turnF, lb__law_always_1, h3, e]
  simp only [elsW] at hr
  rw [hr]
  simp
theorem alw_loop1 (x : Str) (P : List Atm) (o0 o1 o2 o4 oz : Option W) : ∀ (L : List EL) (w3 : W) (A : List EL), w3.toD = some (atsD P) → (∀ l ∈ L, l.length ≤ 1000 ∧ x ∉ l.map (·.1)) → A.length + L.length * P.length ≤ 1000000 → ∀ o7 o8 o9 : Option W, ∃ w3' o7' o8' o9', W.toD w3' = some (atsD P) ∧
    forL (turnF F sub fu [] [7] false lb__law_always_1) (L.map enD) [o0, o1, o2, some w3, o4, some (.val (.str x)), some (elsW A), o7, o8, o9, oz] =
      .next [o0, o1, o2, some w3', o4, some (.val (.str x)), some (elsW (A ++ stepE P L x)), o7', o8', o9', oz]
  | [], w3, A, h3, _, _, o7, o8, o9 => ⟨w3, o7, o8, o9, h3, by simp [stepE]⟩
  | l :: L, w3, A, h3, hl, h, o7, o8, o9 => by
    simp only [List.length_cons, Nat.add_mul, Nat.one_mul] at h
    obtain ⟨o8', o9', st⟩ := alw_turn1 F sub fu l x P w3 h3 A (hl l (by simp)).1 (by omega) (hl l (by simp)).2 o0 o1 o2 o4 o7 o8 o9 oz
    obtain ⟨w3', o7'', o8'', o9'', hw, hr⟩ := alw_loop1 x P o0 o1 o2 o4 oz L (.val (atsD P)) (A ++ P.map fun a => l ++ [(x, a)]) (by simp) (fun k hk => hl k (List.mem_cons_of_mem _ hk)) (by simp; omega) (some (.val (enD l))) o8' o9'
    exact ⟨w3', o7'', o8'', o9'', hw, by rw [List.map_cons, forL_next st, hr]; simp [stepE]⟩
theorem alw_turn2 (x : Str) (P : List Atm) (L : List EL) (w3 w4 : W) (h3 : w3.toD = some (atsD P)) (h4 : w4.toD = some (.list (L.map enD))) (hl : ∀ l ∈ L, l.length ≤ 1000 ∧ x ∉ l.map (·.1)) (hA : L.length * P.length ≤ 1000000) (o0 o1 o2 o5 o6 o7 o8 o9 oz : Option W) : ∃ w3' w4' o6' o7' o8' o9', W.toD w3' = some (atsD P) ∧ W.toD w4' = some (.list ((stepE P L x).map enD)) ∧
    turnF F sub fu [] [5] false lb__law_always_2 (.str x) [o0, o1, o2, some w3, some w4, o5, o6, o7, o8, o9, oz] =
      .next [o0, o1, o2, some w3', some w4', some (.val (.str x)), o6', o7', o8', o9', oz] := by
  obtain ⟨w3', o7', o8', o9', hw, hr⟩ := alw_loop1 F sub fu x P o0 o1 o2 (some (.val (.list (L.map enD)))) oz L w3 [] h3 hl (by simpa using hA) o7 o8 o9
  refine ⟨w3', .val (.list ((stepE P L x).map enD)), some (.val (.list ((stepE P L x).map enD))), o7', o8', o9', hw, by simp, ?_⟩
  have e := elsW_toD (stepE P L x)
  rw [elsW, W.toD_lst] at e
  simp only [elsW, List.map_nil, List.nil_append] at hr
  simp [turnF, lb__law_always_2, h4, hr, e]
end
theorem envs_keys (P : List Atm) : ∀ (g : List Str) (L : List EL) (k : List Str), (∀ l ∈ L, l.map (·.1) = k) → ∀ l ∈ g.foldl (stepE P) L, l.map (·.1) = k ++ g
  | [], L, k, h, l, hl => by simpa using h l hl
  | x :: g, L, k, h, l, hl => by
    rw [List.foldl_cons] at hl
    have := envs_keys P g (stepE P L x) (k ++ [x]) (fun m hm => by
      unfold stepE at hm
      obtain ⟨l0, h0, hm⟩ := List.mem_flatMap.mp hm
      obtain ⟨a, _, rfl⟩ := List.mem_map.mp hm
      rw [List.map_append, h l0 h0]
      rfl) l hl
    simpa using this
theorem stepE_len (P : List Atm) (L : List EL) (x : Str) : (stepE P L x).length = L.length * P.length := by
  unfold stepE
  induction L with
  | nil => simp
  | cons l L ih => simp [List.flatMap_cons, ih, Nat.add_mul]; omega
theorem envs_all (P : List Atm) (ρ : Rho) : ∀ (g : List Str) (L : List EL) (l0 : EL), l0 ∈ L → (∀ x ∈ g, ρ x ∈ P) → l0 ++ g.map (fun x => (x, ρ x)) ∈ g.foldl (stepE P) L
  | [], L, l0, h, _ => by simpa using h
  | x :: g, L, l0, h, hp => by
    rw [List.foldl_cons]
    have := envs_all P ρ g (stepE P L x) (l0 ++ [(x, ρ x)]) (by
      unfold stepE
      exact List.mem_flatMap.mpr ⟨l0, h, List.mem_map.mpr ⟨_, hp x (by simp), rfl⟩⟩) fun y hy => hp y (List.mem_cons_of_mem _ hy)
    simpa using this
theorem rhoL_map {g : List Str} {ρ : Rho} {x : Str} (h : x ∈ g) : rhoL (g.map fun x => (x, ρ x)) x = ρ x := by
  unfold rhoL
  induction g with
  | nil => simp at h
  | cons y g ih =>
    rw [List.map_cons, List.find?_cons]
    by_cases e : y = x
    · simp [e]
    · simp only [e, decide_false]
      exact ih ((List.mem_cons.mp h).resolve_left (Ne.symm e))
theorem Itm.ev_eq {g : List Str} {i : Itm} (ok : i.Ok g) {ρ σ : Rho} (h : ∀ x ∈ g, ρ x = σ x) : i.ev ρ = i.ev σ := by
  cases i with
  | name x => exact h x ok.2
  | atom a => rfl
theorem Tst.pass_eq {g : List Str} {t : Tst} (ok : t.Ok g) {ρ σ : Rho} (h : ∀ x ∈ g, ρ x = σ x) : t.pass ρ = t.pass σ := by
  unfold Tst.pass
  rw [Itm.ev_eq ok.1 h, Itm.ev_eq ok.2 h]
theorem compL_fg {α : Type} (f : α → D) (h : α → Bool) {step : D → Env → Res (Env × Option W)} {env0 : Env} : ∀ {as acc : List α}, (∀ a ∈ as, step (f a) env0 = .ok (env0, if h a then some (.val (f a)) else none)) → acc.length + as.length ≤ 1000 →
    compL step (as.map f) env0 (acc.map fun a => .val (f a)) = .ok (env0, (acc ++ as.filter h).map fun a => .val (f a))
  | [], acc, _, _ => by simp [compL]
  | a :: as, acc, hs, l => by
    rw [List.map_cons, compL, hs a (List.mem_cons_self ..)]
    simp only [Res.bind_ok]
    simp only [List.length_cons] at l
    cases e : h a with
    | false =>
      simp only [Bool.false_eq_true, if_false]
      rw [compL_fg f h (fun b hb => hs b (List.mem_cons_of_mem _ hb)) (by omega)]
      simp [e]
    | true =>
      simp only [if_true]
      rw [if_pos (szOk_small (by simp; omega))]
      have := compL_fg f h (step := step) (env0 := env0) (as := as) (acc := acc ++ [a]) (fun b hb => hs b (List.mem_cons_of_mem _ hb)) (by simp; omega)
      rw [List.map_append] at this
      rw [show [a].map (fun a => W.val (f a)) = [W.val (f a)] from rfl] at this
      rw [this]
      simp [e]
theorem eqD_nil (ds : List D) : eqD (.list ds) (.list []) = some ds.isEmpty := by
  cases ds <;> simp [eqD, isDict, eqx, eqxs, cmpb]
section
variable (F : Nat → List W → FRes) (sub : Subs) (fu : Nat)
/-- a way parts the tests from the test -/
def badL (ts : List Tst) (t : Tst) (l : EL) : Bool := !t.pass (rhoL l) && ts.all fun u => u.pass (rhoL l)
theorem alw_turn3 {td : D} {t : Tst} {ts : List Tst} {g : List Str} (h : frz td = t.toD) (ok : t.Ok g) (oks : ∀ u ∈ ts, u.Ok g) (hts : ts.length ≤ 100) {l : EL} (hk : ∀ x ∈ g, x ∈ l.map (·.1)) (n : Nat) (o0 o3 o4 o5 o6 o7 o8 o9 : Option W) :
    turnF (runN (n + 2)) sub fu [] [7] false lb__law_always_3 (enD l) [o0, some (.val (.list (ts.map Tst.toD))), some (.val td), o3, o4, o5, o6, o7, o8, o9, none] =
      if badL ts t l then .ret (.val (.bool false)) [o0, some (.val (.list (ts.map Tst.toD))), some (.val td), o3, o4, o5, o6, some (.val (enD l)), o8, o9, none] else .next [o0, some (.val (.list (ts.map Tst.toD))), some (.val td), o3, o4, o5, o6, some (.val (enD l)), o8, o9, none] := by
  have h1 := run_passes h ok hk n
  have st : ∀ u ∈ ts, stepL (runN (n + 2)) [10] false (.loc 10) (.not (.call 33 [.loc 10, .loc 7])) [10] u.toD [o0, some (.val (.list (ts.map Tst.toD))), some (.val td), o3, o4, o5, o6, some (.val (enD l)), o8, o9, none] =
      .ok ([o0, some (.val (.list (ts.map Tst.toD))), some (.val td), o3, o4, o5, o6, some (.val (enD l)), o8, o9, none], if !u.pass (rhoL l) then some (.val u.toD) else none) := fun u hu => by
    have h2 := run_passes (frz_tst (oks u hu)) (oks u hu) hk n
    simp [stepL, h2]
    cases u.pass (rhoL l) <;> simp
  have c := compL_fg (acc := []) Tst.toD (fun u => !u.pass (rhoL l)) st (by simp; omega)
  simp only [List.map_nil, List.nil_append] at c
  have e1 : W.toDs ((ts.filter fun u => !u.pass (rhoL l)).map fun u => W.val u.toD) = some ((ts.filter fun u => !u.pass (rhoL l)).map Tst.toD) := by
    have := toDs_vals ((ts.filter fun u => !u.pass (rhoL l)).map Tst.toD)
    rw [List.map_map] at this
    exact this
  have e2 : ((ts.filter fun u => !u.pass (rhoL l)).map Tst.toD).isEmpty = ts.all fun u => u.pass (rhoL l) := by
    rw [Bool.eq_iff_iff]
    simp
  unfold badL
  cases hp : t.pass (rhoL l) with
  | true => simp [turnF, lb__law_always_3, h1, hp]
  | false =>
    simp [turnF, lb__law_always_3, h1, hp, c, e1, eqD_nil]
    split <;> simp_all [retR]
theorem alw_loop3 {td : D} {t : Tst} {ts : List Tst} {g : List Str} (h : frz td = t.toD) (ok : t.Ok g) (oks : ∀ u ∈ ts, u.Ok g) (hts : ts.length ≤ 100) (n : Nat) (o0 o3 o4 o5 o6 o8 o9 : Option W) : ∀ (L : List EL), (∀ l ∈ L, ∀ x ∈ g, x ∈ l.map (·.1)) → ∀ o7 : Option W,
    (L.any (badL ts t) = true → ∃ e, forL (turnF (runN (n + 2)) sub fu [] [7] false lb__law_always_3) (L.map enD) [o0, some (.val (.list (ts.map Tst.toD))), some (.val td), o3, o4, o5, o6, o7, o8, o9, none] = .ret (.val (.bool false)) e) ∧
    (L.any (badL ts t) = false → ∃ o7', forL (turnF (runN (n + 2)) sub fu [] [7] false lb__law_always_3) (L.map enD) [o0, some (.val (.list (ts.map Tst.toD))), some (.val td), o3, o4, o5, o6, o7, o8, o9, none] = .next [o0, some (.val (.list (ts.map Tst.toD))), some (.val td), o3, o4, o5, o6, o7', o8, o9, none])
  | [], _, o7 => ⟨(fun h => nomatch h), fun _ => ⟨_, rfl⟩⟩
  | l :: L, hk, o7 => by
    have st := alw_turn3 sub fu h ok oks hts (hk l (by simp)) n o0 o3 o4 o5 o6 o7 o8 o9
    obtain ⟨h1, h2⟩ := alw_loop3 h ok oks hts n o0 o3 o4 o5 o6 o8 o9 L (fun k hk' => hk k (List.mem_cons_of_mem _ hk')) (some (.val (enD l)))
    rw [List.any_cons, List.map_cons]
    cases e : badL ts t l with
    | true =>
      rw [e, if_pos rfl] at st
      exact ⟨fun _ => ⟨_, forL_ret st⟩, fun z => nomatch z⟩
    | false =>
      rw [e, if_neg Bool.false_ne_true] at st
      rw [forL_next st]
      exact ⟨h1, h2⟩
theorem alw_loop2 (P : List Atm) (o0 o1 o2 oz : Option W) : ∀ (g : List Str) (L : List EL) (k : List Str) (w3 w4 : W), w3.toD = some (atsD P) → w4.toD = some (.list (L.map enD)) → (∀ l ∈ L, l.map (·.1) = k) → (k ++ g).Nodup → (k ++ g).length ≤ 1000 → L.length * (P.length + 1) ^ g.length ≤ 1000000 → ∀ o5 o6 o7 o8 o9 : Option W,
    ∃ w3' w4' o5' o6' o7' o8' o9', W.toD w3' = some (atsD P) ∧ W.toD w4' = some (.list ((g.foldl (stepE P) L).map enD)) ∧
      forL (turnF F sub fu [] [5] false lb__law_always_2) (g.map .str) [o0, o1, o2, some w3, some w4, o5, o6, o7, o8, o9, oz] = .next [o0, o1, o2, some w3', some w4', o5', o6', o7', o8', o9', oz]
  | [], L, k, w3, w4, h3, h4, _, _, _, _, o5, o6, o7, o8, o9 => ⟨w3, w4, o5, o6, o7, o8, o9, h3, h4, rfl⟩
  | x :: g, L, k, w3, w4, h3, h4, hk, nd, hl, hs, o5, o6, o7, o8, o9 => by
    have hpos : 1 ≤ (P.length + 1) ^ g.length := Nat.one_le_pow _ _ (by omega)
    have hs1 : L.length * P.length * (P.length + 1) ^ g.length ≤ 1000000 := by
      refine Nat.le_trans ?_ hs
      rw [List.length_cons, Nat.pow_succ, Nat.mul_assoc, Nat.mul_comm P.length]
      exact Nat.mul_le_mul_left _ (Nat.mul_le_mul_left _ (by omega))
    have hs2 : L.length * P.length ≤ 1000000 := by
      refine Nat.le_trans ?_ hs1
      exact Nat.le_mul_of_pos_right _ hpos
    have hn : ∀ l ∈ L, l.length ≤ 1000 ∧ x ∉ l.map (·.1) := fun l h => by
      have e := hk l h
      refine ⟨?_, ?_⟩
      · have := congrArg List.length e
        simp at this hl
        omega
      · rw [e]
        have := List.nodup_append.mp nd
        intro z
        exact this.2.2 x z x (by simp) rfl
    obtain ⟨w3', w4', o6', o7', o8', o9', a3, a4, st⟩ := alw_turn2 F sub fu x P L w3 w4 h3 h4 hn hs2 o0 o1 o2 o5 o6 o7 o8 o9 oz
    obtain ⟨w3'', w4'', b5, b6, b7, b8, b9, c3, c4, hr⟩ := alw_loop2 P o0 o1 o2 oz g (stepE P L x) (k ++ [x]) w3' w4' a3 a4 (fun m hm => by
      have := envs_keys P [x] L k hk m (by simpa using hm)
      exact this) (by simpa using nd) (by simpa using hl) (by rw [stepE_len]; exact hs1) (some (.val (.str x))) o6' o7' o8' o9'
    exact ⟨w3'', w4'', b5, b6, b7, b8, b9, c3, c4, by rw [List.map_cons, forL_next st]; exact hr⟩
end
/-- the law's answer: by all ways over the pool -/
theorem run_always {td : D} {t : Tst} {ts : List Tst} {g : List Str} (h : frz td = t.toD) (ok : t.Ok g) (oks : ∀ u ∈ ts, u.Ok g) (hts : ts.length ≤ 40) (gl : g.length ≤ 3) (nd : g.Nodup) (n : Nat) :
    runN (n + 3) 39 [.val (.list (g.map .str)), .val (.list (ts.map Tst.toD)), .val td] = .ret (.val (.bool (!(envs (pool (foundA (ts ++ [t]) []) g) g).any (badL ts t)))) [] := by
  have hp := run_pool (ds := ts.map Tst.toD ++ [td]) (ts := ts ++ [t]) (g := g) (by
    rw [List.map_append, List.map_append, List.map_map]
    congr 1
    · rw [List.map_inj_left]; exact fun u hu => frz_tst (oks u hu)
    · simp [h]) (by simp; omega) (by omega) (fun u hu => by
    rcases List.mem_append.mp hu with hu | hu
    · exact oks u hu
    · simp at hu; subst hu; exact ok) (n + 1)
  have hl := foundA_len (ts ++ [t]) []
  have hP : (pool (foundA (ts ++ [t]) []) g).length ≤ 85 := by
    simp [pool] at hl ⊢
    omega
  generalize pool (foundA (ts ++ [t]) []) g = P at *
  have hpow : (P.length + 1) ^ g.length ≤ 1000000 := by
    have : (P.length + 1) ^ g.length ≤ 86 ^ 3 := Nat.le_trans (Nat.pow_le_pow_left (by omega) _) (Nat.pow_le_pow_right (by omega) gl)
    omega
  obtain ⟨w3', w4', b5, b6, b7, b8, b9, c3, c4, hr⟩ := alw_loop2 (runN (n + 2)) subT 1000 P (some (.val (.list (g.map .str)))) (some (.val (.list (ts.map Tst.toD)))) (some (.val td)) none g [[]] [] (atsW P) (.lst [.dic [] []]) (atsW_toD P) (by simp [enD]) (by simp) (by simpa using nd) (by simp; omega) (by simpa using hpow) none none none none none
  have hk : ∀ l ∈ envs P g, ∀ x ∈ g, x ∈ l.map (·.1) := fun l hl x hx => by
    have := envs_keys P g [[]] [] (by simp) l hl
    rw [this]
    simpa using hx
  obtain ⟨h1, h2⟩ := alw_loop3 subT 1000 h ok oks (by omega) n (some (.val (.list (g.map .str)))) (some w3') (some (.val (.list ((envs P g).map enD)))) b5 b6 b8 b9 (envs P g) hk b7
  have e0 : W.toDs [W.dic [] []] = some [.dict []] := by simp
  simp only [atsW] at hr hp
  rw [rn__law_always]
  simp [evF, ir__law_always, szOk_small (n := ts.length + 1) (by omega), hp, hr, c4]
  cases e : (envs P g).any (badL ts t) with
  | true =>
    obtain ⟨e', hr3⟩ := h1 e
    simp only [envs] at hr3
    simp [hr3]
  | false =>
    obtain ⟨e', hr3⟩ := h2 e
    simp only [envs] at hr3
    simp [hr3, retR]
/-- both answers are the same -/
theorem fol_eq {ts : List Tst} {t : Tst} {g : List Str} {b : Bool} (ok : t.Ok g) (oks : ∀ u ∈ ts, u.Ok g) (h : Follows ts t g (foundA (ts ++ [t]) []) b) : (!(envs (pool (foundA (ts ++ [t]) []) g) g).any (badL ts t)) = b := by
  cases b with
  | true =>
    rw [Bool.not_eq_true', List.any_eq_false]
    intro l hl hb
    unfold badL at hb
    rw [Bool.and_eq_true, Bool.not_eq_true', List.all_eq_true] at hb
    have := h.1 rfl (rhoL l) hb.2
    rw [hb.1] at this
    cases this
  | false =>
    obtain ⟨ρ, hp, h1, h2⟩ := h.2 rfl
    have hm := envs_all (pool (foundA (ts ++ [t]) []) g) ρ g [[]] [] (by simp) hp
    rw [List.nil_append] at hm
    have e : ∀ x ∈ g, rhoL (g.map fun x => (x, ρ x)) x = ρ x := fun x hx => rhoL_map hx
    rw [Bool.not_eq_false', List.any_eq_true]
    refine ⟨_, hm, ?_⟩
    unfold badL
    rw [Tst.pass_eq ok e, h2]
    simp only [Bool.not_false, Bool.true_and, List.all_eq_true]
    intro u hu
    rw [Tst.pass_eq (oks u hu) e]
    exact h1 u hu
theorem atIn_found {ts : List Tst} {u : Tst} (h : u ∈ ts) : AtIn (foundA ts []) u :=
  ⟨fun a e => foundA_sub.mpr (.inr ⟨u, h, .inl e⟩), fun a e => foundA_sub.mpr (.inr ⟨u, h, .inr e⟩)⟩
end TA

set_option Elab.async false
set_option linter.all false
set_option maxRecDepth 100000
/-! Pu14: draws. -/
namespace TA
open PySem
def stW (a b c e : Int) : W := .lst [.val (.int a), .val (.int b), .val (.int c), .val (.int e)]
def stD (a b c e : Int) : D := .list [.int a, .int b, .int c, .int e]
@[simp] theorem stW_flat (a b c e : Int) : (stW a b c e).flat = some (stD a b c e) := by simp [stW, stD]
@[simp] theorem stW_toD (a b c e : Int) : (stW a b c e).toD = some (stD a b c e) := by simp [stW, stD]
@[simp] theorem stD_0 (a b c e : Int) : elemD (stD a b c e) (.int 0) = some (.int a) := by simp [stD]
@[simp] theorem stD_1 (a b c e : Int) : elemD (stD a b c e) (.int 1) = some (.int b) := by simp [stD]
@[simp] theorem stD_2 (a b c e : Int) : elemD (stD a b c e) (.int 2) = some (.int c) := by simp [stD]
@[simp] theorem stD_3 (a b c e : Int) : elemD (stD a b c e) (.int 3) = some (.int e) := by simp [stD]
@[simp] theorem stW_s0 (a b c e x : Int) : storeW (stW a b c e) (.val (.int 0)) (.val (.int x)) = some (stW x b c e) := by simp [stW, storeW, ixN]
@[simp] theorem stW_s1 (a b c e x : Int) : storeW (stW a b c e) (.val (.int 1)) (.val (.int x)) = some (stW a x c e) := by simp [stW, storeW, ixN]
@[simp] theorem stW_s2 (a b c e x : Int) : storeW (stW a b c e) (.val (.int 2)) (.val (.int x)) = some (stW a b x e) := by simp [stW, storeW, ixN]
@[simp] theorem stW_s3 (a b c e x : Int) : storeW (stW a b c e) (.val (.int 3)) (.val (.int x)) = some (stW a b c x) := by simp [stW, storeW, ixN]
theorem bInt_of {i : Int} (h1 : -(2 ^ 64) < i) (h2 : i < 2 ^ 64) : bInt i = true := by simp [bInt]; omega
theorem mul_r (i k : Int) (h : bInt k = true) : binD .mul (.int i) (.int k) = some (.val (.int (i * k))) := by simp [binD, intOp, h]
theorem mul_l (i k : Int) (h : bInt i = true) : binD .mul (.int i) (.int k) = some (.val (.int (i * k))) := by simp [binD, intOp, h]
theorem mod_r (i k : Int) (h : 0 < k) : binD .mod (.int i) (.int k) = some (.val (.int (i % k))) := by simp [binD, intOp, h]
theorem fdiv_r (i k : Int) (h : 0 < k) (h2 : k < 2 ^ 64) : binD .fdiv (.int i) (.int k) = some (.val (.int (i / k))) := by
  simp [binD, intOp, h]
  omega
theorem pow_r (i : Int) (k : Nat) (h : i.natAbs < 2 ^ 64) (hk : k ≤ 1000000) : binD .pow (.int i) (.int k) = some (.val (.int (i ^ k))) := by
  simp [binD, intOp]
  omega
@[simp] theorem bltD_int (i : Int) : bltD .int [.int i] = some (.val (.int i)) := (rfl)
abbrev scD (ns : List Int) : D := .list (ns.map .int)
structure SV (a b : Int) : Prop where
  a : 0 ≤ a
  b : 0 ≤ b
theorem draw_ok (ns : List Int) {a b : Int} (c e : Int) (v : SV a b) {m : Int} (hm : 0 < m) (hm2 : m < 2 ^ 64) (n : Nat) : ∃ r a' b' c' e', 0 ≤ r ∧ r < m ∧ SV a' b' ∧ runN (n + 1) 26 [.val (scD ns), stW a b c e, .val (.int m)] = .ret (.val (.int r)) [stW a' b' c' e'] := by
  have p18 : binD .pow (.int 10) (.int 18) = some (.val (.int 1000000000000000000)) := by simp [binD, intOp]
  -- behind the cell is taken
  have first : ∃ a' b' e' x, SV a' b' ∧ evS (runN n) subT 1000 [1] (.ifS (.and (.cmp .eq (.idx (.loc 1) (.lit (.int (1)))) (.lit (.int (0)))) (.cmp .lt (.idx (.loc 1) (.lit (.int (0)))) (.blt .len [.loc 0]))) [.asg 3 (.idx (.loc 0) (.idx (.loc 1) (.lit (.int (0))))),
    .sidx 1 (.lit (.int (0))) (.bin .add (.idx (.loc 1) (.lit (.int (0)))) (.lit (.int (1)))),
    .ifS (.cmp .lt (.loc 3) (.lit (.int (0)))) [.asg 3 (.bin .sub (.bin .sub (.lit (.int (0))) (.lit (.int (1)))) (.bin .mul (.lit (.int (2))) (.loc 3)))] [],
    .ifS (.cmp .ge (.loc 3) (.bin .pow (.lit (.int (10))) (.lit (.int (18))))) [.sidx 1 (.lit (.int (1))) (.loc 3)] [.sidx 1 (.lit (.int (3))) (.bin .mod (.blt .int [.bin .add (.bin .add (.bin .mul (.idx (.loc 1) (.lit (.int (3)))) (.lit (.int (37)))) (.loc 3)) (.lit (.int (11)))]) (.lit (.int (1000000007))))]] [])
      [some (.val (scD ns)), some (stW a b (c + 1) e), some (.val (.int m)), none, none, none] = .next [some (.val (scD ns)), some (stW a' b' (c + 1) e'), some (.val (.int m)), x, none, none] := by
    by_cases h : b = 0 ∧ a < ns.length
    · obtain ⟨rfl, h⟩ := h
      obtain ⟨k, rfl⟩ : ∃ k : Nat, a = k := ⟨a.toNat, by have := v.a; omega⟩
      have hk : k < ns.length := by omega
      have ei : atI (ns.map PyData.int) (k : Int) = some (.int ns[k]) := by rw [atI_nat]; simp [hk]
      by_cases hneg : ns[k] < 0
      · by_cases hbig : (1000000000000000000 : Int) ≤ 0 - 1 - 2 * ns[k]
        · refine ⟨k + 1, 0 - 1 - 2 * ns[k], e, some (.val (.int (0 - 1 - 2 * ns[k]))), ⟨by omega, by omega⟩, ?_⟩
          have hb2 : (1000000000000000000 : Int) ≤ -1 - 2 * ns[k] := by omega
          simp [hk, ei, hneg, mul_l 2 _ (by decide), p18, hb2]
        · refine ⟨k + 1, 0, (e * 37 + (0 - 1 - 2 * ns[k]) + 11) % 1000000007, some (.val (.int (0 - 1 - 2 * ns[k]))), ⟨by omega, by omega⟩, ?_⟩
          have hb2 : ¬ (1000000000000000000 : Int) ≤ -1 - 2 * ns[k] := by omega
          simp [hk, ei, hneg, mul_l 2 _ (by decide), mul_r _ 37 (by decide), mod_r, p18, hb2]
      · by_cases hbig : (1000000000000000000 : Int) ≤ ns[k]
        · refine ⟨k + 1, ns[k], e, some (.val (.int (ns[k]))), ⟨by omega, by omega⟩, ?_⟩
          have hb2 := hbig
          simp [hk, ei, hneg, mul_l 2 _ (by decide), p18, hb2]
        · refine ⟨k + 1, 0, (e * 37 + ns[k] + 11) % 1000000007, some (.val (.int (ns[k]))), ⟨by omega, by omega⟩, ?_⟩
          have hb2 := hbig
          simp [hk, ei, hneg, mul_l 2 _ (by decide), mul_r _ 37 (by decide), mod_r, p18, hb2]
    · refine ⟨a, b, e, none, v, ?_⟩
      by_cases h0 : b = 0
      · have h1 : ¬ a < ns.length := fun z => h ⟨h0, z⟩
        subst h0
        simp [h1]
      · simp [h0]
  obtain ⟨a', b', e', x, v', hf⟩ := first
  rw [rn__law_draw]
  have start : ∀ ss, evSs (runN n) subT 1000 [1] (.sidx 1 (.lit (.int (2))) (.bin .add (.idx (.loc 1) (.lit (.int (2)))) (.lit (.int (1)))) :: ss) [some (.val (scD ns)), some (stW a b c e), some (.val (.int m)), none, none, none] = evSs (runN n) subT 1000 [1] ss [some (.val (scD ns)), some (stW a b (c + 1) e), some (.val (.int m)), none, none, none] := fun ss => by
    simp
  by_cases hb : 0 < b'
  · refine ⟨b' % m, a', b' / m, c + 1, e', Int.emod_nonneg _ (by omega), Int.emod_lt_of_pos _ hm, ⟨v'.a, Int.ediv_nonneg v'.b (by omega)⟩, ?_⟩
    unfold evF ir__law_draw
    simp only [List.length_cons, List.length_nil, Nat.zero_add, Nat.reduceAdd, if_true, List.map_cons, List.map_nil, List.cons_append, List.nil_append, Nat.reduceSub, List.replicate]
    rw [start, ess_cons, hf]
    simp [hb, mod_r _ m hm, fdiv_r _ m hm hm2, retR, outsOf]
  · generalize hs1 : (e' + 6151 * (c + 1) + 1) * 48271 % 2147483647 = s1
    have b1 : 0 ≤ s1 ∧ s1 < 2147483647 := by omega
    generalize hs2 : s1 * (s1 / 1009 + 69621) % 2147483629 = s2
    have b2 : 0 ≤ s2 ∧ s2 < 2147483647 := by omega
    generalize hs3 : s2 * (s2 / 2003 + 40692) % 2147483399 = s3
    refine ⟨s3 / 16 % m, a', b', c + 1, e', Int.emod_nonneg _ (by omega), Int.emod_lt_of_pos _ hm, v', ?_⟩
    unfold evF ir__law_draw
    simp only [List.length_cons, List.length_nil, Nat.zero_add, Nat.reduceAdd, if_true, List.map_cons, List.map_nil, List.cons_append, List.nil_append, Nat.reduceSub, List.replicate]
    rw [start, ess_cons, hf]
    simp [hb, mod_r, fdiv_r, mul_r _ 48271 (by decide), mul_l 6151 _ (by decide), hs1, mul_l s1 _ (bInt_of (by omega) (by omega)), hs2, mul_l s2 _ (bInt_of (by omega) (by omega)), hs3, hm, retR, outsOf]
end TA

set_option Elab.async false
set_option linter.all false
set_option maxRecDepth 100000
/-! Pu15: what is drawn. -/
namespace TA
open PySem
theorem rng1_nat (m : Nat) (h : m ≤ 1000) : itemsOf .rng1 [.val (.int (m : Int))] = some ((List.range m).map fun (k : Nat) => .int k) := by
  rw [rng1_int, if_pos ⟨by omega, by omega⟩]
  rfl
/-- a def that draws -/
def Draws (ns : List Int) (n f : Nat) (args : List W) (a b c e : Int) (Q : W → Prop) : Prop := ∃ r a' b' c' e', SV a' b' ∧ Q r ∧ runN n f (.val (scD ns) :: stW a b c e :: args) = .ret r [stW a' b' c' e']
@[simp] theorem outsOf_1 (x w : W) (es : Env) : outsOf (some x :: some w :: es) [1] = some [w] := (rfl)
@[simp] theorem ite_and_ok (p : Prop) [Decidable p] (e : Env) (b : Bool) : (if p then Res.ok (e, W.val (.bool b)) else Res.ok (e, W.val (.bool false))) = .ok (e, .val (.bool (decide p && b))) := by
  by_cases h : p <;> simp [h]
@[simp] theorem ite_or_ok (p : Prop) [Decidable p] (e : Env) (b : Bool) : (if p then Res.ok (e, W.val (.bool true)) else Res.ok (e, W.val (.bool b))) = .ok (e, .val (.bool (decide p || b))) := by
  by_cases h : p <;> simp [h]
theorem some_ok (ns : List Int) {d : D} {ds : List D} (h : IsRow d ds) (hne : 0 < ds.length) (hl : ds.length < 2 ^ 64) {a b : Int} (c e : Int) (v : SV a b) (n : Nat) : Draws ns (n + 2) 27 [.val d] a b c e fun r => ∃ x ∈ ds, r = .val x := by
  obtain ⟨r, a', b', c', e', h0, h1, v', hr⟩ := draw_ok ns c e v (m := ds.length) (by omega) (by omega) n
  obtain ⟨k, rfl⟩ : ∃ k : Nat, r = k := ⟨r.toNat, by omega⟩
  have hk : k < ds.length := by omega
  refine ⟨.val ds[k], a', b', c', e', v', ⟨ds[k], List.getElem_mem _, rfl⟩, ?_⟩
  have e1 : elemD d (.int k) = some ds[k] := by rw [h.elem, elem_tup, atI_nat]; simp [hk]
  rw [rn__law_some]
  simp [evF, ir__law_some, retR, h.len, hr, e1]
abbrev gL (g : List Str) : D := .list (g.map .str)
def Itm.Fr (g : List Str) (as : List Atm) : Itm → Prop
  | .name x => x ∈ g
  | .atom a => a ∈ as
theorem item_draw (ns : List Int) {g : List Str} {as : List Atm} (hne : 0 < g.length + as.length) (hg : g.length ≤ 100) (has : as.length ≤ 100) {a b : Int} (c e : Int) (v : SV a b) (n : Nat) :
    Draws ns (n + 3) 28 [.val (gL g), .val (atsD as)] a b c e fun r => ∃ i : Itm, i.Fr g as ∧ r = .val i.toD := by
  have name : ∀ a b c e, SV a b → 0 < g.length → ∃ x ∈ g, ∃ a' b' c' e', SV a' b' ∧ runN (n + 2) 27 [.val (scD ns), stW a b c e, .val (gL g)] = .ret (.val (.str x)) [stW a' b' c' e'] := fun a b c e v h => by
    obtain ⟨r, a', b', c', e', v', ⟨x, hx, rfl⟩, hr⟩ := some_ok ns (d := gL g) (.inl rfl) (by simpa using h) (by simp; omega) c e v n
    obtain ⟨y, hy, rfl⟩ := List.mem_map.mp hx
    exact ⟨y, hy, a', b', c', e', v', hr⟩
  have atom : ∀ a b c e, SV a b → 0 < as.length → ∃ x ∈ as, ∃ a' b' c' e', SV a' b' ∧ runN (n + 2) 27 [.val (scD ns), stW a b c e, .val (atsD as)] = .ret (.val x.toD) [stW a' b' c' e'] := fun a b c e v h => by
    obtain ⟨r, a', b', c', e', v', ⟨x, hx, rfl⟩, hr⟩ := some_ok ns (d := atsD as) (.inl rfl) (by simpa using h) (by simp; omega) c e v n
    obtain ⟨y, hy, rfl⟩ := List.mem_map.mp hx
    exact ⟨y, hy, a', b', c', e', v', hr⟩
  have el : lenD (atsD as) = some as.length := by simp [atsD]
  unfold Draws
  rw [rn__law_item]
  by_cases hg0 : g.length = 0
  · obtain ⟨x, hx, a', b', c', e', v', hr⟩ := atom a b c e v (by omega)
    refine ⟨_, a', b', c', e', v', ⟨.atom x, hx, rfl⟩, ?_⟩
    simp [evF, ir__law_item, retR, hg0, hr, Itm.toD]
  · by_cases ha0 : as.length = 0
    · obtain ⟨x, hx, a', b', c', e', v', hr⟩ := name a b c e v (by omega)
      refine ⟨_, a', b', c', e', v', ⟨.name x, hx, rfl⟩, ?_⟩
      simp [evF, ir__law_item, retR, show 0 < g.length by omega, ha0, el, hr, Itm.toD]
    · obtain ⟨r, a1, b1, c1, e1, h0, h1, v1, hd⟩ := draw_ok ns c e v (m := 4) (by omega) (by omega) (n + 1)
      by_cases hr0 : 0 < r
      · obtain ⟨x, hx, a', b', c', e', v', hr⟩ := name a1 b1 c1 e1 v1 (by omega)
        refine ⟨_, a', b', c', e', v', ⟨.name x, hx, rfl⟩, ?_⟩
        simp [evF, ir__law_item, retR, show 0 < g.length by omega, show as ≠ [] from fun z => ha0 (by rw [z]; rfl), el, hd, hr0, hr, Itm.toD]
      · obtain ⟨x, hx, a', b', c', e', v', hr⟩ := atom a1 b1 c1 e1 v1 (by omega)
        refine ⟨_, a', b', c', e', v', ⟨.atom x, hx, rfl⟩, ?_⟩
        simp [evF, ir__law_item, retR, show 0 < g.length by omega, show as ≠ [] from fun z => ha0 (by rw [z]; rfl), el, hd, hr0, hr, Itm.toD]
def Tst.Fr (g : List Str) (as : List Atm) (t : Tst) : Prop := t.a.Fr g as ∧ t.b.Fr g as
theorem test_draw (ns : List Int) {g : List Str} {as : List Atm} (hne : 0 < g.length + as.length) (hg : g.length ≤ 100) (has : as.length ≤ 100) {a b : Int} (c e : Int) (v : SV a b) (n : Nat) :
    Draws ns (n + 4) 29 [.val (gL g), .val (atsD as)] a b c e fun r => ∃ t : Tst, t.Fr g as ∧ r = .val t.toD := by
  obtain ⟨r, a1, b1, c1, e1, v1, ⟨w, hw, rfl⟩, hr⟩ := some_ok ns (d := .list [.str (S "alike"), .str (S "unlike")]) (.inl rfl) (by simp) (by simp) c e v (n + 1)
  obtain ⟨_, a2, b2, c2, e2, v2, ⟨i, hi, rfl⟩, h2⟩ := item_draw ns hne hg has c1 e1 v1 n
  obtain ⟨_, a3, b3, c3, e3, v3, ⟨j, hj, rfl⟩, h3⟩ := item_draw ns hne hg has c2 e2 v2 n
  have ew : ∃ al, w = .str (alS al) := by
    simp at hw
    rcases hw with rfl | rfl
    · exact ⟨true, rfl⟩
    · exact ⟨false, rfl⟩
  obtain ⟨al, rfl⟩ := ew
  refine ⟨_, a3, b3, c3, e3, v3, ⟨⟨al, i, j⟩, ⟨hi, hj⟩, rfl⟩, ?_⟩
  rw [rn__law_test]
  simp [evF, ir__law_test, retR, hr, h2, h3, Tst.toD]
theorem items_draw (ns : List Int) {g : List Str} {as : List Atm} (hg : g.length ≤ 100) (has : as.length ≤ 100) (x4 : Option W) (n : Nat) : ∀ (ks : List Int) (acc : List Itm) {a b : Int} (c e : Int), (ks ≠ [] → 0 < g.length + as.length) → SV a b → acc.length + ks.length ≤ 100 → ∃ is a' b' c' e', SV a' b' ∧ is.length = ks.length ∧ (∀ i ∈ is, i.Fr g as) ∧
    compL (stepL (runN (n + 3)) [5] false (.call 28 [.loc 0, .io 1, .loc 2, .loc 3]) (.lit (.bool true)) [5]) (ks.map .int) [some (.val (scD ns)), some (stW a b c e), some (.val (gL g)), some (.val (atsD as)), x4, none] (acc.map fun i => .val i.toD) =
      .ok ([some (.val (scD ns)), some (stW a' b' c' e'), some (.val (gL g)), some (.val (atsD as)), x4, none], (acc ++ is).map fun i => .val i.toD)
  | [], acc, a, b, c, e, _, v, _ => ⟨[], a, b, c, e, v, rfl, by simp, by simp [compL]⟩
  | k :: ks, acc, a, b, c, e, hne, v, hl => by
    simp only [List.length_cons] at hl
    obtain ⟨_, a1, b1, c1, e1, v1, ⟨i, hi, rfl⟩, h1⟩ := item_draw ns (hne (by simp)) hg has c e v n
    obtain ⟨is, a2, b2, c2, e2, v2, l2, f2, h2⟩ := items_draw ns hg has x4 n ks (acc ++ [i]) c1 e1 (fun _ => hne (by simp)) v1 (by simp; omega)
    refine ⟨i :: is, a2, b2, c2, e2, v2, by simp [l2], fun j hj => ?_, ?_⟩
    · rcases List.mem_cons.mp hj with rfl | hj
      · exact hi
      · exact f2 j hj
    · have st : stepL (runN (n + 3)) [5] false (.call 28 [.loc 0, .io 1, .loc 2, .loc 3]) (.lit (.bool true)) [5] (.int k) [some (.val (scD ns)), some (stW a b c e), some (.val (gL g)), some (.val (atsD as)), x4, none] =
          .ok ([some (.val (scD ns)), some (stW a1 b1 c1 e1), some (.val (gL g)), some (.val (atsD as)), x4, none], some (.val i.toD)) := by
        simp [stepL, h1]
      rw [List.map_cons, compL, st]
      simp only [Res.bind_ok]
      rw [if_pos (szOk_small (by simp; omega))]
      rw [List.map_append] at h2
      rw [show [i].map (fun i => W.val i.toD) = [W.val i.toD] from rfl] at h2
      rw [h2]
      simp
/-- drawn parts: names among g, atoms among as, rows, variables -/
def Prt.Fr (N R V : List Str) (as : List Atm) (g : List Str) : Prt → Prop
  | .none => True
  | .give is => is.length ≤ 2 ∧ ∀ i ∈ is, i.Fr g as
  | .each x r p => x ∈ N ∧ x ∉ g ∧ r ∈ R ∧ p.Fr N R V as (g ++ [x])
  | .choice p q => p.Fr N R V as g ∧ q.Fr N R V as g
  | .when t p => t.Fr g as ∧ p.Fr N R V as g
  | .last v i p => v ∈ V ∧ i.Fr g as ∧ p.Fr N R V as g
theorem give_draw (ns : List Int) (N R V : List Str) {g : List Str} {as : List Atm} (hg : g.length ≤ 100) (has : as.length ≤ 100) (n : Nat) {a b : Int} (c e : Int) (m : Nat) (v : SV a b) (hm : m ≤ 2) (hne : 0 < m → 0 < g.length + as.length) : ∃ r' a' b' c' e', SV a' b' ∧ (∃ p : Prt, p.Fr N R V as g ∧ p.dp = 1 ∧ p.sz = 1 ∧ p.nm = 0 ∧ r' = .val p.toD) ∧
        evX (runN (n + 3)) (.tup [.lit (.str (S "give")), .blt .tuple [.lc false (.call f__law_item [.loc 0, .io 1, .loc 2, .loc 3]) [5] false .rng1 [.loc 4] (.lit (.bool true)) [5]]]) .val [some (.val (scD ns)), some (stW a b c e), some (.val (gL g)), some (.val (atsD as)), some (.val (.int m)), none] =
          .ok ([some (.val (scD ns)), some (stW a' b' c' e'), some (.val (gL g)), some (.val (atsD as)), some (.val (.int m)), none], r') := by
  obtain ⟨is, a', b', c', e', v', l', f', h'⟩ := items_draw ns hg has (some (.val (.int m))) n ((List.range m).map fun (k : Nat) => (k : Int)) [] c e (fun z => hne (by
    cases m with
    | zero => simp at z
    | succ m => omega)) v (by simp; omega)
  refine ⟨_, a', b', c', e', v', ⟨.give is, ⟨by simp at l'; omega, f'⟩, rfl, rfl, rfl, rfl⟩, ?_⟩
  simp only [List.map_map, List.map_nil, List.nil_append] at h'
  rw [show (PyData.int ∘ fun (k : Nat) => (k : Int)) = fun (k : Nat) => .int k from rfl] at h'
  simp at l'
  simp [-rng1_int, rng1_nat m (by omega), h', Prt.toD]
theorem leaf_draw (ns : List Int) (N R V : List Str) {g : List Str} {as : List Atm} (hg : g.length ≤ 100) (has : as.length ≤ 100) {a b : Int} (c e : Int) (v : SV a b) (n : Nat) :
    Draws ns (n + 4) 30 [.val (gL g), .val (atsD as)] a b c e fun r => ∃ p : Prt, p.Fr N R V as g ∧ p.dp = 1 ∧ p.sz = 1 ∧ p.nm = 0 ∧ r = .val p.toD := by
  have el : lenD (atsD as) = some as.length := by simp [atsD]
  obtain ⟨r, a1, b1, c1, e1, h0, h1, v1, hd⟩ := draw_ok ns c e v (m := 8) (by omega) (by omega) (n + 2)
  unfold Draws
  rw [rn__law_leaf]
  by_cases hr0 : r = 0
  · refine ⟨_, a1, b1, c1, e1, v1, ⟨.none, trivial, rfl, rfl, rfl, rfl⟩, ?_⟩
    simp [evF, ir__law_leaf, retR, hd, hr0, Prt.toD]
  · have ev0 := fun (a b c e : Int) (m : Nat) (v : SV a b) (hm : m ≤ 2) hne => give_draw ns N R V hg has n c e m v hm hne
    by_cases hz : 0 < g.length + as.length
    · obtain ⟨r2, a2, b2, c2, e2, h20, h21, v2, hd2⟩ := draw_ok ns c1 e1 v1 (m := 3) (by omega) (by omega) (n + 2)
      obtain ⟨k, rfl⟩ : ∃ k : Nat, r2 = k := ⟨r2.toNat, by omega⟩
      obtain ⟨r', a', b', c', e', v', hp, hg'⟩ := ev0 a2 b2 c2 e2 k v2 (by omega) (fun _ => hz)
      refine ⟨r', a', b', c', e', v', hp, ?_⟩
      have hz' : (0 : Int) < g.length + as.length := by omega
      simp [evF, ir__law_leaf, hd, hr0, el, hz', hd2, retR, -ev_tup, hg']
    · obtain ⟨r', a', b', c', e', v', hp, hg'⟩ := ev0 a1 b1 c1 e1 0 v1 (by omega) (fun z => by omega)
      refine ⟨r', a', b', c', e', v', hp, ?_⟩
      have hz' : ¬ (0 : Int) < g.length + as.length := by omega
      simp only [Int.natCast_zero] at hg'
      simp [evF, ir__law_leaf, hd, hr0, el, hz', retR, -ev_tup, hg']
end TA

set_option Elab.async false
set_option linter.all false
set_option maxRecDepth 100000
/-! Pu16: expressions drawn. -/
namespace TA
open PySem
/-- names, rows, atoms, most names, variables -/
def castD (N R V : List Str) (as : List Atm) : D := .list [gL N, gL R, atsD as, .int 3, gL V]
section
variable {N R V : List Str} {as : List Atm}
@[simp] theorem cast_0 : elemD (castD N R V as) (.int 0) = some (gL N) := by simp [castD]
@[simp] theorem cast_1 : elemD (castD N R V as) (.int 1) = some (gL R) := by simp [castD]
@[simp] theorem cast_2 : elemD (castD N R V as) (.int 2) = some (atsD as) := by simp [castD]
@[simp] theorem cast_3 : elemD (castD N R V as) (.int 3) = some (.int 3) := by simp [castD]
@[simp] theorem cast_4 : elemD (castD N R V as) (.int 4) = some (gL V) := by simp [castD, atI]; rfl
end
theorem in_gL (x : Str) (g : List Str) : inD (.str x) (gL g) = some (decide (x ∈ g)) := in_names x g
theorem str_draw (ns : List Int) {g : List Str} (hne : 0 < g.length) (hl : g.length ≤ 100) {a b : Int} (c e : Int) (v : SV a b) (n : Nat) : ∃ x ∈ g, ∃ a' b' c' e', SV a' b' ∧ runN (n + 2) 27 [.val (scD ns), stW a b c e, .val (gL g)] = .ret (.val (.str x)) [stW a' b' c' e'] := by
  obtain ⟨r, a', b', c', e', v', ⟨x, hx, rfl⟩, hr⟩ := some_ok ns (d := gL g) (.inl rfl) (by simpa using hne) (by simp; omega) c e v n
  obtain ⟨y, hy, rfl⟩ := List.mem_map.mp hx
  exact ⟨y, hy, a', b', c', e', v', hr⟩
structure CastOk (N R V : List Str) (as : List Atm) : Prop where
  n : N.length ≤ 100
  r : R.length ≤ 100
  v : V.length ≤ 100
  a : as.length ≤ 100
  r0 : 0 < R.length
theorem open_draw (ns : List Int) {N R V : List Str} {as : List Atm} (C : CastOk N R V as) : ∀ (room : Nat) {g : List Str} {a b : Int} (c e : Int), SV a b → g.length ≤ 3 → 1 ≤ room → room ≤ 100 → ∀ n, room + 6 ≤ n →
    Draws ns n 31 [.val (gL g), .val (.int room), .val (castD N R V as)] a b c e fun r => ∃ p : Prt, p.Fr N R V as g ∧ p.dp ≤ room ∧ p.sz ≤ room ∧ g.length + p.nm ≤ 3 ∧ r = .val p.toD := by
  intro room
  induction room using Nat.strongRecOn with
  | _ room IH =>
    intro g a b c e v hg h1 h100 n hn
    obtain ⟨n, rfl⟩ : ∃ m, n = m + 6 := ⟨n - 6, by omega⟩
    have Nn := C.n
    have el : lenD (atsD as) = some as.length := by simp [atsD]
    obtain ⟨kind, a1, b1, c1, e1, k0, k1, v1, hd⟩ := draw_ok ns c e v (m := 10) (by omega) (by omega) (n + 4)
    -- the names left
    have st : ∀ x ∈ N, stepL (runN (n + 5)) [7] false (.loc 7) (.cmp .notin (.loc 7) (.loc 2)) [7] (.str x) [some (.val (scD ns)), some (stW a1 b1 c1 e1), some (.val (gL g)), some (.val (.int room)), some (.val (castD N R V as)), some (.val (.int kind)), none, none, none, none, none, none, none, none, none] =
        .ok ([some (.val (scD ns)), some (stW a1 b1 c1 e1), some (.val (gL g)), some (.val (.int room)), some (.val (castD N R V as)), some (.val (.int kind)), none, none, none, none, none, none, none, none, none], if decide (x ∉ g) then some (.val (.str x)) else none) := fun x hx => by
      have := in_gL x g
      by_cases h : x ∈ g
      · simp [stepL, this, h]
      · simp [stepL, this, h]
    have cl := compL_fg (acc := []) PyData.str (fun x => decide (x ∉ g)) st (by simp; omega)
    simp only [List.map_nil, List.nil_append] at cl
    have elf : W.toDs ((N.filter fun x => decide (x ∉ g)).map fun a => W.val (.str a)) = some ((N.filter fun x => decide (x ∉ g)).map .str) := toDs_lam _ _
    generalize hL : (N.filter fun x => decide (x ∉ g)) = left at cl elf
    have hleft : ∀ x ∈ left, x ∈ N ∧ x ∉ g := fun x hx => by
      rw [← hL, List.mem_filter] at hx
      exact ⟨hx.1, by simpa using hx.2⟩
    have hll : left.length ≤ 100 := by rw [← hL]; exact Nat.le_trans (List.length_filter_le _ _) C.n
    have items : ∀ (a b c e : Int), SV a b → 0 < g.length + as.length → Draws ns (n + 5) 28 [.val (gL g), .val (atsD as)] a b c e fun r => ∃ i : Itm, i.Fr g as ∧ r = .val i.toD := fun a b c e v h => item_draw ns h (by omega) C.a c e v (n + 2)
    by_cases K1 : (1 : Int) < room ∧ 0 < left.length ∧ (g.length : Int) < 3 ∧ (kind < 4 ∨ g = [] ∧ 5 < kind)
    · have K1c := K1.2.2.1
      have K1a := K1.1
      obtain ⟨x, hx, a2, b2, c2, e2, v2, h2⟩ := str_draw ns K1.2.1 hll c1 e1 v1 (n + 3)
      obtain ⟨r, hr, a3, b3, c3, e3, v3, h3⟩ := str_draw ns C.r0 C.r c2 e2 v2 (n + 3)
      obtain ⟨_, a4, b4, c4, e4, v4, ⟨p, f, pd, ps, pn, rfl⟩, h4⟩ := IH (room - 1) (by omega) (g := g ++ [x]) c3 e3 v3 (by simp; omega) (by omega) (by omega) (n + 5) (by omega)
      refine ⟨_, a4, b4, c4, e4, v4, ⟨.each x r p, ⟨(hleft x hx).1, (hleft x hx).2, hr, f⟩, by simp [Prt.dp]; omega, by simp [Prt.sz]; omega, by simp at pn; simp [Prt.nm]; omega, rfl⟩, ?_⟩
      have er : ((room : Int) - 1) = ((room - 1 : Nat) : Int) := by omega
      simp only [gL, List.map_append, List.map_cons, List.map_nil] at h4
      rw [rn__law_open]
      simp [evF, ir__law_open, hd, cl, el, elf, K1, h2, h3, er, h4, szOk_small (n := g.length + 1) (by omega), retR, Prt.toD]
    · by_cases K2 : (2 : Int) < room ∧ (kind < 2 ∨ kind = 4 ∨ kind = 5)
      · obtain ⟨r, a2, b2, c2, e2, r0, r1, v2, h2⟩ := draw_ok ns c1 e1 v1 (m := room - 2) (by omega) (by omega) (n + 4)
        obtain ⟨k, rfl⟩ : ∃ k : Nat, r = k := ⟨r.toNat, by omega⟩
        obtain ⟨_, a3, b3, c3, e3, v3, ⟨p, f, pd, ps, pn, rfl⟩, h3⟩ := IH (1 + k) (by omega) (g := g) c2 e2 v2 (by omega) (by omega) (by omega) (n + 5) (by omega)
        obtain ⟨_, a4, b4, c4, e4, v4, ⟨q, f', qd, qs, qn, rfl⟩, h4⟩ := IH (room - 1 - (1 + k)) (by omega) (g := g) c3 e3 v3 (by omega) (by omega) (by omega) (n + 5) (by omega)
        refine ⟨_, a4, b4, c4, e4, v4, ⟨.choice p q, ⟨f, f'⟩, by simp [Prt.dp]; omega, by simp [Prt.sz]; omega, by simp [Prt.nm]; omega, rfl⟩, ?_⟩
        have er : ((room : Int) - 1 - (1 + k)) = ((room - 1 - (1 + k) : Nat) : Int) := by omega
        have er2 : ((1 : Int) + k) = ((1 + k : Nat) : Int) := by omega
        rw [rn__law_open]
        rw [er2] at er
        simp [-Int.natCast_add, evF, ir__law_open, hd, cl, el, elf, K1, K2, h2, er2, h3, er, h4, retR, Prt.toD]
      · by_cases K3 : (room : Int) < 2 ∨ kind = 8 ∨ (g.length : Int) + as.length ≤ 0
        · obtain ⟨_, a2, b2, c2, e2, v2, ⟨p, f, pd, ps, pn, rfl⟩, h2⟩ := leaf_draw ns N R V (g := g) (by omega) C.a c1 e1 v1 (n + 1)
          refine ⟨_, a2, b2, c2, e2, v2, ⟨p, f, by omega, by omega, by omega, rfl⟩, ?_⟩
          rw [rn__law_open]
          simp [evF, ir__law_open, hd, cl, el, elf, K1, K2, K3, h2, retR]
        · have hne : 0 < g.length + as.length := by omega
          have hr2 : 2 ≤ room := by omega
          have er : ((room : Int) - 1) = ((room - 1 : Nat) : Int) := by omega
          by_cases K4 : kind = 9 ∧ 0 < V.length
          · obtain ⟨rfl, hV⟩ := K4
            obtain ⟨_, a2, b2, c2, e2, v2, ⟨i, fi, rfl⟩, h2⟩ := items a1 b1 c1 e1 v1 hne
            obtain ⟨x, hx, a3, b3, c3, e3, v3, h3⟩ := str_draw ns hV C.v c2 e2 v2 (n + 3)
            obtain ⟨_, a4, b4, c4, e4, v4, ⟨p, f, pd, ps, pn, rfl⟩, h4⟩ := IH (room - 1) (by omega) (g := g) c3 e3 v3 (by omega) (by omega) (by omega) (n + 5) (by omega)
            refine ⟨_, a4, b4, c4, e4, v4, ⟨.last x i p, ⟨hx, fi, f⟩, by simp [Prt.dp]; omega, by simp [Prt.sz]; omega, by simp [Prt.nm]; omega, rfl⟩, ?_⟩
            rw [rn__law_open]
            have K1n : ¬ ((1 : Int) < room ∧ 0 < left.length ∧ (g.length : Int) < 3 ∧ g = []) := fun z => K1 ⟨z.1, z.2.1, z.2.2.1, .inr ⟨z.2.2.2, by decide⟩⟩
            simp at K3
            simp [evF, ir__law_open, hd, cl, el, elf, K1n, K3, show ¬ (room : Int) < 2 by omega, hV, h2, h3, er, h4, retR, Prt.toD]
          · obtain ⟨_, a2, b2, c2, e2, v2, ⟨t, ft, rfl⟩, h2⟩ := test_draw ns hne (by omega) C.a c1 e1 v1 (n + 1)
            obtain ⟨_, a4, b4, c4, e4, v4, ⟨p, f, pd, ps, pn, rfl⟩, h4⟩ := IH (room - 1) (by omega) (g := g) c2 e2 v2 (by omega) (by omega) (by omega) (n + 5) (by omega)
            refine ⟨_, a4, b4, c4, e4, v4, ⟨.when t p, ⟨ft, f⟩, by simp [Prt.dp]; omega, by simp [Prt.sz]; omega, by simp [Prt.nm]; omega, rfl⟩, ?_⟩
            rw [rn__law_open]
            simp [evF, ir__law_open, hd, cl, el, elf, K1, K2, K3, K4, h2, er, h4, retR, Prt.toD]
end TA

set_option Elab.async false
set_option linter.all false
set_option maxRecDepth 100000
/-! Pu17: nests, parts with their places. -/
namespace TA
open PySem
/-! ### _law_parts -/
def Spot.lD (s : Spot) : D := .tuple [plD s.pl, s.p.toD, .list (s.prs.map prD), .list (s.ts.map Tst.toD)]
abbrev spW (l : List Spot) : W := .lst (l.map fun s => .val s.lD)
theorem kinds_lit (d : D) (k : Str) (ds : List D) (h : d = .tuple (.str k :: ds)) : elemD d (.int 0) = some (.str k) := by rw [h]; simp
@[simp] theorem toD_none : elemD Prt.none.toD (.int 0) = some (.str (S "none")) := by simp [Prt.toD]
@[simp] theorem toD_give (is : List Itm) : elemD (Prt.give is).toD (.int 0) = some (.str (S "give")) := by simp [Prt.toD]
@[simp] theorem toD_each (x r : Str) (p : Prt) : elemD (Prt.each x r p).toD (.int 0) = some (.str (S "each")) := by simp [Prt.toD]
@[simp] theorem toD_each1 (x r : Str) (p : Prt) : elemD (Prt.each x r p).toD (.int 1) = some (.str x) := by simp [Prt.toD]
@[simp] theorem toD_each2 (x r : Str) (p : Prt) : elemD (Prt.each x r p).toD (.int 2) = some (.str r) := by simp [Prt.toD]
@[simp] theorem toD_each3 (x r : Str) (p : Prt) : elemD (Prt.each x r p).toD (.int 3) = some p.toD := by simp [Prt.toD]
@[simp] theorem toD_last (x : Str) (i : Itm) (p : Prt) : elemD (Prt.last x i p).toD (.int 0) = some (.str (S "last")) := by simp [Prt.toD]
@[simp] theorem toD_last3 (x : Str) (i : Itm) (p : Prt) : elemD (Prt.last x i p).toD (.int 3) = some p.toD := by simp [Prt.toD]
@[simp] theorem toD_when (t : Tst) (p : Prt) : elemD (Prt.when t p).toD (.int 0) = some (.str (S "when")) := by simp [Prt.toD]
@[simp] theorem toD_when1 (t : Tst) (p : Prt) : elemD (Prt.when t p).toD (.int 1) = some t.toD := by simp [Prt.toD]
@[simp] theorem toD_when2 (t : Tst) (p : Prt) : elemD (Prt.when t p).toD (.int 2) = some p.toD := by simp [Prt.toD]
@[simp] theorem toD_choice (p q : Prt) : elemD (Prt.choice p q).toD (.int 0) = some (.str (S "choice")) := by simp [Prt.toD]
@[simp] theorem toD_choice1 (p q : Prt) : elemD (Prt.choice p q).toD (.int 1) = some p.toD := by simp [Prt.toD]
@[simp] theorem toD_choice2 (p q : Prt) : elemD (Prt.choice p q).toD (.int 2) = some q.toD := by simp [Prt.toD]
@[simp] theorem mth_extend (ws us : List W) : mthW .extend (.lst ws) [.lst us] = if szOk (ws.length + us.length) then some (.val .none, .lst (ws ++ us)) else none := by simp [mthW]
theorem spots_len : ∀ (p : Prt) (pl : List Int) (prs : List (Str × Str)) (ts : List Tst), (p.spots pl prs ts).length = p.sz
  | .none, _, _, _ | .give _, _, _, _ => by simp [Prt.spots, Prt.sz]
  | .each _ _ p, _, _, _ | .last _ _ p, _, _, _ | .when _ p, _, _, _ => by simp [Prt.spots, Prt.sz, spots_len p]
  | .choice p q, _, _, _ => by simp [Prt.spots, Prt.sz, spots_len p, spots_len q]
theorem run_parts : ∀ (p : Prt) (pl : List Int) (prs : List (Str × Str)) (ts : List Tst), p.sz + pl.length ≤ 100 → p.sz + prs.length ≤ 100 → p.sz + ts.length ≤ 100 → ∀ n, p.dp ≤ n →
    runN n 35 [.val p.toD, .val (plD pl), .val (.list (prs.map prD)), .val (.list (ts.map Tst.toD))] = .ret (spW (p.spots pl prs ts)) []
  | .none, pl, prs, ts, h1, h2, h3, n, hn => by
    obtain ⟨m, rfl⟩ : ∃ m, n = m + 1 := ⟨n - 1, by simp [Prt.dp] at hn; omega⟩
    rw [rn__law_parts]
    simp [evF, ir__law_parts, retR, Prt.spots, Spot.lD]
  | .give is, pl, prs, ts, h1, h2, h3, n, hn => by
    obtain ⟨m, rfl⟩ : ∃ m, n = m + 1 := ⟨n - 1, by simp [Prt.dp] at hn; omega⟩
    rw [rn__law_parts]
    simp [evF, ir__law_parts, retR, Prt.spots, Spot.lD]
  | .each x r p, pl, prs, ts, h1, h2, h3, n, hn => by
    simp only [Prt.dp, Prt.sz] at hn h1 h2 h3
    obtain ⟨m, rfl⟩ : ∃ m, n = m + 1 := ⟨n - 1, by omega⟩
    have ih := run_parts p (pl ++ [3]) (prs ++ [(x, r)]) ts (by simp; omega) (by simp; omega) (by omega) m (by omega)
    have hl := spots_len p (pl ++ [3]) (prs ++ [(x, r)]) ts
    simp only [plD, List.map_append, List.map_cons, List.map_nil, prD] at ih
    rw [rn__law_parts]
    simp [evF, ir__law_parts, retR, szOk_small (n := pl.length + 1) (by omega), szOk_small (n := prs.length + 1) (by omega)]
    rw [ih]
    simp [hl, szOk_small (n := 1 + p.sz) (by omega), Prt.spots, Spot.lD]
  | .last x i p, pl, prs, ts, h1, h2, h3, n, hn => by
    simp only [Prt.dp, Prt.sz] at hn h1 h2 h3
    obtain ⟨m, rfl⟩ : ∃ m, n = m + 1 := ⟨n - 1, by omega⟩
    have ih := run_parts p (pl ++ [3]) prs ts (by simp; omega) (by omega) (by omega) m (by omega)
    have hl := spots_len p (pl ++ [3]) prs ts
    simp only [plD, List.map_append, List.map_cons, List.map_nil] at ih
    rw [rn__law_parts]
    simp [evF, ir__law_parts, retR, szOk_small (n := pl.length + 1) (by omega), ih, hl, szOk_small (n := 1 + p.sz) (by omega), Prt.spots, Spot.lD]
  | .when t p, pl, prs, ts, h1, h2, h3, n, hn => by
    simp only [Prt.dp, Prt.sz] at hn h1 h2 h3
    obtain ⟨m, rfl⟩ : ∃ m, n = m + 1 := ⟨n - 1, by omega⟩
    have ih := run_parts p (pl ++ [2]) prs (ts ++ [t]) (by simp; omega) (by omega) (by simp; omega) m (by omega)
    have hl := spots_len p (pl ++ [2]) prs (ts ++ [t])
    simp only [plD, List.map_append, List.map_cons, List.map_nil] at ih
    rw [rn__law_parts]
    simp [evF, ir__law_parts, retR, szOk_small (n := pl.length + 1) (by omega), szOk_small (n := ts.length + 1) (by omega), ih, hl, szOk_small (n := 1 + p.sz) (by omega), Prt.spots, Spot.lD]
  | .choice p q, pl, prs, ts, h1, h2, h3, n, hn => by
    simp only [Prt.dp, Prt.sz] at hn h1 h2 h3
    obtain ⟨m, rfl⟩ : ∃ m, n = m + 1 := ⟨n - 1, by omega⟩
    have ih1 := run_parts p (pl ++ [1]) prs ts (by simp; omega) (by omega) (by omega) m (by omega)
    have hl1 := spots_len p (pl ++ [1]) prs ts
    have ih2 := run_parts q (pl ++ [2]) prs ts (by simp; omega) (by omega) (by omega) m (by omega)
    have hl2 := spots_len q (pl ++ [2]) prs ts
    simp only [plD, List.map_append, List.map_cons, List.map_nil] at ih1 ih2
    rw [rn__law_parts]
    simp [evF, ir__law_parts, retR, szOk_small (n := pl.length + 1) (by omega), ih1, hl1, ih2, hl2, szOk_small (n := 1 + p.sz) (by omega), szOk_small (n := p.sz + 1 + q.sz) (by omega), Prt.spots, Spot.lD]
end TA

set_option Elab.async false
set_option linter.all false
set_option maxRecDepth 100000
/-! Pu18: nests. -/
namespace TA
open PySem
theorem dp_pos (p : Prt) : 1 ≤ p.dp := by cases p <;> simp [Prt.dp] <;> omega
theorem cut_take {α : Type} (f : α → D) (N : List α) (m : Nat) : cutL (N.map f) none (some (m : Int)) = (N.take m).map f := by
  have s2 : TA.sIx (N.map f).length (N.map f).length (some (m : Int)) = min m N.length := by
    simp only [TA.sIx]
    rw [if_neg (by omega)]
    simp
  have s1 : TA.sIx (N.map f).length 0 none = 0 := rfl
  unfold cutL
  rw [s1, s2]
  simp only [List.drop_zero, Nat.sub_zero, List.map_take]
  rcases Nat.le_total m N.length with h | h
  · rw [Nat.min_eq_left h]
  · rw [Nat.min_eq_right h, List.take_of_length_le (by simp), List.take_of_length_le (by simpa using h)]
theorem slice_gL (N : List Str) (m : Nat) : sliceD (gL N) none (some (m : Int)) = some (.lst ((N.take m).map fun x => .val (.str x))) := by
  simp only [sliceD, cut_take, List.map_map]
  rfl
theorem take_len (N : List Str) (m : Nat) (h : N.length ≤ 100) : (N.take m).length ≤ 100 := by rw [List.length_take]; omega
@[simp] theorem partW_int (i : Int) : partW (.val (.int i)) = some i := rfl
@[simp] theorem isNo_no : IE.isNo .no = true := rfl
@[simp] theorem isNo_loc (i : Nat) : IE.isNo (.loc i) = false := rfl
@[simp] theorem isNo_lit (d : D) : IE.isNo (.lit d) = false := rfl
@[simp] theorem isNo_neg (a : IE) : IE.isNo (.neg a) = false := rfl
section
variable (ns : List Int) {N R V : List Str} {as : List Atm} (C : CastOk N R V as)
include C
theorem nest_turn0 (m : Nat) (hne : 0 < (N.take m).length + as.length) (n : Nat) {a b : Int} (c e : Int) (v : SV a b) (k : Nat) {p : Prt} (f : p.Fr N R V as (N.take m)) (x5 x6 : Option W) : ∃ t a' b' c' e', SV a' b' ∧ Tst.Fr (N.take m) as t ∧
    turnF (runN (n + 4)) subT 1000 [1] [5] false lb__law_nest_0 (.int k) [some (.val (scD ns)), some (stW a b c e), some (.val (castD N R V as)), some (.val (.int m)), some (.val p.toD), x5, x6] =
      .next [some (.val (scD ns)), some (stW a' b' c' e'), some (.val (castD N R V as)), some (.val (.int m)), some (.val (Prt.when t (if k = 3 then .choice .none p else p)).toD), some (.val (.int k)), some (.val t.toD)] := by
  obtain ⟨_, a', b', c', e', v', ⟨t, ft, rfl⟩, h⟩ := test_draw ns hne (take_len N m C.n) C.a c e v n
  refine ⟨t, a', b', c', e', v', ft, ?_⟩
  have e1 := slice_gL N m
  have e2 : W.toDs ((N.take m).map fun x => W.val (.str x)) = some ((N.take m).map .str) := toDs_lam _ _
  by_cases hk : k = 3
  · subst hk
    simp [turnF, lb__law_nest_0, e1, e2, -List.map_take, h, Prt.toD]
  · simp [turnF, lb__law_nest_0, e1, e2, -List.map_take, h, Prt.toD, show ¬ (k : Int) = 3 by omega, hk]
theorem nest_loop0 (m : Nat) (hne : 0 < (N.take m).length + as.length) (n : Nat) : ∀ (j k : Nat) {a b : Int} (c e : Int), SV a b → ∀ {p : Prt}, p.Fr N R V as (N.take m) → ∀ (x5 x6 : Option W), ∃ q a' b' c' e' x5' x6', SV a' b' ∧ Prt.Fr N R V as (N.take m) q ∧
    q.dp ≤ p.dp + j + (if k ≤ 3 ∧ 3 < k + j then 1 else 0) ∧ q.sz ≤ p.sz + j + (if k ≤ 3 ∧ 3 < k + j then 2 else 0) ∧ q.nm = p.nm ∧
    forL (turnF (runN (n + 4)) subT 1000 [1] [5] false lb__law_nest_0) ((List.range' k j).map fun (i : Nat) => .int i) [some (.val (scD ns)), some (stW a b c e), some (.val (castD N R V as)), some (.val (.int m)), some (.val p.toD), x5, x6] =
      .next [some (.val (scD ns)), some (stW a' b' c' e'), some (.val (castD N R V as)), some (.val (.int m)), some (.val q.toD), x5', x6']
  | 0, k, a, b, c, e, v, p, f, x5, x6 => ⟨p, a, b, c, e, x5, x6, v, f, by simp, by simp, rfl, rfl⟩
  | j + 1, k, a, b, c, e, v, p, f, x5, x6 => by
    obtain ⟨t, a1, b1, c1, e1, v1, ft, st⟩ := nest_turn0 ns C m hne n c e v k f x5 x6
    have f1 : (Prt.when t (if k = 3 then .choice .none p else p)).Fr N R V as (N.take m) := by
      refine ⟨ft, ?_⟩
      split
      · exact ⟨trivial, f⟩
      · exact f
    obtain ⟨q, a2, b2, c2, e2, y5, y6, v2, f2, d2, s2, n2, h2⟩ := nest_loop0 m hne n j (k + 1) c1 e1 v1 f1 (some (.val (.int k))) (some (.val t.toD))
    refine ⟨q, a2, b2, c2, e2, y5, y6, v2, f2, ?_, ?_, ?_, ?_⟩
    · by_cases hk : k = 3
      · subst hk
        have hp := dp_pos p
        simp only [if_true, Prt.dp] at d2
        split at d2 <;> split <;> omega
      · simp only [hk, if_false, Prt.dp] at d2
        split at d2 <;> split <;> omega
    · by_cases hk : k = 3
      · subst hk
        simp only [if_true, Prt.sz] at s2
        split at s2 <;> split <;> omega
      · simp only [hk, if_false, Prt.sz] at s2
        split at s2 <;> split <;> omega
    · rw [n2]
      simp only [Prt.nm]
      split <;> simp [Prt.nm]
    · rw [List.range'_succ, List.map_cons, forL_next st]
      exact h2
theorem nest_turn1 (hN : N.length = 3) (m k : Nat) (hk : k < m) (hm : m ≤ 3) (n : Nat) {a b : Int} (c e : Int) (v : SV a b) {p : Prt} (x5 x6 : Option W) : ∃ r a' b' c' e', SV a' b' ∧ r ∈ R ∧ ∃ h : m - 1 - k < N.length,
    turnF (runN (n + 2)) subT 1000 [1] [5] false lb__law_nest_1 (.int k) [some (.val (scD ns)), some (stW a b c e), some (.val (castD N R V as)), some (.val (.int m)), some (.val p.toD), x5, x6] =
      .next [some (.val (scD ns)), some (stW a' b' c' e'), some (.val (castD N R V as)), some (.val (.int m)), some (.val (Prt.each N[m - 1 - k] r p).toD), some (.val (.int k)), x6] := by
  obtain ⟨r, hr, a', b', c', e', v', h⟩ := str_draw ns C.r0 C.r c e v n
  refine ⟨r, a', b', c', e', v', hr, by omega, ?_⟩
  have ei : atI (N.map PyData.str) ((m : Int) - 1 - k) = some (.str N[m - 1 - k]) := by
    rw [show ((m : Int) - 1 - k) = ((m - 1 - k : Nat) : Int) by omega, atI_nat]
    simp [show m - 1 - k < N.length by omega]
  simp [turnF, lb__law_nest_1, ei, h, Prt.toD]
theorem nest_loop1 (hN : N.length = 3) (nd : N.Nodup) (m : Nat) (hm : m ≤ 3) (n : Nat) : ∀ (j k : Nat), k + j = m → ∀ {a b : Int} (c e : Int), SV a b → ∀ {p : Prt}, p.Fr N R V as (N.take (m - k)) → ∀ (x5 x6 : Option W), ∃ q a' b' c' e' x5', SV a' b' ∧ Prt.Fr N R V as [] q ∧
    q.dp = p.dp + j ∧ q.sz = p.sz + j ∧ q.nm = p.nm + j ∧
    forL (turnF (runN (n + 2)) subT 1000 [1] [5] false lb__law_nest_1) ((List.range' k j).map fun (i : Nat) => .int i) [some (.val (scD ns)), some (stW a b c e), some (.val (castD N R V as)), some (.val (.int m)), some (.val p.toD), x5, x6] =
      .next [some (.val (scD ns)), some (stW a' b' c' e'), some (.val (castD N R V as)), some (.val (.int m)), some (.val q.toD), x5', x6]
  | 0, k, hk, a, b, c, e, v, p, f, x5, x6 => ⟨p, a, b, c, e, x5, v, by rw [show m - k = 0 by omega, List.take_zero] at f; exact f, by simp, by simp, by simp, rfl⟩
  | j + 1, k, hk, a, b, c, e, v, p, f, x5, x6 => by
    obtain ⟨r, a1, b1, c1, e1, v1, hr, hi, st⟩ := nest_turn1 ns C hN m k (by omega) hm n c e v (p := p) x5 x6
    have e0 : m - (k + 1) = m - 1 - k := by omega
    have et : N.take (m - k) = N.take (m - (k + 1)) ++ [N[m - 1 - k]] := by
      rw [e0, show m - k = (m - 1 - k) + 1 by omega, List.take_succ_eq_append_getElem (by omega)]
    have f1 : (Prt.each N[m - 1 - k] r p).Fr N R V as (N.take (m - (k + 1))) := by
      refine ⟨List.getElem_mem _, fun h => ?_, hr, by rw [← et]; exact f⟩
      have := List.Nodup.sublist (List.take_sublist (m - k) N) nd
      rw [et, List.nodup_append] at this
      exact this.2.2 _ h _ (by simp) rfl
    obtain ⟨q, a2, b2, c2, e2, y5, v2, f2, d2, s2, n2, h2⟩ := nest_loop1 hN nd m hm n j (k + 1) (by omega) c1 e1 v1 f1 (some (.val (.int k))) x6
    refine ⟨q, a2, b2, c2, e2, y5, v2, f2, by rw [d2]; simp only [Prt.dp]; omega, by rw [s2]; simp only [Prt.sz]; omega, by rw [n2]; simp only [Prt.nm]; omega, ?_⟩
    rw [List.range'_succ, List.map_cons, forL_next st]
    exact h2
theorem nest_draw (hN : N.length = 3) (nd : N.Nodup) {a b : Int} (c e : Int) (v : SV a b) (n : Nat) : Draws ns (n + 5) 36 [.val (castD N R V as)] a b c e fun r => ∃ p : Prt, p.Fr N R V as [] ∧ p.dp ≤ 11 ∧ p.sz ≤ 12 ∧ p.nm ≤ 3 ∧ r = .val p.toD := by
  obtain ⟨r, a1, b1, c1, e1, r0, r1, v1, h1⟩ := draw_ok ns c e v (m := 3) (by omega) (by omega) (n + 3)
  obtain ⟨k, rfl⟩ : ∃ k : Nat, r = k := ⟨r.toNat, by omega⟩
  obtain ⟨_, a2, b2, c2, e2, v2, ⟨p, f, pd, ps, pn, rfl⟩, h2⟩ := leaf_draw ns N R V (g := N.take (1 + k)) (take_len N _ C.n) C.a c1 e1 v1 n
  obtain ⟨r, a3, b3, c3, e3, q0, q1, v3, h3⟩ := draw_ok ns c2 e2 v2 (m := 7) (by omega) (by omega) (n + 3)
  obtain ⟨j, rfl⟩ : ∃ k : Nat, r = k := ⟨r.toNat, by omega⟩
  obtain ⟨q, a4, b4, c4, e4, y5, y6, v4, f4, d4, s4, n4, h4⟩ := nest_loop0 ns C (1 + k) (by rw [List.length_take]; omega) n j 0 c3 e3 v3 f none none
  obtain ⟨u, a5, b5, c5, e5, z5, v5, f5, d5, s5, n5, h5⟩ := nest_loop1 ns C hN nd (1 + k) (by omega) (n + 2) (1 + k) 0 (by omega) c4 e4 v4 (p := q) (by simpa using f4) y5 y6
  refine ⟨_, a5, b5, c5, e5, v5, ⟨u, f5, ?_, ?_, ?_, rfl⟩, ?_⟩
  · rw [d5]; split at d4 <;> omega
  · rw [s5]; split at s4 <;> omega
  · rw [n5, n4, pn]; omega
  · have e1 := slice_gL N (1 + k)
    have e2 : W.toDs ((N.take (1 + k)).map fun x => W.val (.str x)) = some ((N.take (1 + k)).map .str) := toDs_lam _ _
    have er2 : ((1 : Int) + k) = ((1 + k : Nat) : Int) := by omega
    have g1 := rng1_nat j (by omega)
    have g2 := rng1_nat (1 + k) (by omega)
    rw [List.range_eq_range'] at g1 g2
    rw [rn__law_nest]
    simp [-Int.natCast_add, evF, ir__law_nest, h1, er2, e1, e2, -List.map_take, h2, h3, g1, -rng1_int, h4, g2, h5, retR]
end
end TA

set_option Elab.async false
set_option linter.all false
set_option maxRecDepth 100000
/-! Pu19: tests asked; listed. -/
namespace TA
open PySem
theorem Itm.Fr.ok {g : List Str} {as : List Atm} {i : Itm} (h : i.Fr g as) (hg : ∀ x ∈ g, x ∈ nms) (ha : ∀ a ∈ as, AtOk a) : i.Ok g := by
  cases i with
  | name x => exact ⟨hg x h, h⟩
  | atom a => exact ha a h
theorem Tst.Fr.ok {g : List Str} {as : List Atm} {t : Tst} (h : t.Fr g as) (hg : ∀ x ∈ g, x ∈ nms) (ha : ∀ a ∈ as, AtOk a) : t.Ok g := ⟨h.1.ok hg ha, h.2.ok hg ha⟩
theorem lD_0 (s : Spot) : elemD s.lD (.int 0) = some (plD s.pl) := by simp [Spot.lD]
theorem lD_1 (s : Spot) : elemD s.lD (.int 1) = some s.p.toD := by simp [Spot.lD]
theorem lD_2 (s : Spot) : elemD s.lD (.int 2) = some (.list (s.prs.map prD)) := by simp [Spot.lD]
theorem lD_3 (s : Spot) : elemD s.lD (.int 3) = some (.list (s.ts.map Tst.toD)) := by simp [Spot.lD]
/-- the names given at a spot, by the law -/
theorem given_lc (F : Nat → List W → FRes) (s : Spot) (h : s.prs.length ≤ 100) (i : Nat) (env0 : Env) (hs : ∀ x : Str × Str, stepL F [i] false (.idx (.loc i) (.lit (.int (0)))) (.lit (.bool true)) [i] (prD x) env0 = .ok (env0, some (.val (.str x.1)))) :
    compL (stepL F [i] false (.idx (.loc i) (.lit (.int (0)))) (.lit (.bool true)) [i]) (s.prs.map prD) env0 [] = .ok (env0, (nmsOf s.prs).map fun x => .val (.str x)) := by
  have hs' : ∀ d ∈ s.prs.map prD, stepL F [i] false (.idx (.loc i) (.lit (.int (0)))) (.lit (.bool true)) [i] d env0 = .ok (env0, some (.val (match d with
      | .tuple (.str x :: _) => .str x
      | _ => .none))) := fun d hd => by
    obtain ⟨x, _, rfl⟩ := List.mem_map.mp hd
    rw [hs]
    rfl
  have c := compL_map (acc := []) hs' (by simp; omega)
  rw [List.map_map, List.nil_append] at c
  rw [c]
  simp only [nmsOf, List.map_map]
  rfl
@[simp] theorem opp_al (b : Bool) : elemD (.dict [(.str (S "alike"), .str (S "unlike")), (.str (S "unlike"), .str (S "alike"))]) (.str (alS b)) = some (.str (alS !b)) := by
  cases b <;> rfl
theorem dicL_opp : dicLW [S "alike", S "unlike"] [S "unlike", S "alike"] = some (.dic [.str (S "alike"), .str (S "unlike")] [.val (.str (S "unlike")), .val (.str (S "alike"))]) := by rfl
@[simp] theorem flat_dic (ks : List D) (ws : List W) : (W.dic ks ws).flat = (valsW ws).map fun ds => .dict (ks.zip ds) := by simp only [W.flat]
theorem itm_blist (i : Itm) : ∃ p q, i.toD = .tuple [p, q] ∧ frz p = p ∧ frz q = q := by
  cases i with
  | name x => exact ⟨_, _, rfl, rfl, rfl⟩
  | atom a => exact ⟨_, _, rfl, rfl, by cases a <;> rfl⟩
theorem asked_draw (ns : List Int) {s : Spot} (so : s.Ok) (hp : s.prs.length ≤ 3) (ht : s.ts.length ≤ 40) {as : List Atm} (ha : ∀ a ∈ as, AtOk a) (ha0 : 0 < as.length) (hal : as.length ≤ 100) {a b : Int} (c e : Int) (v : SV a b) (n : Nat) :
    Draws ns (n + 5) 37 [.val s.lD, .val (atsD as)] a b c e fun r => ∃ td t, r.toD = some td ∧ frz td = Tst.toD t ∧ t.Ok (nmsOf s.prs) := by
  obtain ⟨turn, a1, b1, c1, e1, k0, k1, v1, hd⟩ := draw_ok ns c e v (m := 6) (by omega) (by omega) (n + 3)
  have hn : (nmsOf s.prs).length ≤ 100 := by simp [nmsOf]; omega
  have gl := given_lc (runN (n + 4)) s (by omega) 5 [some (.val (scD ns)), some (stW a b c e), some (.val s.lD), some (.val (atsD as)), none, none, none, none, none, none, none] (fun x => by simp [stepL, e0_prD])
  have eg : W.toDs ((nmsOf s.prs).map fun x => W.val (.str x)) = some ((nmsOf s.prs).map .str) := toDs_lam _ _
  unfold Draws
  by_cases K1 : turn < 2 ∧ s.ts ≠ []
  · obtain ⟨w, a2, b2, c2, e2, v2, ⟨x, hx, rfl⟩, h2⟩ := some_ok ns (d := .list (s.ts.map Tst.toD)) (.inl rfl) (by simpa using List.length_pos_iff.mpr K1.2) (by simp; omega) c1 e1 v1 (n + 2)
    obtain ⟨u, hu, rfl⟩ := List.mem_map.mp hx
    have ok := so.ts u hu
    have hnil : (s.ts.map Tst.toD).isEmpty = false := by simpa using K1.2
    have et : u.toD = .tuple [.str (alS u.al), u.a.toD, u.b.toD] := rfl
    rw [rn__law_asked]
    by_cases k0 : turn = 0
    · refine ⟨.val (Tst.toD ⟨u.al, u.b, u.a⟩), a2, b2, c2, e2, v2, ⟨_, ⟨u.al, u.b, u.a⟩, by simp, frz_tst (g := nmsOf s.prs) ⟨ok.2, ok.1⟩, ⟨ok.2, ok.1⟩⟩, ?_⟩
      rw [et] at h2
      simp [evF, ir__law_asked, lD_2, lD_3, gl, hd, eqD_nil, K1.2, k0, h2, retR, Tst.toD]
    · obtain ⟨p, q, eb, fp, fq⟩ := itm_blist u.b
      refine ⟨.lst [.val (.str (alS !u.al)), .lst [.val p, .val q], .val u.a.toD], a2, b2, c2, e2, v2, ⟨.list [.str (alS !u.al), .list [p, q], u.a.toD], ⟨!u.al, u.b, u.a⟩, by simp, ?_, ⟨ok.2, ok.1⟩⟩, ?_⟩
      · simp only [frz, frzs, Tst.toD, eb, fp, fq, frz_itm ok.1]
      · rw [et] at h2
        have ebl : bltD .list [u.b.toD] = some (.lst [.val p, .val q]) := by rw [eb]; rfl
        simp [evF, ir__law_asked, lD_2, lD_3, gl, hd, eqD_nil, K1.1, K1.2, k0, h2, retR, dicL_opp, ebl]
  · by_cases K2 : turn = 2 ∧ nmsOf s.prs ≠ []
    · obtain ⟨rfl, hne⟩ := K2
      obtain ⟨x, hx, a2, b2, c2, e2, v2, h2⟩ := str_draw ns (List.length_pos_iff.mpr hne) hn c1 e1 v1 (n + 2)
      have ok : (⟨true, .name x, .name x⟩ : Tst).Ok (nmsOf s.prs) := ⟨⟨so.nn x hx, hx⟩, ⟨so.nn x hx, hx⟩⟩
      refine ⟨.val (Tst.toD ⟨true, .name x, .name x⟩), a2, b2, c2, e2, v2, ⟨_, _, W.toD_val _, frz_tst ok, ok⟩, ?_⟩
      rw [rn__law_asked]
      simp [evF, ir__law_asked, lD_2, lD_3, gl, hd, eqD_nil, eg, hne, h2, retR, Tst.toD, Itm.toD, alS]
    · obtain ⟨_, a2, b2, c2, e2, v2, ⟨t, ft, rfl⟩, h2⟩ := test_draw ns (g := nmsOf s.prs) (as := as) (by omega) hn hal c1 e1 v1 n
      have ok := ft.ok so.nn ha
      refine ⟨_, a2, b2, c2, e2, v2, ⟨_, t, W.toD_val _, frz_tst ok, ok⟩, ?_⟩
      rw [rn__law_asked]
      simp [evF, ir__law_asked, lD_2, lD_3, gl, hd, eqD_nil, eg, K1, K2, h2, retR]
/-! ### _law_listed -/
theorem listed_items (ns : List Int) (n : Nat) (x2 : Option W) (x3 : Option W) : ∀ (ds : List D), (∀ d ∈ ds, ∀ {a b : Int} (c e : Int), SV a b → Draws ns (n + 1) 43 [.val d] a b c e fun r => ∃ d', r.toD = some d' ∧ frz d' = d) →
    ∀ (ws : List W) {a b : Int} (c e : Int), SV a b → ws.length + ds.length ≤ 1000 → ∃ us es a' b' c' e', SV a' b' ∧ W.toDs us = some es ∧ es.map frz = ds ∧
      compL (stepL (runN (n + 1)) [4] false (.call 43 [.loc 0, .io 1, .loc 4]) (.lit (.bool true)) [4]) ds [some (.val (scD ns)), some (stW a b c e), x2, x3, none] ws = .ok ([some (.val (scD ns)), some (stW a' b' c' e'), x2, x3, none], ws ++ us)
  | [], _, ws, a, b, c, e, v, _ => ⟨[], [], a, b, c, e, v, rfl, rfl, by simp [compL]⟩
  | d :: ds, h, ws, a, b, c, e, v, hl => by
    simp only [List.length_cons] at hl
    obtain ⟨w, a1, b1, c1, e1, v1, ⟨d', hw, hf⟩, h1⟩ := h d (by simp) c e v
    obtain ⟨us, es, a2, b2, c2, e2, v2, hu, he, h2⟩ := listed_items ns n x2 x3 ds (fun x hx => h x (List.mem_cons_of_mem _ hx)) (ws ++ [w]) c1 e1 v1 (by simp; omega)
    refine ⟨w :: us, d' :: es, a2, b2, c2, e2, v2, by simp [hw, hu], by simp [hf, he], ?_⟩
    have st : stepL (runN (n + 1)) [4] false (.call 43 [.loc 0, .io 1, .loc 4]) (.lit (.bool true)) [4] d [some (.val (scD ns)), some (stW a b c e), x2, x3, none] = .ok ([some (.val (scD ns)), some (stW a1 b1 c1 e1), x2, x3, none], some w) := by
      simp [stepL, h1]
    rw [compL, st]
    simp only [Res.bind_ok]
    rw [if_pos (szOk_small (by omega)), h2]
    simp
theorem listed_draw (ns : List Int) {k : Nat} {d : D} (sm : Sm k d) : frz d = d → ∀ {a b : Int} (c e : Int), SV a b → ∀ n, k + 3 ≤ n → Draws ns n 43 [.val d] a b c e fun r => ∃ d', r.toD = some d' ∧ frz d' = d := by
  induction sm with
  | lst l h ih =>
    intro hf
    rw [frz] at hf
    cases hf
  | tup l h ih =>
    intro hf a b c e v n hn
    rename_i k ds
    obtain ⟨n, rfl⟩ : ∃ m, n = m + 2 := ⟨n - 2, by omega⟩
    have hf' : ∀ d ∈ ds, frz d = d := by
      rw [frz, frzs_map] at hf
      have e1 : ds.map frz = ds.map id := by
        rw [List.map_id]
        exact PyData.tuple.inj hf
      exact List.map_inj_left.mp e1
    obtain ⟨us, es, a1, b1, c1, e1, v1, hu, he, h1⟩ := listed_items ns n (some (.val (.tuple ds))) none ds (fun d hd a b c e v => ih d hd (hf' d hd) c e v (n + 1) (by omega)) [] c e v (by simp; omega)
    obtain ⟨r, a2, b2, c2, e2, r0, r1, v2, h2⟩ := draw_ok ns c1 e1 v1 (m := 2) (by omega) (by omega) n
    rw [List.nil_append] at h1
    unfold Draws
    rw [rn__law_listed]
    by_cases hr : r = 0
    · refine ⟨.lst us, a2, b2, c2, e2, v2, ⟨.list es, by simp [hu], by rw [frz, frzs_map, he]⟩, ?_⟩
      simp [evF, ir__law_listed, h1, h2, hr, retR]
    · refine ⟨.val (.tuple es), a2, b2, c2, e2, v2, ⟨.tuple es, by simp, by rw [frz, frzs_map, he]⟩, ?_⟩
      simp [evF, ir__law_listed, h1, h2, hr, retR, hu]
  | non =>
    intro hf a b c e v n hn
    obtain ⟨n, rfl⟩ : ∃ m, n = m + 1 := ⟨n - 1, by omega⟩
    refine ⟨_, a, b, c, e, v, ⟨_, W.toD_val _, hf⟩, ?_⟩
    rw [rn__law_listed]
    simp [evF, ir__law_listed, retR]
  | bl =>
    intro hf a b c e v n hn
    obtain ⟨n, rfl⟩ : ∃ m, n = m + 1 := ⟨n - 1, by omega⟩
    refine ⟨_, a, b, c, e, v, ⟨_, W.toD_val _, hf⟩, ?_⟩
    rw [rn__law_listed]
    simp [evF, ir__law_listed, retR]
  | int =>
    intro hf a b c e v n hn
    obtain ⟨n, rfl⟩ : ∃ m, n = m + 1 := ⟨n - 1, by omega⟩
    refine ⟨_, a, b, c, e, v, ⟨_, W.toD_val _, hf⟩, ?_⟩
    rw [rn__law_listed]
    simp [evF, ir__law_listed, retR]
  | str =>
    intro hf a b c e v n hn
    obtain ⟨n, rfl⟩ : ∃ m, n = m + 1 := ⟨n - 1, by omega⟩
    refine ⟨_, a, b, c, e, v, ⟨_, W.toD_val _, hf⟩, ?_⟩
    rw [rn__law_listed]
    simp [evF, ir__law_listed, retR]
  | dic =>
    intro hf a b c e v n hn
    obtain ⟨n, rfl⟩ : ∃ m, n = m + 1 := ⟨n - 1, by omega⟩
    refine ⟨_, a, b, c, e, v, ⟨_, W.toD_val _, hf⟩, ?_⟩
    rw [rn__law_listed]
    simp [evF, ir__law_listed, retR]
end TA

set_option Elab.async false
set_option linter.all false
set_option maxRecDepth 100000
/-! Pu20: what is refused. -/
namespace TA
open PySem
/-! ### places that are none -/
def Prt.kids : Prt → List Int
  | .none | .give _ => []
  | .each _ _ _ | .last _ _ _ => [3]
  | .when _ _ => [2]
  | .choice _ _ => [1, 2]
theorem app_inj1 {pl t : List Int} {a k : Int} (h : pl ++ [a] ++ t = pl ++ [k]) : a = k ∧ t = [] := by
  rw [List.append_assoc, List.append_cancel_left_eq] at h
  simp at h
  exact h
theorem spots_root (p : Prt) (pl : List Int) (prs : List (Str × Str)) (ts : List Tst) : ∃ r, p.spots pl prs ts = ⟨pl, p, prs, ts⟩ :: r := by
  cases p <;> exact ⟨_, rfl⟩
/-- one that has parts in one place -/
theorem kids_one {p q : Prt} {pl : List Int} {prs prs' : List (Str × Str)} {ts ts' : List Tst} {i : Int} (e : p.spots pl prs ts = ⟨pl, p, prs, ts⟩ :: q.spots (pl ++ [i]) prs' ts') (hk : p.kids = [i])
    (ih : ∀ s ∈ q.spots (pl ++ [i]) prs' ts', ∀ s' ∈ q.spots (pl ++ [i]) prs' ts', ∀ k, s'.pl = s.pl ++ [k] → k ∈ s.p.kids) : ∀ s ∈ p.spots pl prs ts, ∀ s' ∈ p.spots pl prs ts, ∀ k, s'.pl = s.pl ++ [k] → k ∈ s.p.kids := by
  intro s hs s' hs' k h
  rw [e, List.mem_cons] at hs hs'
  rcases hs with rfl | hs
  · rcases hs' with rfl | hs'
    · have := congrArg List.length h; simp at this
    · obtain ⟨t, et⟩ := spots_pre q s' hs'
      rw [et] at h
      rw [hk, (app_inj1 h).1]
      simp
  · rcases hs' with rfl | hs'
    · obtain ⟨t, et⟩ := spots_pre q s hs
      rw [et] at h
      have := congrArg List.length h
      simp at this
    · exact ih s hs s' hs' k h
theorem kids_ok2 : ∀ (p : Prt) (pl : List Int) (prs : List (Str × Str)) (ts : List Tst), ∀ s ∈ p.spots pl prs ts, ∀ s' ∈ p.spots pl prs ts, ∀ k, s'.pl = s.pl ++ [k] → k ∈ s.p.kids
  | .none, pl, prs, ts, s, hs, s', hs', k, h => by
    simp [Prt.spots] at hs hs'
    subst hs; subst hs'
    have := congrArg List.length h; simp at this
  | .give is, pl, prs, ts, s, hs, s', hs', k, h => by
    simp [Prt.spots] at hs hs'
    subst hs; subst hs'
    have := congrArg List.length h; simp at this
  | .each x r p, pl, prs, ts, s, hs, s', hs', k, h => kids_one (p := .each x r p) rfl rfl (kids_ok2 p _ _ _) s hs s' hs' k h
  | .last x r p, pl, prs, ts, s, hs, s', hs', k, h => kids_one (p := .last x r p) rfl rfl (kids_ok2 p _ _ _) s hs s' hs' k h
  | .when t p, pl, prs, ts, s, hs, s', hs', k, h => kids_one (p := .when t p) rfl rfl (kids_ok2 p _ _ _) s hs s' hs' k h
  | .choice p q, pl, prs, ts, s, hs, s', hs', k, h => by
    rw [Prt.spots, List.mem_cons, List.mem_append] at hs hs'
    rcases hs with rfl | hs | hs <;> rcases hs' with rfl | hs' | hs'
    · have := congrArg List.length h; simp at this
    · obtain ⟨t, et⟩ := spots_pre p s' hs'
      rw [et] at h
      rw [(app_inj1 h).1.symm]; simp [Prt.kids]
    · obtain ⟨t, et⟩ := spots_pre q s' hs'
      rw [et] at h
      rw [(app_inj1 h).1.symm]; simp [Prt.kids]
    · obtain ⟨t, et⟩ := spots_pre p s hs
      rw [et] at h
      have := congrArg List.length h; simp at this
    · exact kids_ok2 p _ _ _ s hs s' hs' k h
    · obtain ⟨t, et⟩ := spots_pre p s hs
      obtain ⟨t', et'⟩ := spots_pre q s' hs'
      rw [et, et'] at h
      simp at h
    · obtain ⟨t, et⟩ := spots_pre q s hs
      have := congrArg List.length h
      rw [et] at this; simp at this
    · obtain ⟨t, et⟩ := spots_pre q s hs
      obtain ⟨t', et'⟩ := spots_pre p s' hs'
      rw [et, et'] at h
      simp at h
    · exact kids_ok2 q _ _ _ s hs s' hs' k h
def Prt.ln : Prt → Nat
  | .none => 1
  | .give _ => 2
  | .each _ _ _ | .last _ _ _ => 4
  | .when _ _ | .choice _ _ => 3
theorem ln_len (p : Prt) : lenD p.toD = some p.ln := by cases p <;> rfl
theorem no_kid {p : Prt} {s : Spot} (hs : s ∈ p.spots [] [] []) {k : Int} (hk : k = 0 ∨ k = s.p.ln ∨ k = -1) : ∀ s' ∈ p.spots [] [] [], s'.pl ≠ s.pl ++ [k] := fun s' hs' h => by
  have := kids_ok2 p [] [] [] s hs s' hs' k h
  cases hp : s.p <;> rw [hp] at this hk <;> simp [Prt.kids, Prt.ln] at this hk <;> omega
/-- a row, no path -/
theorem path_no {d : D} {x : D} (h : IsRow d [x]) (hx : (isinst .int x && !isinst .bool x) = false) (n : Nat) : runN (n + 2) 17 [.val d] = .ret (.val (.bool false)) [] := by
  rw [rn_is_path]
  simp [evF, ir_is_path, retR, run_is_row, h.row, h.items, turnF, lb_is_path_0, run_is_whole, hx]
theorem path_none {d : D} (h : isinst .row d = false) (n : Nat) : runN (n + 2) 17 [.val d] = .ret (.val (.bool false)) [] := by
  rw [rn_is_path]
  simp [evF, ir_is_path, retR, run_is_row, h]
/-! ### equal to itself -/
inductive Rf : Nat → D → Prop
  | non {n : Nat} : Rf n .none
  | bl {n : Nat} (b : Bool) : Rf n (.bool b)
  | int {n : Nat} (i : Int) : Rf n (.int i)
  | str {n : Nat} (x : Str) : Rf n (.str x)
  | dic {n : Nat} : Rf n (.dict [])
  | lst {n : Nat} {ds : List D} : (∀ d ∈ ds, Rf n d) → Rf (n + 1) (.list ds)
  | tup {n : Nat} {ds : List D} : (∀ d ∈ ds, Rf n d) → Rf (n + 1) (.tuple ds)
theorem rf_list {n : Nat} : ∀ {ds : List D}, (∀ d ∈ ds, cmpb n d d = true ∧ eqx d d = true) → cmpbs n ds ds = true ∧ eqxs ds ds = true
  | [], _ => ⟨rfl, rfl⟩
  | d :: ds, h => by
    obtain ⟨h1, h2⟩ := h d (by simp)
    obtain ⟨h3, h4⟩ := rf_list fun e he => h e (List.mem_cons_of_mem _ he)
    simp [cmpbs, eqxs, h1, h2, h3, h4]
theorem Rf.ok {k : Nat} {d : D} (h : Rf k d) : ∀ n, k ≤ n → cmpb n d d = true ∧ eqx d d = true := by
  induction h with
  | non => intro n _; cases n <;> exact ⟨rfl, rfl⟩
  | bl b => intro n _; cases n <;> cases b <;> exact ⟨rfl, rfl⟩
  | int i => intro n _; exact ⟨cmpb_ii n i i, by simp [eqx]⟩
  | str x => intro n _; exact ⟨cmpb_ss n x x, by simp [eqx]⟩
  | dic => intro n _; cases n <;> exact ⟨rfl, rfl⟩
  | lst h ih =>
    intro n hn
    obtain ⟨m, rfl⟩ : ∃ m, n = m + 1 := ⟨n - 1, by omega⟩
    have := rf_list fun d hd => ih d hd m (by omega)
    exact ⟨by rw [cmpb]; exact this.1, by rw [eqx]; exact this.2⟩
  | tup h ih =>
    intro n hn
    obtain ⟨m, rfl⟩ : ∃ m, n = m + 1 := ⟨n - 1, by omega⟩
    have := rf_list fun d hd => ih d hd m (by omega)
    exact ⟨by rw [cmpb]; exact this.1, by rw [eqx]; exact this.2⟩
theorem eqD_self {k : Nat} {w : Str} {d : D} (h : Rf k d) (hk : k ≤ 49) : eqD (.tuple [.str w, d]) (.tuple [.str w, d]) = some true := by
  have r : Rf (k + 1) (.tuple [.str w, d]) := .tup (by simp; exact ⟨.str w, h⟩)
  obtain ⟨h1, h2⟩ := r.ok 50 (by omega)
  simp [eqD, h1, h2, isDict]
theorem Rf.mono {n m : Nat} {d : D} (h : Rf n d) : n ≤ m → Rf m d := by
  induction h generalizing m with
  | lst h ih =>
    intro hm
    obtain ⟨k, rfl⟩ : ∃ k, m = k + 1 := ⟨m - 1, by omega⟩
    exact .lst fun d hd => ih d hd (by omega)
  | tup h ih =>
    intro hm
    obtain ⟨k, rfl⟩ : ∃ k, m = k + 1 := ⟨m - 1, by omega⟩
    exact .tup fun d hd => ih d hd (by omega)
  | _ => intro _; constructor
/-! ### _law_refused -/
@[simp] theorem subT_eq (a b : Nat) : subT a b = (a == b || b == 0) := rfl
section
variable {n : Nat} {x p t : D}
theorem refused_told {k : Bool} (h : runN (n + 1) 24 [.val x, .val p, .val t] = .ret (.val (.bool k)) []) : runN (n + 2) 40 [.val x, .val p, .val t] = .ret (.val (.tuple [.str (S "told")])) [] := by
  rw [rn__law_refused]
  simp [evF, ir__law_refused, retR, h]
theorem refused_place {d : D} (h : runN (n + 1) 24 [.val x, .val p, .val t] = .exc 1 d) : runN (n + 2) 40 [.val x, .val p, .val t] = .ret (.val (.tuple [.str (S "place"), d])) [] := by
  rw [rn__law_refused]
  simp [evF, ir__law_refused, retR, h, catchL, asOk, HS.run, HI.val, Out.wipe, wipeO]
theorem refused_test {d : D} (h : runN (n + 1) 24 [.val x, .val p, .val t] = .exc 3 d) : runN (n + 2) 40 [.val x, .val p, .val t] = .ret (.val (.tuple [.str (S "test"), d])) [] := by
  rw [rn__law_refused]
  simp [evF, ir__law_refused, retR, h, catchL, asOk, HS.run, HI.val, Out.wipe, wipeO]
theorem refused_open {d : D} (h : runN (n + 1) 24 [.val x, .val p, .val t] = .exc 2 d) : runN (n + 2) 40 [.val x, .val p, .val t] = .ret (.val (.tuple [.str (S "open"), d])) [] := by
  rw [rn__law_refused]
  simp [evF, ir__law_refused, retR, h, catchL, asOk, HS.run, HI.val, Out.wipe, wipeO]
theorem nopart_place {d : D} (h : runN (n + 1) 19 [.val x, .val p] = .exc 1 d) : runN (n + 2) 41 [.val x, .val p] = .ret (.val (.tuple [.str (S "place"), d])) [] := by
  rw [rn__law_no_part]
  simp [evF, ir__law_no_part, retR, h, catchL, asOk, HS.run, HI.val, Out.wipe, wipeO]
end
end TA

set_option Elab.async false
set_option linter.all false
set_option maxRecDepth 100000
/-! Pu21: tests that are none. -/
namespace TA
open PySem
def fiveD : D := .tuple [.str (S "atom"), .int 5]
def strD (x : Str) : D := .tuple [.str (S "name"), .str x]
def longA : Str := Txt.mul (S "a") 21
/-- the eleven -/
def bads (x : Str) : List D := [.tuple [.str (S "alike"), fiveD, strD x], .tuple [.str (S "unlike"), strD x, fiveD], .tuple [.str (S "alike"), fiveD], .tuple [.str (S "same"), fiveD, fiveD], .none, .str (S "alike"), .dict [],
  .tuple [.str (S "alike"), fiveD, .tuple [.str (S "atom"), .bool true]], .tuple [.str (S "alike"), fiveD, fiveD, fiveD], .list [.str (S "unlike"), .tuple [.str (S "atom"), .str longA], fiveD], .tuple []]
theorem item_five (g : List Str) (n : Nat) : runN (n + 3) 5 [.val fiveD, .val (gD g)] = .ret (.val (.bool true)) [] := item_atom (a := .i 5) rfl (by simp [AtOk]) n
theorem item_strange {g : List Str} {x : Str} (hx : x ∈ nms) (hn : x ∉ g) (n : Nat) : runN (n + 2) 5 [.val (strD x), .val (gD g)] = .ret (.val (.bool false)) [] := by
  have := item_name (d := strD x) (x := x) (g := g) rfl hx n
  rw [this]
  simp [hn]
theorem item_true (g : List Str) (n : Nat) : runN (n + 3) 5 [.val (.tuple [.str (S "atom"), .bool true]), .val (gD g)] = .ret (.val (.bool false)) [] := by
  have h4 : runN (n + 2) 4 [.val (.bool true)] = .ret (.val (.bool false)) [] := by rfl
  rw [rn_is_item]
  simp [evF, ir_is_item, run_is_row, retR, h4]
theorem item_long (g : List Str) (n : Nat) : runN (n + 3) 5 [.val (.tuple [.str (S "atom"), .str longA]), .val (gD g)] = .ret (.val (.bool false)) [] := by
  have h4 : runN (n + 2) 4 [.val (.str longA)] = .ret (.val (.bool false)) [] := by rfl
  rw [rn_is_item]
  simp [evF, ir_is_item, run_is_row, retR, h4]
@[simp] theorem gin_alike (neg : Bool) : ginW neg ks_OPPOSITES (.str (S "alike")) = some (.val (.bool (!neg))) := by cases neg <;> rfl
@[simp] theorem gin_unlike (neg : Bool) : ginW neg ks_OPPOSITES (.str (S "unlike")) = some (.val (.bool (!neg))) := by cases neg <;> rfl
@[simp] theorem gin_same (neg : Bool) : ginW neg ks_OPPOSITES (.str (S "same")) = some (.val (.bool neg)) := by cases neg <;> rfl
theorem bad_fault {g : List Str} {x : Str} (hx : x ∈ nms) (hn : x ∉ g) {d : D} (h : d ∈ bads x) (n : Nat) : ∃ ds, runN (n + 4) 7 [.val d, .val (gD g)] = .ret (.val (.tuple ds)) [] := by
  have h5 := item_five g n
  have hs := item_strange hx hn (n + 1)
  have ht := item_true g n
  have hl := item_long g n
  rw [rn_test_fault]
  simp only [bads, List.mem_cons, List.not_mem_nil, or_false] at h
  rcases h with rfl | rfl | rfl | rfl | rfl | rfl | rfl | rfl | rfl | rfl | rfl
  · exact ⟨[.int 2], by simp [evF, ir_test_fault, lb_test_fault_0, turnF, run_is_row, retR, h5, hs]⟩
  · exact ⟨[.int 1], by simp [evF, ir_test_fault, lb_test_fault_0, turnF, run_is_row, retR, h5, hs]⟩
  · exact ⟨[], by simp [evF, ir_test_fault, lb_test_fault_0, turnF, run_is_row, retR]⟩
  · exact ⟨[], by simp [evF, ir_test_fault, lb_test_fault_0, turnF, run_is_row, retR]⟩
  · exact ⟨[], by simp [evF, ir_test_fault, lb_test_fault_0, turnF, run_is_row, retR]⟩
  · exact ⟨[], by simp [evF, ir_test_fault, lb_test_fault_0, turnF, run_is_row, retR]⟩
  · exact ⟨[], by simp [evF, ir_test_fault, lb_test_fault_0, turnF, run_is_row, retR]⟩
  · exact ⟨[.int 2], by simp [evF, ir_test_fault, lb_test_fault_0, turnF, run_is_row, retR, h5, ht]⟩
  · exact ⟨[], by simp [evF, ir_test_fault, lb_test_fault_0, turnF, run_is_row, retR]⟩
  · exact ⟨[.int 1], by simp [evF, ir_test_fault, lb_test_fault_0, turnF, run_is_row, retR, hl]⟩
  · exact ⟨[], by simp [evF, ir_test_fault, lb_test_fault_0, turnF, run_is_row, retR]⟩
theorem rf_five : Rf 1 fiveD := .tup (by simp; exact ⟨.str _, .int _⟩)
theorem rf_strange (x : Str) : Rf 1 (strD x) := .tup (by simp; exact ⟨.str _, .str _⟩)
theorem bad_rf {x : Str} {d : D} (h : d ∈ bads x) : Rf 2 d := by
  have a : ∀ b, Rf 1 (.tuple [.str (S "atom"), .bool b]) := fun b => .tup (by simp; exact ⟨.str _, .bl _⟩)
  have l : Rf 1 (.tuple [.str (S "atom"), .str longA]) := .tup (by simp; exact ⟨.str _, .str _⟩)
  simp only [bads, List.mem_cons, List.not_mem_nil, or_false] at h
  rcases h with rfl | rfl | rfl | rfl | rfl | rfl | rfl | rfl | rfl | rfl | rfl
  · exact .tup (by simp; exact ⟨.str _, rf_five, rf_strange x⟩)
  · exact .tup (by simp; exact ⟨.str _, rf_strange x, rf_five⟩)
  · exact .tup (by simp; exact ⟨.str _, rf_five⟩)
  · exact .tup (by simp; exact ⟨.str _, rf_five⟩)
  · exact .non
  · exact .str _
  · exact .dic
  · exact .tup (by simp; exact ⟨.str _, rf_five, a true⟩)
  · exact .tup (by simp; exact ⟨.str _, rf_five⟩)
  · exact .lst (by simp; exact ⟨.str _, l, rf_five⟩)
  · exact .tup (by simp)
/-- the nine -/
def places (pl : List Int) (m : Nat) : List D := [plD (pl ++ [0]), plD (pl ++ [(m : Int)]), plD (pl ++ [-1]), .none, .str (S "x"), .int 0, .tuple [.none], .tuple [.bool true], .dict []]
theorem rf_pl (pl : List Int) : Rf 1 (plD pl) := .tup fun d hd => by
  obtain ⟨i, _, rfl⟩ := List.mem_map.mp hd
  exact .int i
theorem place_rf {pl : List Int} {m : Nat} {d : D} (h : d ∈ places pl m) : Rf 2 d := by
  simp only [places, List.mem_cons, List.not_mem_nil, or_false] at h
  rcases h with rfl | rfl | rfl | rfl | rfl | rfl | rfl | rfl | rfl
  · exact (rf_pl _).mono (by omega)
  · exact (rf_pl _).mono (by omega)
  · exact (rf_pl _).mono (by omega)
  · exact .non
  · exact .str _
  · exact .int _
  · exact .tup (by simp; exact .non)
  · exact .tup (by simp; exact .bl _)
  · exact .dic
theorem place_lost {R V : List Str} {p : Prt} (b : p.Bnd R V) {s : Spot} (hs : s ∈ p.spots [] [] []) {d : D} (h : d ∈ places s.pl s.p.ln) (n : Nat) : runN (n + 3) 18 [.val p.toD, .val d] = .exc 1 d := by
  have sz := b.sz
  simp only [places, List.mem_cons, List.not_mem_nil, or_false] at h
  rcases h with rfl | rfl | rfl | rfl | rfl | rfl | rfl | rfl | rfl
  · exact run_lost b.ok (by omega) (no_kid hs (.inl rfl)) (.inr rfl) n
  · exact run_lost b.ok (by omega) (no_kid hs (.inr (.inl rfl))) (.inr rfl) n
  · exact run_lost b.ok (by omega) (no_kid hs (.inr (.inr rfl))) (.inr rfl) n
  · exact run_nopath n (path_none rfl n)
  · exact run_nopath n (path_none rfl n)
  · exact run_nopath n (path_none rfl n)
  · exact run_nopath n (path_no (.inr rfl) rfl n)
  · exact run_nopath n (path_no (.inr rfl) rfl n)
  · exact run_nopath n (path_none rfl n)
/-! ### a wrong expression -/
def wrongD (p : Prt) (x : Str) : D := .tuple [.str (S "choice"), p.toD, .tuple [.str (S "give"), .tuple [strD x]]]
theorem run_wrong {R V : List Str} {p : Prt} (b : p.Bnd R V) {x : Str} (hx : x ∈ nms) (n : Nat) {pd td : D} : runN (n + 33) 24 [.val (wrongD p x), .val pd, .val td] = .exc 2 (.tuple [.int 2, .int 1, .int 0]) := by
  have h1 : runN (n + 29) 11 [.val p.toD, .val (.tuple [])] = .ret (.val .none) [] := part_ok p (g := []) (frz_prt b.ok) b.ok (by have := lv_dp p; have := b.dp; simp; omega) (n + 29) (by have := lv_dp p; have := b.dp; omega)
  have hs := item_strange (g := []) hx (by simp) (n + 25)
  simp only [gD, List.map_nil] at hs
  have h6 : runN (n + 28) 6 [.val (.tuple [strD x]), .val (.tuple [])] = .ret (.val (.tuple [.int 0])) [] := by
    rw [rn_items_fault]
    simp [evF, ir_items_fault, lb_items_fault_0, turnF, run_is_row, retR, d_MOST_ITEMS, List.range, List.range.loop, hs]
  have b1 := behind_tup (n + 27) 1 [.int 0] (by simp)
  have b2 := behind_tup (n + 28) 2 [.int 1, .int 0] (by simp)
  have h2 : runN (n + 29) 11 [.val (.tuple [.str (S "give"), .tuple [strD x]]), .val (.tuple [])] = .ret (.val (.tuple [.int 1, .int 0])) [] := by
    rw [rn_part_fault]
    simp [evF, ir_part_fault, run_is_row, retR, h6, b1]
  have h3 : runN (n + 30) 11 [.val (wrongD p x), .val (.tuple [])] = .ret (.val (.tuple [.int 2, .int 1, .int 0])) [] := by
    rw [rn_part_fault]
    simp [evF, ir_part_fault, run_is_row, retR, wrongD, h1, h2, b2]
  have h4 : runN (n + 31) 15 [.val (wrongD p x)] = .ret (.val (.tuple [.int 2, .int 1, .int 0])) [] := by
    rw [rn_open_fault]
    simp [evF, ir_open_fault, retR, h3]
  have h5 : runN (n + 32) 16 [.val (wrongD p x)] = .exc 2 (.tuple [.int 2, .int 1, .int 0]) := by
    rw [rn_opened]
    simp [evF, ir_opened, retR, h4]
  rw [rn_follows]
  simp [evF, ir_follows, retR, h5]
theorem eqD_told : eqD (.tuple [.str (S "told")]) (.tuple [.str (S "told")]) = some true := by rfl
/-! ### the names at a spot -/
def Prt.nmz : Prt → List Str
  | .none | .give _ => []
  | .each x _ p => x :: p.nmz
  | .when _ p | .last _ _ p => p.nmz
  | .choice p q => p.nmz ++ q.nmz
theorem fr_nmz {N R V : List Str} {as : List Atm} : ∀ {p : Prt} {g : List Str}, p.Fr N R V as g → ∀ x ∈ p.nmz, x ∈ N
  | .none, _, _, x, hx => by simp [Prt.nmz] at hx
  | .give _, _, _, x, hx => by simp [Prt.nmz] at hx
  | .each y r p, g, h, x, hx => by
    rcases List.mem_cons.mp hx with rfl | hx
    · exact h.1
    · exact fr_nmz h.2.2.2 x hx
  | .when t p, g, h, x, hx => fr_nmz h.2 x hx
  | .last y i p, g, h, x, hx => fr_nmz h.2.2 x hx
  | .choice p q, g, h, x, hx => by
    rcases List.mem_append.mp hx with hx | hx
    · exact fr_nmz h.1 x hx
    · exact fr_nmz h.2 x hx
theorem spots_nmz : ∀ (p : Prt) {pl : List Int} {prs : List (Str × Str)} {ts : List Tst}, ∀ s ∈ p.spots pl prs ts, ∀ x ∈ nmsOf s.prs, x ∈ nmsOf prs ∨ x ∈ p.nmz
  | .none, pl, prs, ts, s, hs, x, hx => by simp [Prt.spots] at hs; subst hs; exact .inl hx
  | .give is, pl, prs, ts, s, hs, x, hx => by simp [Prt.spots] at hs; subst hs; exact .inl hx
  | .each y r p, pl, prs, ts, s, hs, x, hx => by
    rw [Prt.spots, List.mem_cons] at hs
    rcases hs with rfl | hs
    · exact .inl hx
    · rcases spots_nmz p s hs x hx with h | h
      · simp only [nmsOf, List.map_append, List.mem_append, List.map_cons, List.map_nil, List.mem_singleton] at h
        rcases h with h | rfl
        · exact .inl h
        · exact .inr (by simp [Prt.nmz])
      · exact .inr (List.mem_cons_of_mem _ h)
  | .last y i p, pl, prs, ts, s, hs, x, hx => by
    rw [Prt.spots, List.mem_cons] at hs
    rcases hs with rfl | hs
    · exact .inl hx
    · exact spots_nmz p s hs x hx
  | .when t p, pl, prs, ts, s, hs, x, hx => by
    rw [Prt.spots, List.mem_cons] at hs
    rcases hs with rfl | hs
    · exact .inl hx
    · exact spots_nmz p s hs x hx
  | .choice p q, pl, prs, ts, s, hs, x, hx => by
    rw [Prt.spots, List.mem_cons, List.mem_append] at hs
    rcases hs with rfl | hs | hs
    · exact .inl hx
    · exact (spots_nmz p s hs x hx).imp id fun h => List.mem_append_left _ h
    · exact (spots_nmz q s hs x hx).imp id fun h => List.mem_append_right _ h
end TA

set_option Elab.async false
set_option linter.all false
set_option maxRecDepth 100000
/-! Pu22: _law_refuses. -/
namespace TA
open PySem
def xyz : List Str := [S "x", S "y", S "z"]
theorem spots_pll : ∀ (p : Prt) {pl : List Int} {prs : List (Str × Str)} {ts : List Tst}, ∀ s ∈ p.spots pl prs ts, s.pl.length ≤ pl.length + p.dp
  | .none, pl, prs, ts, s, hs => by simp [Prt.spots] at hs; subst hs; simp
  | .give is, pl, prs, ts, s, hs => by simp [Prt.spots] at hs; subst hs; simp
  | .each y r p, pl, prs, ts, s, hs => by
    rw [Prt.spots, List.mem_cons] at hs
    rcases hs with rfl | hs
    · simp
    · have := spots_pll p s hs; simp [Prt.dp] at this ⊢; omega
  | .last y i p, pl, prs, ts, s, hs => by
    rw [Prt.spots, List.mem_cons] at hs
    rcases hs with rfl | hs
    · simp
    · have := spots_pll p s hs; simp [Prt.dp] at this ⊢; omega
  | .when t p, pl, prs, ts, s, hs => by
    rw [Prt.spots, List.mem_cons] at hs
    rcases hs with rfl | hs
    · simp
    · have := spots_pll p s hs; simp [Prt.dp] at this ⊢; omega
  | .choice p q, pl, prs, ts, s, hs => by
    rw [Prt.spots, List.mem_cons, List.mem_append] at hs
    rcases hs with rfl | hs | hs
    · simp
    · have := spots_pll p s hs; simp [Prt.dp] at this ⊢; omega
    · have := spots_pll q s hs; simp [Prt.dp] at this ⊢; omega
@[simp] theorem negW_int (i : Int) : negW (.val (.int i)) = some (.val (.int (-i))) := (rfl)
theorem refuses_draw (ns : List Int) {R V : List Str} {p : Prt} (b : p.Bnd R V) {s : Spot} (hs : s ∈ p.spots [] [] []) (hq : S "q" ∉ nmsOf s.prs) {a b' : Int} (c e : Int) (v : SV a b') (n : Nat) :
    Draws ns (n + 36) 42 [.val p.toD, .val s.lD] a b' c e fun r => r = .val (.bool true) := by
  obtain ⟨so, l1, l2⟩ := b.spot hs
  have hn : (nmsOf s.prs).length ≤ 100 := by simp [nmsOf]; omega
  -- the names that are not given
  have inner : ∀ (x : Str) (st : W), compL (stepL (runN (n + 35)) [6] false (.idx (.loc 6) (.lit (.int (0)))) (.lit (.bool true)) [6]) (s.prs.map prD) [some (.val (scD ns)), some st, some (.val p.toD), some (.val s.lD), none, some (.val (.str x)), none, none, none, none, none, none, none, none, none] [] =
      .ok ([some (.val (scD ns)), some st, some (.val p.toD), some (.val s.lD), none, some (.val (.str x)), none, none, none, none, none, none, none, none, none], (nmsOf s.prs).map fun x => .val (.str x)) := fun x st => given_lc _ s (by omega) 6 _ (fun y => by simp [stepL, e0_prD])
  have eg : W.toDs ((nmsOf s.prs).map fun x => W.val (.str x)) = some ((nmsOf s.prs).map .str) := toDs_lam _ _
  have st : ∀ x ∈ [S "x", S "y", S "z", S "q"], stepL (runN (n + 35)) [5] false (.loc 5) (.cmp .notin (.loc 5) (.lc false (.idx (.loc 6) (.lit (.int (0)))) [6] false .seq [.idx (.loc 3) (.lit (.int (2)))] (.lit (.bool true)) [6])) [5] (.str x)
      [some (.val (scD ns)), some (stW a b' c e), some (.val p.toD), some (.val s.lD), none, none, none, none, none, none, none, none, none, none, none] =
      .ok ([some (.val (scD ns)), some (stW a b' c e), some (.val p.toD), some (.val s.lD), none, none, none, none, none, none, none, none, none, none, none], if decide (x ∉ nmsOf s.prs) then some (.val (.str x)) else none) := fun x _ => by
    have h1 := in_gL x (nmsOf s.prs)
    by_cases h : x ∈ nmsOf s.prs
    · simp [stepL, lD_2, inner, eg, h1, h]
    · simp [stepL, lD_2, inner, eg, h1, h]
  have cl := compL_fg (acc := []) PyData.str (fun x => decide (x ∉ nmsOf s.prs)) st (by simp)
  simp only [List.map_nil, List.nil_append] at cl
  have hO : S "q" ∈ [S "x", S "y", S "z", S "q"].filter fun x => decide (x ∉ nmsOf s.prs) := List.mem_filter.mpr ⟨by simp, by simpa using hq⟩
  have hOl : ([S "x", S "y", S "z", S "q"].filter fun x => decide (x ∉ nmsOf s.prs)).length ≤ 100 := Nat.le_trans (List.length_filter_le _ _) (by simp)
  have hOm : ∀ x ∈ [S "x", S "y", S "z", S "q"].filter (fun x => decide (x ∉ nmsOf s.prs)), x ∈ nms ∧ x ∉ nmsOf s.prs := fun x hx => by
    rw [List.mem_filter] at hx
    refine ⟨?_, by simpa using hx.2⟩
    have := hx.1
    simp only [List.mem_cons, List.not_mem_nil, or_false] at this
    rcases this with rfl | rfl | rfl | rfl <;> simp [nms]
  have elf : W.toDs (([S "x", S "y", S "z", S "q"].filter fun x => decide (x ∉ nmsOf s.prs)).map fun a => W.val (.str a)) = some (([S "x", S "y", S "z", S "q"].filter fun x => decide (x ∉ nmsOf s.prs)).map .str) := toDs_lam _ _
  generalize [S "x", S "y", S "z", S "q"].filter (fun x => decide (x ∉ nmsOf s.prs)) = O at cl hO hOl hOm elf
  obtain ⟨x, hx, a1, b1, c1, e1, v1, h1⟩ := str_draw ns (List.length_pos_of_mem hO) hOl c e v (n + 33)
  obtain ⟨hxn, hxg⟩ := hOm x hx
  obtain ⟨_, a2, b2, c2, e2, v2, ⟨bad, hbad, rfl⟩, h2⟩ := some_ok ns (d := .list (bads x)) (.inl rfl) (by simp [bads]) (by simp [bads]) c1 e1 v1 (n + 33)
  obtain ⟨_, a3, b3, c3, e3, v3, ⟨pc, hpc, rfl⟩, h3⟩ := some_ok ns (d := .list (places s.pl s.p.ln)) (.inl rfl) (by simp [places]) (by simp [places]) c2 e2 v2 (n + 33)
  have fp := frz_prt b.ok
  -- what is refused
  obtain ⟨ds, hf⟩ := bad_fault (g := nmsOf s.prs) hxn hxg hbad (n + 28)
  have hc := run_check_bad (n := n + 31) hf
  have r1 := refused_test (n := n + 33) (run_follows_test (n := n + 1) fp b hs (.inr rfl) hc)
  have hl := place_lost b hs hpc (n + 30)
  have r2 := nopart_place (n := n + 33) (run_open_part_place (n := n + 1) fp b hl)
  have r3 := refused_place (n := n + 33) (run_follows_place (n := n + 1) (td := bad) fp b hl)
  have r4 := refused_open (n := n + 33) (run_wrong b hxn (n + 1) (pd := pc) (td := bad))
  have ok5 : (⟨true, .atom (.i 5), .atom (.i 5)⟩ : Tst).Ok (nmsOf s.prs) := ⟨by simp [Itm.Ok, AtOk], by simp [Itm.Ok, AtOk]⟩
  obtain ⟨k, hk, _⟩ := run_follows fp b hs (pd := plD s.pl) (.inr rfl) (frz_tst ok5) ok5 (foundA (s.ts ++ [⟨true, .atom (.i 5), .atom (.i 5)⟩]) []) (fun u hu => atIn_found hu) (n + 1)
  have r5 := refused_told (n := n + 33) hk
  -- equal
  have q1 := eqD_self (w := S "test") (bad_rf hbad) (by omega)
  have q2 := eqD_self (w := S "place") (place_rf hpc) (by omega)
  have q3 : eqD (.tuple [.str (S "open"), .tuple [.int 2, .int 1, .int 0]]) (.tuple [.str (S "open"), .tuple [.int 2, .int 1, .int 0]]) = some true := by rfl
  refine ⟨_, a3, b3, c3, e3, v3, rfl, ?_⟩
  have ln := ln_len s.p
  have hpl := spots_pll p s hs
  have hdp := b.dp
  simp only [List.length_nil] at hpl
  have hmul : binD .mul (.str (S "a")) (.int 21) = some (.val (.str longA)) := by rfl
  rw [rn__law_refuses]
  simp only [bads, places, fiveD, strD, plD, List.map_append, List.map_cons, List.map_nil, wrongD, Tst.toD, Itm.toD, Atm.toD, alS, if_true] at h2 h3 r1 r2 r3 r4 r5 q1 q2 q3
  simp only [List.map_cons, List.map_nil] at cl
  simp [evF, ir__law_refuses, lD_0, lD_1, lD_2, cl, elf, h1, hmul, szOk_small (n := 7 + 4) (by omega), szOk_small (n := 7) (by omega), h2, r1, q1, ln, szOk_small (n := s.pl.length + 1) (by omega), szOk_small (n := 9) (by omega), h3, r2, q2, r3, r4, q3, r5, eqD_told, retR]
end TA

set_option Elab.async false
set_option linter.all false
set_option maxRecDepth 100000
/-! Pu23: the law of k80, in the evaluator. -/
namespace TA
open PySem
theorem fr_ok {N R V : List Str} {as : List Atm} (hN : ∀ x ∈ N, x ∈ nms) (hR : ∀ x ∈ R, x ∈ nms) (hV : ∀ x ∈ V, x ∈ nms) (ha : ∀ a ∈ as, AtOk a) : ∀ {p : Prt} {g : List Str}, (∀ x ∈ g, x ∈ nms) → p.Fr N R V as g → p.Ok g ∧ p.In R V
  | .none, g, _, _ => ⟨trivial, trivial⟩
  | .give is, g, hg, h => ⟨⟨by have := h.1; omega, fun i hi => (h.2 i hi).ok hg ha⟩, trivial⟩
  | .each x r p, g, hg, h => by
    obtain ⟨h1, h2⟩ := fr_ok hN hR hV ha (p := p) (g := g ++ [x]) (fun y hy => by
      rcases List.mem_append.mp hy with hy | hy
      · exact hg y hy
      · simp at hy; subst hy; exact hN _ h.1) h.2.2.2
    exact ⟨⟨hN x h.1, h.2.1, hR r h.2.2.1, h1⟩, h.2.2.1, h2⟩
  | .choice p q, g, hg, h => by
    obtain ⟨h1, h2⟩ := fr_ok hN hR hV ha hg h.1
    obtain ⟨h3, h4⟩ := fr_ok hN hR hV ha hg h.2
    exact ⟨⟨h1, h3⟩, h2, h4⟩
  | .when t p, g, hg, h => by
    obtain ⟨h1, h2⟩ := fr_ok hN hR hV ha hg h.2
    exact ⟨⟨h.1.ok hg ha, h1⟩, h2⟩
  | .last v i p, g, hg, h => by
    obtain ⟨h1, h2⟩ := fr_ok hN hR hV ha hg h.2.2
    exact ⟨⟨hV v h.1, h.2.1.ok hg ha, h1⟩, h.1, h2⟩
def rst : List Str := [S "r", S "s", S "t"]
def vv : List Str := [S "v"]
theorem xyz_nms : ∀ x ∈ xyz, x ∈ nms := by simp [xyz, nms]
theorem rst_nms : ∀ x ∈ rst, x ∈ nms := by simp [rst, nms]
theorem vv_nms : ∀ x ∈ vv, x ∈ nms := by simp [vv, nms]
theorem says_eq (k : Bool) (n : Nat) : runN (n + 1) 34 [.val (.bool k), .val (.bool k)] = .ret (.val (.bool true)) [] := by
  rw [rn__law_says]
  cases k <;> simp [evF, ir__law_says, retR]
@[simp] theorem evArgs_callk (F : Nat → List W → FRes) (f : Nat) (p : List Nat) (as : List IE) (es : List IE) (x0 : Option W) (e0 : Env) : evArgs F (.callk f p as :: es) (x0 :: e0) = (evX F (.callk f p as) .val (x0 :: e0)).bind fun r => (Res.of r.2.toD).bind fun d => (evArgs F es r.1).bind fun q => .ok (q.1, .val d :: q.2) := evArgs_val F _ _ _ _ rfl
@[simp] theorem kwArgs_210 (a b c : Arg) : kwArgs [2, 1, 0] [a, b, c] = some [c, b, a] := (rfl)
def as2 (as : List Atm) : List Atm := as ++ [Atm.i 77, Atm.s (S "77")]
theorem add_as2 {as : List Atm} (h : as.length ≤ 3) : binD .add (atsD as) (.list [.int 77, .str (S "77")]) = some (atsW (as2 as)) := by
  simp [atsD, szOk_small (n := as.length + 2) (by omega), as2, atsW, Atm.toD]
theorem as2_ok {as : List Atm} (h : ∀ a ∈ as, AtOk a) : ∀ a ∈ as2 as, AtOk a := fun x hx => by
  rcases List.mem_append.mp hx with hx | hx
  · exact h x hx
  · simp at hx
    rcases hx with rfl | rfl
    · simp [AtOk]
    · simp [AtOk, atS]
/-- what stands in the law's places -/
structure PosOk (p : Prt) (as : List Atm) : Prop where
  b : p.Bnd rst vv
  q : ∀ x ∈ p.nmz, x ∈ xyz
  a : ∀ a ∈ as, AtOk a
  a0 : 0 < as.length
  al : as.length ≤ 3
theorem PosOk.sq {p : Prt} {as : List Atm} (h : PosOk p as) {s : Spot} (hs : s ∈ p.spots [] [] []) : S "q" ∉ nmsOf s.prs := fun hq => by
  rcases spots_nmz p s hs _ hq with z | z
  · simp [nmsOf] at z
  · have := h.q _ z
    simp [xyz] at this
theorem cut3 (ds : List D) : ∃ k, cutL ds (some (-3)) none = ds.drop k := by
  refine ⟨sIx ds.length 0 (some (-3)), ?_⟩
  unfold cutL
  rw [show sIx ds.length ds.length none = ds.length from rfl, List.take_of_length_le (by simp)]
theorem law_turn (ns : List Int) {p : Prt} {as : List Atm} (P : PosOk p as) (k : Nat) (hk : k < 4) (n : Nat) {w6 : W} (h6f : w6.flat = some (.list ((p.spots [] [] []).map Spot.lD))) (h6d : w6.toD = some (.list ((p.spots [] [] []).map Spot.lD))) {a b : Int} (c e : Int) (v : SV a b) (x2 x4 x7 x8 x9 x10 x12 x13 : Option W) :
    ∃ a' b' c' e' x7' x8' x9' x10' x12' x13', SV a' b' ∧ turnF (runN (n + 40)) subT 1000 [] [7] false lb_law_0 (.int k) [some (.val (scD ns)), some (stW a b c e), x2, some (.val (atsD as)), x4, some (.val p.toD), some w6, x7, x8, x9, x10, none, x12, x13] =
      .next [some (.val (scD ns)), some (stW a' b' c' e'), x2, some (.val (atsD as)), x4, some (.val p.toD), some (.val (.list ((p.spots [] [] []).map Spot.lD))), x7', x8', x9', x10', none, x12', x13'] := by
  have sz := P.b.sz
  have hsl := spots_len p [] [] []
  obtain ⟨j, hj⟩ := cut3 ((p.spots [] [] []).map Spot.lD)
  have hdl : (((p.spots [] [] []).map Spot.lD).drop j).length ≤ 40 := by rw [List.length_drop, List.length_map, hsl]; omega
  have hpos : 0 < (p.spots [] [] []).length := by rw [hsl]; exact sz_pos p
  obtain ⟨_, a1, b1, c1, e1, v1, ⟨sd, hsd, rfl⟩, h1⟩ := some_ok ns (d := .list (((p.spots [] [] []).map Spot.lD).drop j ++ (p.spots [] [] []).map Spot.lD)) (.inl rfl) (by simp; omega) (by simp; omega) c e v (n + 38)
  have hs : ∃ s ∈ p.spots [] [] [], sd = s.lD := by
    rcases List.mem_append.mp hsd with h | h
    · obtain ⟨s, hs, e⟩ := List.mem_map.mp (List.mem_of_mem_drop h); exact ⟨s, hs, e.symm⟩
    · obtain ⟨s, hs, e⟩ := List.mem_map.mp h; exact ⟨s, hs, e.symm⟩
  obtain ⟨s, hs, rfl⟩ := hs
  obtain ⟨so, l1, l2⟩ := P.b.spot hs
  obtain ⟨w9, a2, b2, c2, e2, v2, ⟨td, t, hw9, htd, okt⟩, h2⟩ := asked_draw ns so l1 l2 (as := as2 as) (as2_ok P.a) (by simp [as2]) (by have := P.al; simp [as2]; omega) c1 e1 v1 (n + 35)
  have ha := run_always htd okt so.ts l2 (by simp [nmsOf]; omega) so.nd (n + 37)
  have sm : Sm (p.dp + 2) p.toD := sm_prt P.b.ok
  have hdp := P.b.dp
  obtain ⟨w13, a3, b3, c3, e3, v3, ⟨d', hw13, hd'⟩, h3⟩ := listed_draw ns sm (frz_prt P.b.ok) c2 e2 v2 (n + 40) (by omega)
  have fol : ∀ pd, IsRow pd (s.pl.map .int) → ∃ kk, runN (n + 40) 24 [.val d', .val pd, .val td] = .ret (.val (.bool kk)) [] ∧ (!(envs (pool (foundA (s.ts ++ [t]) []) (nmsOf s.prs)) (nmsOf s.prs)).any (badL s.ts t)) = kk := fun pd hpd => by
    obtain ⟨kk, hk, hf⟩ := run_follows hd' P.b hs hpd htd okt (foundA (s.ts ++ [t]) []) (fun u hu => atIn_found hu) (n + 7)
    exact ⟨kk, hk, fol_eq okt so.ts hf⟩
  generalize (!(envs (pool (foundA (s.ts ++ [t]) []) (nmsOf s.prs)) (nmsOf s.prs)).any (badL s.ts t)) = due at ha fol
  have gl := fun (st : W) (x7 x10 x12 x13 : Option W) => given_lc (runN (n + 40)) s (by omega) 11 [some (.val (scD ns)), some st, x2, some (.val (atsD as)), x4, some (.val p.toD), some (.val (.list ((p.spots [] [] []).map Spot.lD))), x7, some (.val s.lD), some w9, x10, none, x12, x13] (fun y => by simp [stepL, e0_prD])
  have eg : W.toDs ((nmsOf s.prs).map fun x => W.val (.str x)) = some ((nmsOf s.prs).map .str) := toDs_lam _ _
  have eadd := add_as2 P.al
  have eats := atsW_toD (as2 as)
  rw [atsW, W.toD_lst] at eats
  have sy := says_eq due (n + 39)
  have esl : sliceD (.list ((p.spots [] [] []).map Spot.lD)) (some (-3)) none = some (.lst ((((p.spots [] [] []).map Spot.lD).drop j).map .val)) := by
    simp only [sliceD, hj]
  by_cases hk3 : k = 3
  · obtain ⟨kk, f1, rfl⟩ := fol (.list (s.pl.map .int)) (.inl rfl)
    subst hk3
    have ebl : bltD .list [plD s.pl] = some (.lst ((s.pl.map PyData.int).map .val)) := rfl
    refine ⟨a3, b3, c3, e3, some (.val (.int 3)), some (.val s.lD), some (.val td), some (.val (.bool due)), some (.val (.list (s.pl.map .int))), some (.val d'), v3, ?_⟩
    simp only [atsW] at eadd
    rw [show atsD (as2 as) = .list ((as2 as).map Atm.toD) from rfl] at h2
    simp [turnF, lb_law_0, h6f, h6d, esl, -List.map_drop, szOk_small (n := (p.spots [] [] []).length - j + (p.spots [] [] []).length) (by omega), h1, eadd, eats, h2, lD_0, lD_2, lD_3, gl, eg, hw9, ha, ebl, h3, hw13, f1, sy]
  · obtain ⟨kk, f1, rfl⟩ := fol (.tuple (s.pl.map .int)) (.inr rfl)
    refine ⟨a3, b3, c3, e3, some (.val (.int k)), some (.val s.lD), some (.val td), some (.val (.bool due)), some (.val (plD s.pl)), some (.val d'), v3, ?_⟩
    simp only [atsW] at eadd
    rw [show atsD (as2 as) = .list ((as2 as).map Atm.toD) from rfl] at h2
    simp [turnF, lb_law_0, h6f, h6d, esl, -List.map_drop, szOk_small (n := (p.spots [] [] []).length - j + (p.spots [] [] []).length) (by omega), h1, eadd, eats, h2, lD_0, lD_2, lD_3, gl, eg, hw9, ha, show ¬ (k : Int) = 3 by omega, h3, hw13, f1, sy]
theorem law_loop (ns : List Int) {p : Prt} {as : List Atm} (P : PosOk p as) (n : Nat) (x2 x4 : Option W) : ∀ (j k : Nat), k + j ≤ 4 → ∀ (w6 : W), w6.flat = some (.list ((p.spots [] [] []).map Spot.lD)) → w6.toD = some (.list ((p.spots [] [] []).map Spot.lD)) → ∀ {a b : Int} (c e : Int), SV a b → ∀ (x7 x8 x9 x10 x12 x13 : Option W),
    ∃ w6' a' b' c' e' x7' x8' x9' x10' x12' x13', W.toD w6' = some (.list ((p.spots [] [] []).map Spot.lD)) ∧ SV a' b' ∧ forL (turnF (runN (n + 40)) subT 1000 [] [7] false lb_law_0) ((List.range' k j).map fun (i : Nat) => .int i) [some (.val (scD ns)), some (stW a b c e), x2, some (.val (atsD as)), x4, some (.val p.toD), some w6, x7, x8, x9, x10, none, x12, x13] =
      .next [some (.val (scD ns)), some (stW a' b' c' e'), x2, some (.val (atsD as)), x4, some (.val p.toD), some w6', x7', x8', x9', x10', none, x12', x13']
  | 0, k, _, w6, hf, hd, a, b, c, e, v, x7, x8, x9, x10, x12, x13 => ⟨w6, a, b, c, e, x7, x8, x9, x10, x12, x13, hd, v, rfl⟩
  | j + 1, k, hk, w6, hf, hd, a, b, c, e, v, x7, x8, x9, x10, x12, x13 => by
    obtain ⟨a1, b1, c1, e1, y7, y8, y9, y10, y12, y13, v1, st⟩ := law_turn ns P k (by omega) n hf hd c e v x2 x4 x7 x8 x9 x10 x12 x13
    obtain ⟨w6', a2, b2, c2, e2, z7, z8, z9, z10, z12, z13, hw, v2, hr⟩ := law_loop ns P n x2 x4 j (k + 1) (by omega) (.val (.list ((p.spots [] [] []).map Spot.lD))) rfl (by simp) c1 e1 v1 y7 y8 y9 y10 y12 y13
    exact ⟨w6', a2, b2, c2, e2, z7, z8, z9, z10, z12, z13, hw, v2, by rw [List.range'_succ, List.map_cons, forL_next st]; exact hr⟩
theorem xyz_cast (as : List Atm) (has : as.length ≤ 3) : CastOk xyz rst vv as := ⟨by simp [xyz], by simp [rst], by simp [vv], by omega, by simp [rst]⟩
theorem run_law (ns : List Int) (n : Nat) : runN (n + 41) 44 [.val (scD ns)] = .ret (.val (.bool true)) [] := by
  obtain ⟨r, a1, b1, c1, e1, r0, r1, v1, h1⟩ := draw_ok ns (a := 0) (b := 0) 0 0 ⟨by omega, by omega⟩ (m := 1000000000000000) (by omega) (by omega) (n + 39)
  let casts : List (List Atm) := [[.i (r + 2000)], [.s (S "1"), .i 1], [.i (r + 2000), .s (S "b"), .s (S "")], [.i 0, .i (-(r + 2000))]]
  obtain ⟨_, a2, b2, c2, e2, v2, ⟨ad, had, rfl⟩, h2⟩ := some_ok ns (d := .list (casts.map atsD)) (.inl rfl) (by simp [casts]) (by simp [casts]) c1 e1 v1 (n + 38)
  obtain ⟨as, has, rfl⟩ := List.mem_map.mp had
  have asok : (∀ a ∈ as, AtOk a) ∧ 0 < as.length ∧ as.length ≤ 3 := by
    simp only [casts, List.mem_cons, List.not_mem_nil, or_false] at has
    rcases has with rfl | rfl | rfl | rfl
    · refine ⟨?_, by simp, by simp⟩
      simp [AtOk]
      omega
    · simp [AtOk, atS]
    · refine ⟨?_, by simp, by simp⟩
      simp [AtOk, atS]
      omega
    · refine ⟨?_, by simp, by simp⟩
      simp [AtOk]
      omega
  have C := xyz_cast as asok.2.2
  obtain ⟨r2, a3, b3, c3, e3, q0, q1, v3, h3⟩ := draw_ok ns c2 e2 v2 (m := 11) (by omega) (by omega) (n + 39)
  obtain ⟨room, rfl⟩ : ∃ k : Nat, r2 = k := ⟨r2.toNat, by omega⟩
  obtain ⟨_, a4, b4, c4, e4, v4, ⟨p, fp, pd, ps, pn, rfl⟩, h4⟩ := open_draw ns C (1 + room) (g := []) c3 e3 v3 (by simp) (by omega) (by omega) (n + 40) (by omega)
  obtain ⟨r3, a5, b5, c5, e5, q2, q3, v5, h5⟩ := draw_ok ns c4 e4 v4 (m := 3) (by omega) (by omega) (n + 39)
  -- either expression
  have fin : ∀ (q : Prt) (a b c e : Int), SV a b → q.Fr xyz rst vv as [] → q.dp ≤ 12 → q.sz ≤ 40 → q.nm ≤ 3 → ∀ x2 x4 : Option W, ∃ e', evSs (runN (n + 40)) subT 1000 [] [.asg 6 (.call f__law_parts [.loc 5, .tup [], .lst [], .lst []]),
      .forS [7] false .rng1 [.lit (.int (4))] lb_law_0,
      .ret (.call f__law_refuses [.loc 0, .io 1, .loc 5, .call f__law_some [.loc 0, .io 1, .loc 6]])] [some (.val (scD ns)), some (stW a b c e), x2, some (.val (atsD as)), x4, some (.val q.toD), none, none, none, none, none, none, none, none] = .ret (.val (.bool true)) e' := fun q a b c e v fq qd qs qn x2 x4 => by
    obtain ⟨ok, inn⟩ := fr_ok xyz_nms rst_nms vv_nms asok.1 (p := q) (g := []) (by simp) fq
    have P : PosOk q as := ⟨⟨qd, qs, qn, ok, inn, by simp [rst], by simp [vv]⟩, fun x hx => fr_nmz fq x hx, asok.1, asok.2.1, asok.2.2⟩
    have hp := run_parts q [] [] [] (by simp; omega) (by simp; omega) (by simp; omega) (n + 40) (by omega)
    have hd := toDs_lam Spot.lD (q.spots [] [] [])
    have hv : valsW ((q.spots [] [] []).map fun s => W.val s.lD) = some ((q.spots [] [] []).map Spot.lD) := by
      have := valsW_map ((q.spots [] [] []).map Spot.lD)
      rw [List.map_map] at this
      exact this
    obtain ⟨w6, a6, b6, c6, e6, y7, y8, y9, y10, y12, y13, hw6, v6, h6⟩ := law_loop ns P n x2 x4 4 0 (by omega) (spW (q.spots [] [] [])) (by simp [hv]) (by simp) c e v none none none none none none
    have hsl := spots_len q [] [] []
    obtain ⟨_, a7, b7, c7, e7, v7, ⟨sd, hsd, rfl⟩, h7⟩ := some_ok ns (d := .list ((q.spots [] [] []).map Spot.lD)) (.inl rfl) (by simp [hsl]; exact sz_pos q) (by simp [hsl]; omega) c6 e6 v6 (n + 38)
    obtain ⟨s, hs, rfl⟩ := List.mem_map.mp hsd
    obtain ⟨_, a8, b8, c8, e8, v8, rfl, h8⟩ := refuses_draw ns P.b hs (P.sq hs) c7 e7 v7 (n + 4)
    refine ⟨[some (.val (scD ns)), some (stW a8 b8 c8 e8), x2, some (.val (atsD as)), x4, some (.val q.toD), some (.val (.list ((q.spots [] [] []).map Spot.lD))), y7, y8, y9, y10, none, y12, y13], ?_⟩
    have rg : itemsOf .rng1 [.val (.int 4)] = some ((List.range' 0 4).map fun (i : Nat) => .int i) := by
      have := rng1_nat 4 (by omega)
      rw [List.range_eq_range'] at this
      exact this
    generalize ((List.range' 0 4).map fun (i : Nat) => PyData.int i) = R4 at rg h6
    simp only [plD, List.map_nil] at hp
    simp only [spW] at h6
    simp [hp, -rng1_int, rg, h6, retR, hw6, h7, h8]
  have p15 : binD .pow (.int 10) (.int 15) = some (.val (.int 1000000000000000)) := by simp [binD, intOp]
  have s0 : W.lst [.val (.int 0), .val (.int 0), .val (.int 0), .val (.int 0)] = stW 0 0 0 0 := rfl
  have er : ((1 : Int) + room) = ((1 + room : Nat) : Int) := by omega
  simp only [casts, atsD, List.map_cons, List.map_nil, Atm.toD] at h2
  rw [show (PyData.list (as.map Atm.toD)) = atsD as from rfl] at h2
  have ecast : (PyData.list [.list [.str (S "x"), .str (S "y"), .str (S "z")], .list [.str (S "r"), .str (S "s"), .str (S "t")], atsD as, .int 3, .list [.str (S "v")]]) = castD xyz rst vv as := rfl
  simp only [gL, List.map_nil] at h4
  rw [rn_law]
  by_cases hr3 : 0 < r3
  · obtain ⟨_, a6, b6, c6, e6, v6, ⟨q, fq, qd, qs, qn, rfl⟩, h6⟩ := nest_draw ns C (by simp [xyz]) (by simp [xyz]) c5 e5 v5 (n + 35)
    obtain ⟨e', hfin⟩ := fin q a6 b6 c6 e6 v6 fq (by omega) (by omega) qn (some (.val (.int (r + 2000)))) (some (.val (castD xyz rst vv as)))
    simp [-Int.natCast_add, evF, ir_law, s0, p15, h1, h2, h3, er, ecast, szOk_small (n := 5) (by omega), h4, h5, hr3, h6]
    simp at hfin
    rw [hfin]
  · obtain ⟨e', hfin⟩ := fin p a5 b5 c5 e5 v5 fp (by omega) (by omega) (by simpa using pn) (some (.val (.int (r + 2000)))) (some (.val (castD xyz rst vv as)))
    simp [-Int.natCast_add, evF, ir_law, s0, p15, h1, h2, h3, er, ecast, szOk_small (n := 5) (by omega), h4, h5, hr3]
    simp at hfin
    rw [hfin]
end TA

set_option Elab.async false
set_option linter.all false
set_option maxRecDepth 100000
/-! TaFun: the defs of the module, as they stand behind the top. -/
namespace TA
open PySem PySem.Spec PyProof.Rows L2
abbrev FnP (K : PySem.W.Frag) (x : Str) (i : Nat) (f : Addr) (fd : FuncData) : Prop := FunD K x x (defArgs (top i)) (defBody (top i)) (defScope (top i)) [] [] f fd
section
variable {K : PySem.W.Frag} {mg : Str → Option Value} {fa : Addr} {fd : FuncData}
theorem sc_is_row : FnScope N_is_row (N_is_row.take 1) (defScope (top 2)) := ⟨by kernel_rfl, by kernel_rfl, by kernel_rfl, by decide +kernel, by kernel_rfl, by decide +kernel, by decide +kernel⟩
theorem bn_is_row (F : FnP K "is_row" 2 fa fd) : L2.Binds K fd (N_is_row.take 1) [] := F.bindsN fun _ _ _ _ _ _ us hl => match us, hl with | [_], _ => rfl
theorem at_is_row (F : FnP K "is_row" 2 fa fd) (m : mg "is_row" = some (.ref fa)) : DefAt K mg tabk tb 60 0 "is_row" 1 [] ir_is_row (top 2) N_is_row fa fd := ⟨rfl, rfl, rfl, He5.fun_of F, sc_is_row, ck_is_row, m, F.kp, bn_is_row F⟩
theorem sc_is_name : FnScope N_is_name (N_is_name.take 1) (defScope (top 3)) := ⟨by kernel_rfl, by kernel_rfl, by kernel_rfl, by decide +kernel, by kernel_rfl, by decide +kernel, by decide +kernel⟩
theorem bn_is_name (F : FnP K "is_name" 3 fa fd) : L2.Binds K fd (N_is_name.take 1) [] := F.bindsN fun _ _ _ _ _ _ us hl => match us, hl with | [_], _ => rfl
theorem at_is_name (F : FnP K "is_name" 3 fa fd) (m : mg "is_name" = some (.ref fa)) : DefAt K mg tabk tb 60 1 "is_name" 1 [] ir_is_name (top 3) N_is_name fa fd := ⟨rfl, rfl, rfl, He5.fun_of F, sc_is_name, ck_is_name, m, F.kp, bn_is_name F⟩
theorem sc_frozen : FnScope N_frozen (N_frozen.take 1) (defScope (top 4)) := ⟨by kernel_rfl, by kernel_rfl, by kernel_rfl, by decide +kernel, by kernel_rfl, by decide +kernel, by decide +kernel⟩
theorem bn_frozen (F : FnP K "frozen" 4 fa fd) : L2.Binds K fd (N_frozen.take 1) [] := F.bindsN fun _ _ _ _ _ _ us hl => match us, hl with | [_], _ => rfl
theorem at_frozen (F : FnP K "frozen" 4 fa fd) (m : mg "frozen" = some (.ref fa)) : DefAt K mg tabk tb 60 2 "frozen" 1 [] ir_frozen (top 4) N_frozen fa fd := ⟨rfl, rfl, rfl, He5.fun_of F, sc_frozen, ck_frozen, m, F.kp, bn_frozen F⟩
theorem sc_is_whole : FnScope N_is_whole (N_is_whole.take 1) (defScope (top 17)) := ⟨by kernel_rfl, by kernel_rfl, by kernel_rfl, by decide +kernel, by kernel_rfl, by decide +kernel, by decide +kernel⟩
theorem bn_is_whole (F : FnP K "is_whole" 17 fa fd) : L2.Binds K fd (N_is_whole.take 1) [] := F.bindsN fun _ _ _ _ _ _ us hl => match us, hl with | [_], _ => rfl
theorem at_is_whole (F : FnP K "is_whole" 17 fa fd) (m : mg "is_whole" = some (.ref fa)) : DefAt K mg tabk tb 60 3 "is_whole" 1 [] ir_is_whole (top 17) N_is_whole fa fd := ⟨rfl, rfl, rfl, He5.fun_of F, sc_is_whole, ck_is_whole, m, F.kp, bn_is_whole F⟩
theorem sc_is_atom : FnScope N_is_atom (N_is_atom.take 1) (defScope (top 18)) := ⟨by kernel_rfl, by kernel_rfl, by kernel_rfl, by decide +kernel, by kernel_rfl, by decide +kernel, by decide +kernel⟩
theorem bn_is_atom (F : FnP K "is_atom" 18 fa fd) : L2.Binds K fd (N_is_atom.take 1) [] := F.bindsN fun _ _ _ _ _ _ us hl => match us, hl with | [_], _ => rfl
theorem at_is_atom (F : FnP K "is_atom" 18 fa fd) (m : mg "is_atom" = some (.ref fa)) : DefAt K mg tabk tb 60 4 "is_atom" 1 [] ir_is_atom (top 18) N_is_atom fa fd := ⟨rfl, rfl, rfl, He5.fun_of F, sc_is_atom, ck_is_atom, m, F.kp, bn_is_atom F⟩
theorem sc_is_item : FnScope N_is_item (N_is_item.take 2) (defScope (top 19)) := ⟨by kernel_rfl, by kernel_rfl, by kernel_rfl, by decide +kernel, by kernel_rfl, by decide +kernel, by decide +kernel⟩
theorem bn_is_item (F : FnP K "is_item" 19 fa fd) : L2.Binds K fd (N_is_item.take 2) [] := F.bindsN fun _ _ _ _ _ _ us hl => match us, hl with | [_, _], _ => rfl
theorem at_is_item (F : FnP K "is_item" 19 fa fd) (m : mg "is_item" = some (.ref fa)) : DefAt K mg tabk tb 60 5 "is_item" 2 [] ir_is_item (top 19) N_is_item fa fd := ⟨rfl, rfl, rfl, He5.fun_of F, sc_is_item, ck_is_item, m, F.kp, bn_is_item F⟩
theorem sc_items_fault : FnScope N_items_fault (N_items_fault.take 2) (defScope (top 20)) := ⟨by kernel_rfl, by kernel_rfl, by kernel_rfl, by decide +kernel, by kernel_rfl, by decide +kernel, by decide +kernel⟩
theorem bn_items_fault (F : FnP K "items_fault" 20 fa fd) : L2.Binds K fd (N_items_fault.take 2) [] := F.bindsN fun _ _ _ _ _ _ us hl => match us, hl with | [_, _], _ => rfl
theorem at_items_fault (F : FnP K "items_fault" 20 fa fd) (m : mg "items_fault" = some (.ref fa)) : DefAt K mg tabk tb 60 6 "items_fault" 2 [] ir_items_fault (top 20) N_items_fault fa fd := ⟨rfl, rfl, rfl, He5.fun_of F, sc_items_fault, ck_items_fault, m, F.kp, bn_items_fault F⟩
theorem sc_test_fault : FnScope N_test_fault (N_test_fault.take 2) (defScope (top 21)) := ⟨by kernel_rfl, by kernel_rfl, by kernel_rfl, by decide +kernel, by kernel_rfl, by decide +kernel, by decide +kernel⟩
theorem bn_test_fault (F : FnP K "test_fault" 21 fa fd) : L2.Binds K fd (N_test_fault.take 2) [] := F.bindsN fun _ _ _ _ _ _ us hl => match us, hl with | [_, _], _ => rfl
theorem at_test_fault (F : FnP K "test_fault" 21 fa fd) (m : mg "test_fault" = some (.ref fa)) : DefAt K mg tabk tb 60 7 "test_fault" 2 [] ir_test_fault (top 21) N_test_fault fa fd := ⟨rfl, rfl, rfl, He5.fun_of F, sc_test_fault, ck_test_fault, m, F.kp, bn_test_fault F⟩
theorem sc_behind : FnScope N_behind (N_behind.take 2) (defScope (top 22)) := ⟨by kernel_rfl, by kernel_rfl, by kernel_rfl, by decide +kernel, by kernel_rfl, by decide +kernel, by decide +kernel⟩
theorem bn_behind (F : FnP K "behind" 22 fa fd) : L2.Binds K fd (N_behind.take 2) [] := F.bindsN fun _ _ _ _ _ _ us hl => match us, hl with | [_, _], _ => rfl
theorem at_behind (F : FnP K "behind" 22 fa fd) (m : mg "behind" = some (.ref fa)) : DefAt K mg tabk tb 60 8 "behind" 2 [] ir_behind (top 22) N_behind fa fd := ⟨rfl, rfl, rfl, He5.fun_of F, sc_behind, ck_behind, m, F.kp, bn_behind F⟩
theorem sc_each_fault : FnScope N_each_fault (N_each_fault.take 2) (defScope (top 23)) := ⟨by kernel_rfl, by kernel_rfl, by kernel_rfl, by decide +kernel, by kernel_rfl, by decide +kernel, by decide +kernel⟩
theorem bn_each_fault (F : FnP K "each_fault" 23 fa fd) : L2.Binds K fd (N_each_fault.take 2) [] := F.bindsN fun _ _ _ _ _ _ us hl => match us, hl with | [_, _], _ => rfl
theorem at_each_fault (F : FnP K "each_fault" 23 fa fd) (m : mg "each_fault" = some (.ref fa)) : DefAt K mg tabk tb 60 9 "each_fault" 2 [] ir_each_fault (top 23) N_each_fault fa fd := ⟨rfl, rfl, rfl, He5.fun_of F, sc_each_fault, ck_each_fault, m, F.kp, bn_each_fault F⟩
theorem sc_last_fault : FnScope N_last_fault (N_last_fault.take 2) (defScope (top 24)) := ⟨by kernel_rfl, by kernel_rfl, by kernel_rfl, by decide +kernel, by kernel_rfl, by decide +kernel, by decide +kernel⟩
theorem bn_last_fault (F : FnP K "last_fault" 24 fa fd) : L2.Binds K fd (N_last_fault.take 2) [] := F.bindsN fun _ _ _ _ _ _ us hl => match us, hl with | [_, _], _ => rfl
theorem at_last_fault (F : FnP K "last_fault" 24 fa fd) (m : mg "last_fault" = some (.ref fa)) : DefAt K mg tabk tb 60 10 "last_fault" 2 [] ir_last_fault (top 24) N_last_fault fa fd := ⟨rfl, rfl, rfl, He5.fun_of F, sc_last_fault, ck_last_fault, m, F.kp, bn_last_fault F⟩
theorem sc_part_fault : FnScope N_part_fault (N_part_fault.take 2) (defScope (top 25)) := ⟨by kernel_rfl, by kernel_rfl, by kernel_rfl, by decide +kernel, by kernel_rfl, by decide +kernel, by decide +kernel⟩
theorem bn_part_fault (F : FnP K "part_fault" 25 fa fd) : L2.Binds K fd (N_part_fault.take 2) [] := F.bindsN fun _ _ _ _ _ _ us hl => match us, hl with | [_, _], _ => rfl
theorem at_part_fault (F : FnP K "part_fault" 25 fa fd) (m : mg "part_fault" = some (.ref fa)) : DefAt K mg tabk tb 60 11 "part_fault" 2 [] ir_part_fault (top 25) N_part_fault fa fd := ⟨rfl, rfl, rfl, He5.fun_of F, sc_part_fault, ck_part_fault, m, F.kp, bn_part_fault F⟩
theorem sc_surveyed : FnScope N_surveyed (N_surveyed.take 1) (defScope (top 26)) := ⟨by kernel_rfl, by kernel_rfl, by kernel_rfl, by decide +kernel, by kernel_rfl, by decide +kernel, by decide +kernel⟩
theorem bn_surveyed (F : FnP K "surveyed" 26 fa fd) : L2.Binds K fd (N_surveyed.take 1) [] := F.bindsN fun _ _ _ _ _ _ us hl => match us, hl with | [_], _ => rfl
theorem at_surveyed (F : FnP K "surveyed" 26 fa fd) (m : mg "surveyed" = some (.ref fa)) : DefAt K mg tabk tb 60 12 "surveyed" 1 [] ir_surveyed (top 26) N_surveyed fa fd := ⟨rfl, rfl, rfl, He5.fun_of F, sc_surveyed, ck_surveyed, m, F.kp, bn_surveyed F⟩
theorem sc_depth_of : FnScope N_depth_of (N_depth_of.take 1) (defScope (top 27)) := ⟨by kernel_rfl, by kernel_rfl, by kernel_rfl, by decide +kernel, by kernel_rfl, by decide +kernel, by decide +kernel⟩
theorem bn_depth_of (F : FnP K "depth_of" 27 fa fd) : L2.Binds K fd (N_depth_of.take 1) [] := F.bindsN fun _ _ _ _ _ _ us hl => match us, hl with | [_], _ => rfl
theorem at_depth_of (F : FnP K "depth_of" 27 fa fd) (m : mg "depth_of" = some (.ref fa)) : DefAt K mg tabk tb 60 13 "depth_of" 1 [] ir_depth_of (top 27) N_depth_of fa fd := ⟨rfl, rfl, rfl, He5.fun_of F, sc_depth_of, ck_depth_of, m, F.kp, bn_depth_of F⟩
theorem sc_within_bounds : FnScope N_within_bounds (N_within_bounds.take 1) (defScope (top 28)) := ⟨by kernel_rfl, by kernel_rfl, by kernel_rfl, by decide +kernel, by kernel_rfl, by decide +kernel, by decide +kernel⟩
theorem bn_within_bounds (F : FnP K "within_bounds" 28 fa fd) : L2.Binds K fd (N_within_bounds.take 1) [] := F.bindsN fun _ _ _ _ _ _ us hl => match us, hl with | [_], _ => rfl
theorem at_within_bounds (F : FnP K "within_bounds" 28 fa fd) (m : mg "within_bounds" = some (.ref fa)) : DefAt K mg tabk tb 60 14 "within_bounds" 1 [] ir_within_bounds (top 28) N_within_bounds fa fd := ⟨rfl, rfl, rfl, He5.fun_of F, sc_within_bounds, ck_within_bounds, m, F.kp, bn_within_bounds F⟩
theorem sc_open_fault : FnScope N_open_fault (N_open_fault.take 1) (defScope (top 29)) := ⟨by kernel_rfl, by kernel_rfl, by kernel_rfl, by decide +kernel, by kernel_rfl, by decide +kernel, by decide +kernel⟩
theorem bn_open_fault (F : FnP K "open_fault" 29 fa fd) : L2.Binds K fd (N_open_fault.take 1) [] := F.bindsN fun _ _ _ _ _ _ us hl => match us, hl with | [_], _ => rfl
theorem at_open_fault (F : FnP K "open_fault" 29 fa fd) (m : mg "open_fault" = some (.ref fa)) : DefAt K mg tabk tb 60 15 "open_fault" 1 [] ir_open_fault (top 29) N_open_fault fa fd := ⟨rfl, rfl, rfl, He5.fun_of F, sc_open_fault, ck_open_fault, m, F.kp, bn_open_fault F⟩
theorem sc_opened : FnScope N_opened (N_opened.take 1) (defScope (top 30)) := ⟨by kernel_rfl, by kernel_rfl, by kernel_rfl, by decide +kernel, by kernel_rfl, by decide +kernel, by decide +kernel⟩
theorem bn_opened (F : FnP K "opened" 30 fa fd) : L2.Binds K fd (N_opened.take 1) [] := F.bindsN fun _ _ _ _ _ _ us hl => match us, hl with | [_], _ => rfl
theorem at_opened (F : FnP K "opened" 30 fa fd) (m : mg "opened" = some (.ref fa)) : DefAt K mg tabk tb 60 16 "opened" 1 [] ir_opened (top 30) N_opened fa fd := ⟨rfl, rfl, rfl, He5.fun_of F, sc_opened, ck_opened, m, F.kp, bn_opened F⟩
theorem sc_is_path : FnScope N_is_path (N_is_path.take 1) (defScope (top 31)) := ⟨by kernel_rfl, by kernel_rfl, by kernel_rfl, by decide +kernel, by kernel_rfl, by decide +kernel, by decide +kernel⟩
theorem bn_is_path (F : FnP K "is_path" 31 fa fd) : L2.Binds K fd (N_is_path.take 1) [] := F.bindsN fun _ _ _ _ _ _ us hl => match us, hl with | [_], _ => rfl
theorem at_is_path (F : FnP K "is_path" 31 fa fd) (m : mg "is_path" = some (.ref fa)) : DefAt K mg tabk tb 60 17 "is_path" 1 [] ir_is_path (top 31) N_is_path fa fd := ⟨rfl, rfl, rfl, He5.fun_of F, sc_is_path, ck_is_path, m, F.kp, bn_is_path F⟩
theorem sc_found_part : FnScope N_found_part (N_found_part.take 2) (defScope (top 32)) := ⟨by kernel_rfl, by kernel_rfl, by kernel_rfl, by decide +kernel, by kernel_rfl, by decide +kernel, by decide +kernel⟩
theorem bn_found_part (F : FnP K "found_part" 32 fa fd) : L2.Binds K fd (N_found_part.take 2) [] := F.bindsN fun _ _ _ _ _ _ us hl => match us, hl with | [_, _], _ => rfl
theorem at_found_part (F : FnP K "found_part" 32 fa fd) (m : mg "found_part" = some (.ref fa)) : DefAt K mg tabk tb 60 18 "found_part" 2 [] ir_found_part (top 32) N_found_part fa fd := ⟨rfl, rfl, rfl, He5.fun_of F, sc_found_part, ck_found_part, m, F.kp, bn_found_part F⟩
theorem sc_open_part : FnScope N_open_part (N_open_part.take 2) (defScope (top 33)) := ⟨by kernel_rfl, by kernel_rfl, by kernel_rfl, by decide +kernel, by kernel_rfl, by decide +kernel, by decide +kernel⟩
theorem bn_open_part (F : FnP K "open_part" 33 fa fd) : L2.Binds K fd (N_open_part.take 2) [] := F.bindsN fun _ _ _ _ _ _ us hl => match us, hl with | [_, _], _ => rfl
theorem at_open_part (F : FnP K "open_part" 33 fa fd) (m : mg "open_part" = some (.ref fa)) : DefAt K mg tabk tb 60 19 "open_part" 2 [] ir_open_part (top 33) N_open_part fa fd := ⟨rfl, rfl, rfl, He5.fun_of F, sc_open_part, ck_open_part, m, F.kp, bn_open_part F⟩
theorem sc_classes : FnScope N_classes (N_classes.take 1) (defScope (top 35)) := ⟨by kernel_rfl, by kernel_rfl, by kernel_rfl, by decide +kernel, by kernel_rfl, by decide +kernel, by decide +kernel⟩
theorem bn_classes (F : FnP K "classes" 35 fa fd) : L2.Binds K fd (N_classes.take 1) [] := F.bindsN fun _ _ _ _ _ _ us hl => match us, hl with | [_], _ => rfl
theorem at_classes (F : FnP K "classes" 35 fa fd) (m : mg "classes" = some (.ref fa)) : DefAt K mg tabk tb 60 20 "classes" 1 [] ir_classes (top 35) N_classes fa fd := ⟨rfl, rfl, rfl, He5.fun_of F, sc_classes, ck_classes, m, F.kp, bn_classes F⟩
theorem sc_written_classes : FnScope N_written_classes (N_written_classes.take 1) (defScope (top 36)) := ⟨by kernel_rfl, by kernel_rfl, by kernel_rfl, by decide +kernel, by kernel_rfl, by decide +kernel, by decide +kernel⟩
theorem bn_written_classes (F : FnP K "written_classes" 36 fa fd) : L2.Binds K fd (N_written_classes.take 1) [] := F.bindsN fun _ _ _ _ _ _ us hl => match us, hl with | [_], _ => rfl
theorem at_written_classes (F : FnP K "written_classes" 36 fa fd) (m : mg "written_classes" = some (.ref fa)) : DefAt K mg tabk tb 60 21 "written_classes" 1 [] ir_written_classes (top 36) N_written_classes fa fd := ⟨rfl, rfl, rfl, He5.fun_of F, sc_written_classes, ck_written_classes, m, F.kp, bn_written_classes F⟩
theorem sc_test_follows : FnScope N_test_follows (N_test_follows.take 2) (defScope (top 37)) := ⟨by kernel_rfl, by kernel_rfl, by kernel_rfl, by decide +kernel, by kernel_rfl, by decide +kernel, by decide +kernel⟩
theorem bn_test_follows (F : FnP K "test_follows" 37 fa fd) : L2.Binds K fd (N_test_follows.take 2) [] := F.bindsN fun _ _ _ _ _ _ us hl => match us, hl with | [_, _], _ => rfl
theorem at_test_follows (F : FnP K "test_follows" 37 fa fd) (m : mg "test_follows" = some (.ref fa)) : DefAt K mg tabk tb 60 22 "test_follows" 2 [] ir_test_follows (top 37) N_test_follows fa fd := ⟨rfl, rfl, rfl, He5.fun_of F, sc_test_follows, ck_test_follows, m, F.kp, bn_test_follows F⟩
theorem sc_checked_test : FnScope N_checked_test (N_checked_test.take 2) (defScope (top 38)) := ⟨by kernel_rfl, by kernel_rfl, by kernel_rfl, by decide +kernel, by kernel_rfl, by decide +kernel, by decide +kernel⟩
theorem bn_checked_test (F : FnP K "checked_test" 38 fa fd) : L2.Binds K fd (N_checked_test.take 2) [] := F.bindsN fun _ _ _ _ _ _ us hl => match us, hl with | [_, _], _ => rfl
theorem at_checked_test (F : FnP K "checked_test" 38 fa fd) (m : mg "checked_test" = some (.ref fa)) : DefAt K mg tabk tb 60 23 "checked_test" 2 [] ir_checked_test (top 38) N_checked_test fa fd := ⟨rfl, rfl, rfl, He5.fun_of F, sc_checked_test, ck_checked_test, m, F.kp, bn_checked_test F⟩
theorem sc_follows : FnScope N_follows (N_follows.take 3) (defScope (top 40)) := ⟨by kernel_rfl, by kernel_rfl, by kernel_rfl, by decide +kernel, by kernel_rfl, by decide +kernel, by decide +kernel⟩
theorem bn_follows (F : FnP K "follows" 40 fa fd) : L2.Binds K fd (N_follows.take 3) [] := F.bindsN fun _ _ _ _ _ _ us hl => match us, hl with | [_, _, _], _ => rfl
theorem at_follows (F : FnP K "follows" 40 fa fd) (m : mg "follows" = some (.ref fa)) : DefAt K mg tabk tb 60 24 "follows" 3 [] ir_follows (top 40) N_follows fa fd := ⟨rfl, rfl, rfl, He5.fun_of F, sc_follows, ck_follows, m, F.kp, bn_follows F⟩
theorem sc_names_of : FnScope N_names_of (N_names_of.take 1) (defScope (top 41)) := ⟨by kernel_rfl, by kernel_rfl, by kernel_rfl, by decide +kernel, by kernel_rfl, by decide +kernel, by decide +kernel⟩
theorem bn_names_of (F : FnP K "names_of" 41 fa fd) : L2.Binds K fd (N_names_of.take 1) [] := F.bindsN fun _ _ _ _ _ _ us hl => match us, hl with | [_], _ => rfl
theorem at_names_of (F : FnP K "names_of" 41 fa fd) (m : mg "names_of" = some (.ref fa)) : DefAt K mg tabk tb 60 25 "names_of" 1 [] ir_names_of (top 41) N_names_of fa fd := ⟨rfl, rfl, rfl, He5.fun_of F, sc_names_of, ck_names_of, m, F.kp, bn_names_of F⟩
theorem sc__law_draw : FnScope N__law_draw (N__law_draw.take 3) (defScope (top 43)) := ⟨by kernel_rfl, by kernel_rfl, by kernel_rfl, by decide +kernel, by kernel_rfl, by decide +kernel, by decide +kernel⟩
theorem bn__law_draw (F : FnP K "_law_draw" 43 fa fd) : L2.Binds K fd (N__law_draw.take 3) [] := F.bindsN fun _ _ _ _ _ _ us hl => match us, hl with | [_, _, _], _ => rfl
theorem at__law_draw (F : FnP K "_law_draw" 43 fa fd) (m : mg "_law_draw" = some (.ref fa)) : DefAt K mg tabk tb 60 26 "_law_draw" 3 [1] ir__law_draw (top 43) N__law_draw fa fd := ⟨rfl, rfl, rfl, He5.fun_of F, sc__law_draw, ck__law_draw, m, F.kp, bn__law_draw F⟩
theorem sc__law_some : FnScope N__law_some (N__law_some.take 3) (defScope (top 44)) := ⟨by kernel_rfl, by kernel_rfl, by kernel_rfl, by decide +kernel, by kernel_rfl, by decide +kernel, by decide +kernel⟩
theorem bn__law_some (F : FnP K "_law_some" 44 fa fd) : L2.Binds K fd (N__law_some.take 3) [] := F.bindsN fun _ _ _ _ _ _ us hl => match us, hl with | [_, _, _], _ => rfl
theorem at__law_some (F : FnP K "_law_some" 44 fa fd) (m : mg "_law_some" = some (.ref fa)) : DefAt K mg tabk tb 60 27 "_law_some" 3 [1] ir__law_some (top 44) N__law_some fa fd := ⟨rfl, rfl, rfl, He5.fun_of F, sc__law_some, ck__law_some, m, F.kp, bn__law_some F⟩
theorem sc__law_item : FnScope N__law_item (N__law_item.take 4) (defScope (top 45)) := ⟨by kernel_rfl, by kernel_rfl, by kernel_rfl, by decide +kernel, by kernel_rfl, by decide +kernel, by decide +kernel⟩
theorem bn__law_item (F : FnP K "_law_item" 45 fa fd) : L2.Binds K fd (N__law_item.take 4) [] := F.bindsN fun _ _ _ _ _ _ us hl => match us, hl with | [_, _, _, _], _ => rfl
theorem at__law_item (F : FnP K "_law_item" 45 fa fd) (m : mg "_law_item" = some (.ref fa)) : DefAt K mg tabk tb 60 28 "_law_item" 4 [1] ir__law_item (top 45) N__law_item fa fd := ⟨rfl, rfl, rfl, He5.fun_of F, sc__law_item, ck__law_item, m, F.kp, bn__law_item F⟩
theorem sc__law_test : FnScope N__law_test (N__law_test.take 4) (defScope (top 46)) := ⟨by kernel_rfl, by kernel_rfl, by kernel_rfl, by decide +kernel, by kernel_rfl, by decide +kernel, by decide +kernel⟩
theorem bn__law_test (F : FnP K "_law_test" 46 fa fd) : L2.Binds K fd (N__law_test.take 4) [] := F.bindsN fun _ _ _ _ _ _ us hl => match us, hl with | [_, _, _, _], _ => rfl
theorem at__law_test (F : FnP K "_law_test" 46 fa fd) (m : mg "_law_test" = some (.ref fa)) : DefAt K mg tabk tb 60 29 "_law_test" 4 [1] ir__law_test (top 46) N__law_test fa fd := ⟨rfl, rfl, rfl, He5.fun_of F, sc__law_test, ck__law_test, m, F.kp, bn__law_test F⟩
theorem sc__law_leaf : FnScope N__law_leaf (N__law_leaf.take 4) (defScope (top 47)) := ⟨by kernel_rfl, by kernel_rfl, by kernel_rfl, by decide +kernel, by kernel_rfl, by decide +kernel, by decide +kernel⟩
theorem bn__law_leaf (F : FnP K "_law_leaf" 47 fa fd) : L2.Binds K fd (N__law_leaf.take 4) [] := F.bindsN fun _ _ _ _ _ _ us hl => match us, hl with | [_, _, _, _], _ => rfl
theorem at__law_leaf (F : FnP K "_law_leaf" 47 fa fd) (m : mg "_law_leaf" = some (.ref fa)) : DefAt K mg tabk tb 60 30 "_law_leaf" 4 [1] ir__law_leaf (top 47) N__law_leaf fa fd := ⟨rfl, rfl, rfl, He5.fun_of F, sc__law_leaf, ck__law_leaf, m, F.kp, bn__law_leaf F⟩
theorem sc__law_open : FnScope N__law_open (N__law_open.take 5) (defScope (top 48)) := ⟨by kernel_rfl, by kernel_rfl, by kernel_rfl, by decide +kernel, by kernel_rfl, by decide +kernel, by decide +kernel⟩
theorem bn__law_open (F : FnP K "_law_open" 48 fa fd) : L2.Binds K fd (N__law_open.take 5) [] := F.bindsN fun _ _ _ _ _ _ us hl => match us, hl with | [_, _, _, _, _], _ => rfl
theorem at__law_open (F : FnP K "_law_open" 48 fa fd) (m : mg "_law_open" = some (.ref fa)) : DefAt K mg tabk tb 60 31 "_law_open" 5 [1] ir__law_open (top 48) N__law_open fa fd := ⟨rfl, rfl, rfl, He5.fun_of F, sc__law_open, ck__law_open, m, F.kp, bn__law_open F⟩
theorem sc__law_atom : FnScope N__law_atom (N__law_atom.take 2) (defScope (top 49)) := ⟨by kernel_rfl, by kernel_rfl, by kernel_rfl, by decide +kernel, by kernel_rfl, by decide +kernel, by decide +kernel⟩
theorem bn__law_atom (F : FnP K "_law_atom" 49 fa fd) : L2.Binds K fd (N__law_atom.take 2) [] := F.bindsN fun _ _ _ _ _ _ us hl => match us, hl with | [_, _], _ => rfl
theorem at__law_atom (F : FnP K "_law_atom" 49 fa fd) (m : mg "_law_atom" = some (.ref fa)) : DefAt K mg tabk tb 60 32 "_law_atom" 2 [] ir__law_atom (top 49) N__law_atom fa fd := ⟨rfl, rfl, rfl, He5.fun_of F, sc__law_atom, ck__law_atom, m, F.kp, bn__law_atom F⟩
theorem sc__law_passes : FnScope N__law_passes (N__law_passes.take 2) (defScope (top 50)) := ⟨by kernel_rfl, by kernel_rfl, by kernel_rfl, by decide +kernel, by kernel_rfl, by decide +kernel, by decide +kernel⟩
theorem bn__law_passes (F : FnP K "_law_passes" 50 fa fd) : L2.Binds K fd (N__law_passes.take 2) [] := F.bindsN fun _ _ _ _ _ _ us hl => match us, hl with | [_, _], _ => rfl
theorem at__law_passes (F : FnP K "_law_passes" 50 fa fd) (m : mg "_law_passes" = some (.ref fa)) : DefAt K mg tabk tb 60 33 "_law_passes" 2 [] ir__law_passes (top 50) N__law_passes fa fd := ⟨rfl, rfl, rfl, He5.fun_of F, sc__law_passes, ck__law_passes, m, F.kp, bn__law_passes F⟩
theorem sc__law_says : FnScope N__law_says (N__law_says.take 2) (defScope (top 51)) := ⟨by kernel_rfl, by kernel_rfl, by kernel_rfl, by decide +kernel, by kernel_rfl, by decide +kernel, by decide +kernel⟩
theorem bn__law_says (F : FnP K "_law_says" 51 fa fd) : L2.Binds K fd (N__law_says.take 2) [] := F.bindsN fun _ _ _ _ _ _ us hl => match us, hl with | [_, _], _ => rfl
theorem at__law_says (F : FnP K "_law_says" 51 fa fd) (m : mg "_law_says" = some (.ref fa)) : DefAt K mg tabk tb 60 34 "_law_says" 2 [] ir__law_says (top 51) N__law_says fa fd := ⟨rfl, rfl, rfl, He5.fun_of F, sc__law_says, ck__law_says, m, F.kp, bn__law_says F⟩
theorem sc__law_parts : FnScope N__law_parts (N__law_parts.take 4) (defScope (top 52)) := ⟨by kernel_rfl, by kernel_rfl, by kernel_rfl, by decide +kernel, by kernel_rfl, by decide +kernel, by decide +kernel⟩
theorem bn__law_parts (F : FnP K "_law_parts" 52 fa fd) : L2.Binds K fd (N__law_parts.take 4) [] := F.bindsN fun _ _ _ _ _ _ us hl => match us, hl with | [_, _, _, _], _ => rfl
theorem at__law_parts (F : FnP K "_law_parts" 52 fa fd) (m : mg "_law_parts" = some (.ref fa)) : DefAt K mg tabk tb 60 35 "_law_parts" 4 [] ir__law_parts (top 52) N__law_parts fa fd := ⟨rfl, rfl, rfl, He5.fun_of F, sc__law_parts, ck__law_parts, m, F.kp, bn__law_parts F⟩
theorem sc__law_nest : FnScope N__law_nest (N__law_nest.take 3) (defScope (top 53)) := ⟨by kernel_rfl, by kernel_rfl, by kernel_rfl, by decide +kernel, by kernel_rfl, by decide +kernel, by decide +kernel⟩
theorem bn__law_nest (F : FnP K "_law_nest" 53 fa fd) : L2.Binds K fd (N__law_nest.take 3) [] := F.bindsN fun _ _ _ _ _ _ us hl => match us, hl with | [_, _, _], _ => rfl
theorem at__law_nest (F : FnP K "_law_nest" 53 fa fd) (m : mg "_law_nest" = some (.ref fa)) : DefAt K mg tabk tb 60 36 "_law_nest" 3 [1] ir__law_nest (top 53) N__law_nest fa fd := ⟨rfl, rfl, rfl, He5.fun_of F, sc__law_nest, ck__law_nest, m, F.kp, bn__law_nest F⟩
theorem sc__law_asked : FnScope N__law_asked (N__law_asked.take 4) (defScope (top 54)) := ⟨by kernel_rfl, by kernel_rfl, by kernel_rfl, by decide +kernel, by kernel_rfl, by decide +kernel, by decide +kernel⟩
theorem bn__law_asked (F : FnP K "_law_asked" 54 fa fd) : L2.Binds K fd (N__law_asked.take 4) [] := F.bindsN fun _ _ _ _ _ _ us hl => match us, hl with | [_, _, _, _], _ => rfl
theorem at__law_asked (F : FnP K "_law_asked" 54 fa fd) (m : mg "_law_asked" = some (.ref fa)) : DefAt K mg tabk tb 60 37 "_law_asked" 4 [1] ir__law_asked (top 54) N__law_asked fa fd := ⟨rfl, rfl, rfl, He5.fun_of F, sc__law_asked, ck__law_asked, m, F.kp, bn__law_asked F⟩
theorem sc__law_pool : FnScope N__law_pool (N__law_pool.take 2) (defScope (top 55)) := ⟨by kernel_rfl, by kernel_rfl, by kernel_rfl, by decide +kernel, by kernel_rfl, by decide +kernel, by decide +kernel⟩
theorem bn__law_pool (F : FnP K "_law_pool" 55 fa fd) : L2.Binds K fd (N__law_pool.take 2) [] := F.bindsN fun _ _ _ _ _ _ us hl => match us, hl with | [_, _], _ => rfl
theorem at__law_pool (F : FnP K "_law_pool" 55 fa fd) (m : mg "_law_pool" = some (.ref fa)) : DefAt K mg tabk tb 60 38 "_law_pool" 2 [] ir__law_pool (top 55) N__law_pool fa fd := ⟨rfl, rfl, rfl, He5.fun_of F, sc__law_pool, ck__law_pool, m, F.kp, bn__law_pool F⟩
theorem sc__law_always : FnScope N__law_always (N__law_always.take 3) (defScope (top 56)) := ⟨by kernel_rfl, by kernel_rfl, by kernel_rfl, by decide +kernel, by kernel_rfl, by decide +kernel, by decide +kernel⟩
theorem bn__law_always (F : FnP K "_law_always" 56 fa fd) : L2.Binds K fd (N__law_always.take 3) [] := F.bindsN fun _ _ _ _ _ _ us hl => match us, hl with | [_, _, _], _ => rfl
theorem at__law_always (F : FnP K "_law_always" 56 fa fd) (m : mg "_law_always" = some (.ref fa)) : DefAt K mg tabk tb 60 39 "_law_always" 3 [] ir__law_always (top 56) N__law_always fa fd := ⟨rfl, rfl, rfl, He5.fun_of F, sc__law_always, ck__law_always, m, F.kp, bn__law_always F⟩
theorem sc__law_refused : FnScope N__law_refused (N__law_refused.take 3) (defScope (top 57)) := ⟨by kernel_rfl, by kernel_rfl, by kernel_rfl, by decide +kernel, by kernel_rfl, by decide +kernel, by decide +kernel⟩
theorem bn__law_refused (F : FnP K "_law_refused" 57 fa fd) : L2.Binds K fd (N__law_refused.take 3) [] := F.bindsN fun _ _ _ _ _ _ us hl => match us, hl with | [_, _, _], _ => rfl
theorem at__law_refused (F : FnP K "_law_refused" 57 fa fd) (m : mg "_law_refused" = some (.ref fa)) : DefAt K mg tabk tb 60 40 "_law_refused" 3 [] ir__law_refused (top 57) N__law_refused fa fd := ⟨rfl, rfl, rfl, He5.fun_of F, sc__law_refused, ck__law_refused, m, F.kp, bn__law_refused F⟩
theorem sc__law_no_part : FnScope N__law_no_part (N__law_no_part.take 2) (defScope (top 58)) := ⟨by kernel_rfl, by kernel_rfl, by kernel_rfl, by decide +kernel, by kernel_rfl, by decide +kernel, by decide +kernel⟩
theorem bn__law_no_part (F : FnP K "_law_no_part" 58 fa fd) : L2.Binds K fd (N__law_no_part.take 2) [] := F.bindsN fun _ _ _ _ _ _ us hl => match us, hl with | [_, _], _ => rfl
theorem at__law_no_part (F : FnP K "_law_no_part" 58 fa fd) (m : mg "_law_no_part" = some (.ref fa)) : DefAt K mg tabk tb 60 41 "_law_no_part" 2 [] ir__law_no_part (top 58) N__law_no_part fa fd := ⟨rfl, rfl, rfl, He5.fun_of F, sc__law_no_part, ck__law_no_part, m, F.kp, bn__law_no_part F⟩
theorem sc__law_refuses : FnScope N__law_refuses (N__law_refuses.take 4) (defScope (top 59)) := ⟨by kernel_rfl, by kernel_rfl, by kernel_rfl, by decide +kernel, by kernel_rfl, by decide +kernel, by decide +kernel⟩
theorem bn__law_refuses (F : FnP K "_law_refuses" 59 fa fd) : L2.Binds K fd (N__law_refuses.take 4) [] := F.bindsN fun _ _ _ _ _ _ us hl => match us, hl with | [_, _, _, _], _ => rfl
theorem at__law_refuses (F : FnP K "_law_refuses" 59 fa fd) (m : mg "_law_refuses" = some (.ref fa)) : DefAt K mg tabk tb 60 42 "_law_refuses" 4 [1] ir__law_refuses (top 59) N__law_refuses fa fd := ⟨rfl, rfl, rfl, He5.fun_of F, sc__law_refuses, ck__law_refuses, m, F.kp, bn__law_refuses F⟩
theorem sc__law_listed : FnScope N__law_listed (N__law_listed.take 3) (defScope (top 60)) := ⟨by kernel_rfl, by kernel_rfl, by kernel_rfl, by decide +kernel, by kernel_rfl, by decide +kernel, by decide +kernel⟩
theorem bn__law_listed (F : FnP K "_law_listed" 60 fa fd) : L2.Binds K fd (N__law_listed.take 3) [] := F.bindsN fun _ _ _ _ _ _ us hl => match us, hl with | [_, _, _], _ => rfl
theorem at__law_listed (F : FnP K "_law_listed" 60 fa fd) (m : mg "_law_listed" = some (.ref fa)) : DefAt K mg tabk tb 60 43 "_law_listed" 3 [1] ir__law_listed (top 60) N__law_listed fa fd := ⟨rfl, rfl, rfl, He5.fun_of F, sc__law_listed, ck__law_listed, m, F.kp, bn__law_listed F⟩
theorem sc_law : FnScope N_law (N_law.take 1) (defScope (top 61)) := ⟨by kernel_rfl, by kernel_rfl, by kernel_rfl, by decide +kernel, by kernel_rfl, by decide +kernel, by decide +kernel⟩
theorem bn_law (F : FnP K "law" 61 fa fd) : L2.Binds K fd (N_law.take 1) [] := F.bindsN fun _ _ _ _ _ _ us hl => match us, hl with | [_], _ => rfl
theorem at_law (F : FnP K "law" 61 fa fd) (m : mg "law" = some (.ref fa)) : DefAt K mg tabk tb 60 44 "law" 1 [] ir_law (top 61) N_law fa fd := ⟨rfl, rfl, rfl, He5.fun_of F, sc_law, ck_law, m, F.kp, bn_law F⟩
end
end TA

set_option Elab.async false
set_option linter.all false
set_option maxRecDepth 100000
/-! TaMo: what is known of the module. -/
namespace TA
open PySem PySem.Spec PyProof.Rows L2
open PySem.W (Frag)
abbrev Pk : Program := PySem.Challenge.pw_triedagain_k80_whole_follows_by_all
abbrev Bk (K : Frag) : Tb := ⟨cak K, atk⟩
abbrev Sk (w : World) (K : Frag) : Prop := SaysY fak fnk tsk esk vsk exk w K
section
variable {w : World} {K : Frag} {h : Heap} {mg : Str → Option Value}
theorem d_is_row (X : K.In h) (G : h.Ns mainGlobals mg) (c : Sk w K) : ∃ d st N fa fd, DefAt K mg tabk tb 60 0 "is_row" 1 [] d st N fa fd := by
  obtain ⟨fd, F⟩ := c.t.d.def_ 0 (d := dD 2 "is_row") rfl
  exact ⟨_, _, _, _, fd, at_is_row F (He.glo_ok X G (c.t.d.fact 0 (f := .glo "is_row") rfl))⟩
theorem d_is_name (X : K.In h) (G : h.Ns mainGlobals mg) (c : Sk w K) : ∃ d st N fa fd, DefAt K mg tabk tb 60 1 "is_name" 1 [] d st N fa fd := by
  obtain ⟨fd, F⟩ := c.t.d.def_ 1 (d := dD 3 "is_name") rfl
  exact ⟨_, _, _, _, fd, at_is_name F (He.glo_ok X G (c.t.d.fact 1 (f := .glo "is_name") rfl))⟩
theorem d_frozen (X : K.In h) (G : h.Ns mainGlobals mg) (c : Sk w K) : ∃ d st N fa fd, DefAt K mg tabk tb 60 2 "frozen" 1 [] d st N fa fd := by
  obtain ⟨fd, F⟩ := c.t.d.def_ 2 (d := dD 4 "frozen") rfl
  exact ⟨_, _, _, _, fd, at_frozen F (He.glo_ok X G (c.t.d.fact 2 (f := .glo "frozen") rfl))⟩
theorem d_is_whole (X : K.In h) (G : h.Ns mainGlobals mg) (c : Sk w K) : ∃ d st N fa fd, DefAt K mg tabk tb 60 3 "is_whole" 1 [] d st N fa fd := by
  obtain ⟨fd, F⟩ := c.t.d.def_ 3 (d := dD 17 "is_whole") rfl
  exact ⟨_, _, _, _, fd, at_is_whole F (He.glo_ok X G (c.t.d.fact 3 (f := .glo "is_whole") rfl))⟩
theorem d_is_atom (X : K.In h) (G : h.Ns mainGlobals mg) (c : Sk w K) : ∃ d st N fa fd, DefAt K mg tabk tb 60 4 "is_atom" 1 [] d st N fa fd := by
  obtain ⟨fd, F⟩ := c.t.d.def_ 4 (d := dD 18 "is_atom") rfl
  exact ⟨_, _, _, _, fd, at_is_atom F (He.glo_ok X G (c.t.d.fact 4 (f := .glo "is_atom") rfl))⟩
theorem d_is_item (X : K.In h) (G : h.Ns mainGlobals mg) (c : Sk w K) : ∃ d st N fa fd, DefAt K mg tabk tb 60 5 "is_item" 2 [] d st N fa fd := by
  obtain ⟨fd, F⟩ := c.t.d.def_ 5 (d := dD 19 "is_item") rfl
  exact ⟨_, _, _, _, fd, at_is_item F (He.glo_ok X G (c.t.d.fact 5 (f := .glo "is_item") rfl))⟩
theorem d_items_fault (X : K.In h) (G : h.Ns mainGlobals mg) (c : Sk w K) : ∃ d st N fa fd, DefAt K mg tabk tb 60 6 "items_fault" 2 [] d st N fa fd := by
  obtain ⟨fd, F⟩ := c.t.d.def_ 6 (d := dD 20 "items_fault") rfl
  exact ⟨_, _, _, _, fd, at_items_fault F (He.glo_ok X G (c.t.d.fact 6 (f := .glo "items_fault") rfl))⟩
theorem d_test_fault (X : K.In h) (G : h.Ns mainGlobals mg) (c : Sk w K) : ∃ d st N fa fd, DefAt K mg tabk tb 60 7 "test_fault" 2 [] d st N fa fd := by
  obtain ⟨fd, F⟩ := c.t.d.def_ 7 (d := dD 21 "test_fault") rfl
  exact ⟨_, _, _, _, fd, at_test_fault F (He.glo_ok X G (c.t.d.fact 7 (f := .glo "test_fault") rfl))⟩
theorem d_behind (X : K.In h) (G : h.Ns mainGlobals mg) (c : Sk w K) : ∃ d st N fa fd, DefAt K mg tabk tb 60 8 "behind" 2 [] d st N fa fd := by
  obtain ⟨fd, F⟩ := c.t.d.def_ 8 (d := dD 22 "behind") rfl
  exact ⟨_, _, _, _, fd, at_behind F (He.glo_ok X G (c.t.d.fact 8 (f := .glo "behind") rfl))⟩
theorem d_each_fault (X : K.In h) (G : h.Ns mainGlobals mg) (c : Sk w K) : ∃ d st N fa fd, DefAt K mg tabk tb 60 9 "each_fault" 2 [] d st N fa fd := by
  obtain ⟨fd, F⟩ := c.t.d.def_ 9 (d := dD 23 "each_fault") rfl
  exact ⟨_, _, _, _, fd, at_each_fault F (He.glo_ok X G (c.t.d.fact 9 (f := .glo "each_fault") rfl))⟩
theorem d_last_fault (X : K.In h) (G : h.Ns mainGlobals mg) (c : Sk w K) : ∃ d st N fa fd, DefAt K mg tabk tb 60 10 "last_fault" 2 [] d st N fa fd := by
  obtain ⟨fd, F⟩ := c.t.d.def_ 10 (d := dD 24 "last_fault") rfl
  exact ⟨_, _, _, _, fd, at_last_fault F (He.glo_ok X G (c.t.d.fact 10 (f := .glo "last_fault") rfl))⟩
theorem d_part_fault (X : K.In h) (G : h.Ns mainGlobals mg) (c : Sk w K) : ∃ d st N fa fd, DefAt K mg tabk tb 60 11 "part_fault" 2 [] d st N fa fd := by
  obtain ⟨fd, F⟩ := c.t.d.def_ 11 (d := dD 25 "part_fault") rfl
  exact ⟨_, _, _, _, fd, at_part_fault F (He.glo_ok X G (c.t.d.fact 11 (f := .glo "part_fault") rfl))⟩
theorem d_surveyed (X : K.In h) (G : h.Ns mainGlobals mg) (c : Sk w K) : ∃ d st N fa fd, DefAt K mg tabk tb 60 12 "surveyed" 1 [] d st N fa fd := by
  obtain ⟨fd, F⟩ := c.t.d.def_ 12 (d := dD 26 "surveyed") rfl
  exact ⟨_, _, _, _, fd, at_surveyed F (He.glo_ok X G (c.t.d.fact 12 (f := .glo "surveyed") rfl))⟩
theorem d_depth_of (X : K.In h) (G : h.Ns mainGlobals mg) (c : Sk w K) : ∃ d st N fa fd, DefAt K mg tabk tb 60 13 "depth_of" 1 [] d st N fa fd := by
  obtain ⟨fd, F⟩ := c.t.d.def_ 13 (d := dD 27 "depth_of") rfl
  exact ⟨_, _, _, _, fd, at_depth_of F (He.glo_ok X G (c.t.d.fact 13 (f := .glo "depth_of") rfl))⟩
theorem d_within_bounds (X : K.In h) (G : h.Ns mainGlobals mg) (c : Sk w K) : ∃ d st N fa fd, DefAt K mg tabk tb 60 14 "within_bounds" 1 [] d st N fa fd := by
  obtain ⟨fd, F⟩ := c.t.d.def_ 14 (d := dD 28 "within_bounds") rfl
  exact ⟨_, _, _, _, fd, at_within_bounds F (He.glo_ok X G (c.t.d.fact 14 (f := .glo "within_bounds") rfl))⟩
theorem d_open_fault (X : K.In h) (G : h.Ns mainGlobals mg) (c : Sk w K) : ∃ d st N fa fd, DefAt K mg tabk tb 60 15 "open_fault" 1 [] d st N fa fd := by
  obtain ⟨fd, F⟩ := c.t.d.def_ 15 (d := dD 29 "open_fault") rfl
  exact ⟨_, _, _, _, fd, at_open_fault F (He.glo_ok X G (c.t.d.fact 15 (f := .glo "open_fault") rfl))⟩
theorem d_opened (X : K.In h) (G : h.Ns mainGlobals mg) (c : Sk w K) : ∃ d st N fa fd, DefAt K mg tabk tb 60 16 "opened" 1 [] d st N fa fd := by
  obtain ⟨fd, F⟩ := c.t.d.def_ 16 (d := dD 30 "opened") rfl
  exact ⟨_, _, _, _, fd, at_opened F (He.glo_ok X G (c.t.d.fact 16 (f := .glo "opened") rfl))⟩
theorem d_is_path (X : K.In h) (G : h.Ns mainGlobals mg) (c : Sk w K) : ∃ d st N fa fd, DefAt K mg tabk tb 60 17 "is_path" 1 [] d st N fa fd := by
  obtain ⟨fd, F⟩ := c.t.d.def_ 17 (d := dD 31 "is_path") rfl
  exact ⟨_, _, _, _, fd, at_is_path F (He.glo_ok X G (c.t.d.fact 17 (f := .glo "is_path") rfl))⟩
theorem d_found_part (X : K.In h) (G : h.Ns mainGlobals mg) (c : Sk w K) : ∃ d st N fa fd, DefAt K mg tabk tb 60 18 "found_part" 2 [] d st N fa fd := by
  obtain ⟨fd, F⟩ := c.t.d.def_ 18 (d := dD 32 "found_part") rfl
  exact ⟨_, _, _, _, fd, at_found_part F (He.glo_ok X G (c.t.d.fact 18 (f := .glo "found_part") rfl))⟩
theorem d_open_part (X : K.In h) (G : h.Ns mainGlobals mg) (c : Sk w K) : ∃ d st N fa fd, DefAt K mg tabk tb 60 19 "open_part" 2 [] d st N fa fd := by
  obtain ⟨fd, F⟩ := c.t.d.def_ 19 (d := dD 33 "open_part") rfl
  exact ⟨_, _, _, _, fd, at_open_part F (He.glo_ok X G (c.t.d.fact 19 (f := .glo "open_part") rfl))⟩
theorem d_classes (X : K.In h) (G : h.Ns mainGlobals mg) (c : Sk w K) : ∃ d st N fa fd, DefAt K mg tabk tb 60 20 "classes" 1 [] d st N fa fd := by
  obtain ⟨fd, F⟩ := c.t.d.def_ 20 (d := dD 35 "classes") rfl
  exact ⟨_, _, _, _, fd, at_classes F (He.glo_ok X G (c.t.d.fact 20 (f := .glo "classes") rfl))⟩
theorem d_written_classes (X : K.In h) (G : h.Ns mainGlobals mg) (c : Sk w K) : ∃ d st N fa fd, DefAt K mg tabk tb 60 21 "written_classes" 1 [] d st N fa fd := by
  obtain ⟨fd, F⟩ := c.t.d.def_ 21 (d := dD 36 "written_classes") rfl
  exact ⟨_, _, _, _, fd, at_written_classes F (He.glo_ok X G (c.t.d.fact 21 (f := .glo "written_classes") rfl))⟩
theorem d_test_follows (X : K.In h) (G : h.Ns mainGlobals mg) (c : Sk w K) : ∃ d st N fa fd, DefAt K mg tabk tb 60 22 "test_follows" 2 [] d st N fa fd := by
  obtain ⟨fd, F⟩ := c.t.d.def_ 22 (d := dD 37 "test_follows") rfl
  exact ⟨_, _, _, _, fd, at_test_follows F (He.glo_ok X G (c.t.d.fact 22 (f := .glo "test_follows") rfl))⟩
theorem d_checked_test (X : K.In h) (G : h.Ns mainGlobals mg) (c : Sk w K) : ∃ d st N fa fd, DefAt K mg tabk tb 60 23 "checked_test" 2 [] d st N fa fd := by
  obtain ⟨fd, F⟩ := c.t.d.def_ 23 (d := dD 38 "checked_test") rfl
  exact ⟨_, _, _, _, fd, at_checked_test F (He.glo_ok X G (c.t.d.fact 23 (f := .glo "checked_test") rfl))⟩
theorem d_follows (X : K.In h) (G : h.Ns mainGlobals mg) (c : Sk w K) : ∃ d st N fa fd, DefAt K mg tabk tb 60 24 "follows" 3 [] d st N fa fd := by
  obtain ⟨fd, F⟩ := c.t.d.def_ 24 (d := dD 40 "follows") rfl
  exact ⟨_, _, _, _, fd, at_follows F (He.glo_ok X G (c.t.d.fact 24 (f := .glo "follows") rfl))⟩
theorem d_names_of (X : K.In h) (G : h.Ns mainGlobals mg) (c : Sk w K) : ∃ d st N fa fd, DefAt K mg tabk tb 60 25 "names_of" 1 [] d st N fa fd := by
  obtain ⟨fd, F⟩ := c.t.d.def_ 25 (d := dD 41 "names_of") rfl
  exact ⟨_, _, _, _, fd, at_names_of F (He.glo_ok X G (c.t.d.fact 25 (f := .glo "names_of") rfl))⟩
theorem d__law_draw (X : K.In h) (G : h.Ns mainGlobals mg) (c : Sk w K) : ∃ d st N fa fd, DefAt K mg tabk tb 60 26 "_law_draw" 3 [1] d st N fa fd := by
  obtain ⟨fd, F⟩ := c.t.d.def_ 26 (d := dD 43 "_law_draw") rfl
  exact ⟨_, _, _, _, fd, at__law_draw F (He.glo_ok X G (c.t.d.fact 26 (f := .glo "_law_draw") rfl))⟩
theorem d__law_some (X : K.In h) (G : h.Ns mainGlobals mg) (c : Sk w K) : ∃ d st N fa fd, DefAt K mg tabk tb 60 27 "_law_some" 3 [1] d st N fa fd := by
  obtain ⟨fd, F⟩ := c.t.d.def_ 27 (d := dD 44 "_law_some") rfl
  exact ⟨_, _, _, _, fd, at__law_some F (He.glo_ok X G (c.t.d.fact 27 (f := .glo "_law_some") rfl))⟩
theorem d__law_item (X : K.In h) (G : h.Ns mainGlobals mg) (c : Sk w K) : ∃ d st N fa fd, DefAt K mg tabk tb 60 28 "_law_item" 4 [1] d st N fa fd := by
  obtain ⟨fd, F⟩ := c.t.d.def_ 28 (d := dD 45 "_law_item") rfl
  exact ⟨_, _, _, _, fd, at__law_item F (He.glo_ok X G (c.t.d.fact 28 (f := .glo "_law_item") rfl))⟩
theorem d__law_test (X : K.In h) (G : h.Ns mainGlobals mg) (c : Sk w K) : ∃ d st N fa fd, DefAt K mg tabk tb 60 29 "_law_test" 4 [1] d st N fa fd := by
  obtain ⟨fd, F⟩ := c.t.d.def_ 29 (d := dD 46 "_law_test") rfl
  exact ⟨_, _, _, _, fd, at__law_test F (He.glo_ok X G (c.t.d.fact 29 (f := .glo "_law_test") rfl))⟩
theorem d__law_leaf (X : K.In h) (G : h.Ns mainGlobals mg) (c : Sk w K) : ∃ d st N fa fd, DefAt K mg tabk tb 60 30 "_law_leaf" 4 [1] d st N fa fd := by
  obtain ⟨fd, F⟩ := c.t.d.def_ 30 (d := dD 47 "_law_leaf") rfl
  exact ⟨_, _, _, _, fd, at__law_leaf F (He.glo_ok X G (c.t.d.fact 30 (f := .glo "_law_leaf") rfl))⟩
theorem d__law_open (X : K.In h) (G : h.Ns mainGlobals mg) (c : Sk w K) : ∃ d st N fa fd, DefAt K mg tabk tb 60 31 "_law_open" 5 [1] d st N fa fd := by
  obtain ⟨fd, F⟩ := c.t.d.def_ 31 (d := dD 48 "_law_open") rfl
  exact ⟨_, _, _, _, fd, at__law_open F (He.glo_ok X G (c.t.d.fact 31 (f := .glo "_law_open") rfl))⟩
theorem d__law_atom (X : K.In h) (G : h.Ns mainGlobals mg) (c : Sk w K) : ∃ d st N fa fd, DefAt K mg tabk tb 60 32 "_law_atom" 2 [] d st N fa fd := by
  obtain ⟨fd, F⟩ := c.t.d.def_ 32 (d := dD 49 "_law_atom") rfl
  exact ⟨_, _, _, _, fd, at__law_atom F (He.glo_ok X G (c.t.d.fact 32 (f := .glo "_law_atom") rfl))⟩
theorem d__law_passes (X : K.In h) (G : h.Ns mainGlobals mg) (c : Sk w K) : ∃ d st N fa fd, DefAt K mg tabk tb 60 33 "_law_passes" 2 [] d st N fa fd := by
  obtain ⟨fd, F⟩ := c.t.d.def_ 33 (d := dD 50 "_law_passes") rfl
  exact ⟨_, _, _, _, fd, at__law_passes F (He.glo_ok X G (c.t.d.fact 33 (f := .glo "_law_passes") rfl))⟩
theorem d__law_says (X : K.In h) (G : h.Ns mainGlobals mg) (c : Sk w K) : ∃ d st N fa fd, DefAt K mg tabk tb 60 34 "_law_says" 2 [] d st N fa fd := by
  obtain ⟨fd, F⟩ := c.t.d.def_ 34 (d := dD 51 "_law_says") rfl
  exact ⟨_, _, _, _, fd, at__law_says F (He.glo_ok X G (c.t.d.fact 34 (f := .glo "_law_says") rfl))⟩
theorem d__law_parts (X : K.In h) (G : h.Ns mainGlobals mg) (c : Sk w K) : ∃ d st N fa fd, DefAt K mg tabk tb 60 35 "_law_parts" 4 [] d st N fa fd := by
  obtain ⟨fd, F⟩ := c.t.d.def_ 35 (d := dD 52 "_law_parts") rfl
  exact ⟨_, _, _, _, fd, at__law_parts F (He.glo_ok X G (c.t.d.fact 35 (f := .glo "_law_parts") rfl))⟩
theorem d__law_nest (X : K.In h) (G : h.Ns mainGlobals mg) (c : Sk w K) : ∃ d st N fa fd, DefAt K mg tabk tb 60 36 "_law_nest" 3 [1] d st N fa fd := by
  obtain ⟨fd, F⟩ := c.t.d.def_ 36 (d := dD 53 "_law_nest") rfl
  exact ⟨_, _, _, _, fd, at__law_nest F (He.glo_ok X G (c.t.d.fact 36 (f := .glo "_law_nest") rfl))⟩
theorem d__law_asked (X : K.In h) (G : h.Ns mainGlobals mg) (c : Sk w K) : ∃ d st N fa fd, DefAt K mg tabk tb 60 37 "_law_asked" 4 [1] d st N fa fd := by
  obtain ⟨fd, F⟩ := c.t.d.def_ 37 (d := dD 54 "_law_asked") rfl
  exact ⟨_, _, _, _, fd, at__law_asked F (He.glo_ok X G (c.t.d.fact 37 (f := .glo "_law_asked") rfl))⟩
theorem d__law_pool (X : K.In h) (G : h.Ns mainGlobals mg) (c : Sk w K) : ∃ d st N fa fd, DefAt K mg tabk tb 60 38 "_law_pool" 2 [] d st N fa fd := by
  obtain ⟨fd, F⟩ := c.t.d.def_ 38 (d := dD 55 "_law_pool") rfl
  exact ⟨_, _, _, _, fd, at__law_pool F (He.glo_ok X G (c.t.d.fact 38 (f := .glo "_law_pool") rfl))⟩
theorem d__law_always (X : K.In h) (G : h.Ns mainGlobals mg) (c : Sk w K) : ∃ d st N fa fd, DefAt K mg tabk tb 60 39 "_law_always" 3 [] d st N fa fd := by
  obtain ⟨fd, F⟩ := c.t.d.def_ 39 (d := dD 56 "_law_always") rfl
  exact ⟨_, _, _, _, fd, at__law_always F (He.glo_ok X G (c.t.d.fact 39 (f := .glo "_law_always") rfl))⟩
theorem d__law_refused (X : K.In h) (G : h.Ns mainGlobals mg) (c : Sk w K) : ∃ d st N fa fd, DefAt K mg tabk tb 60 40 "_law_refused" 3 [] d st N fa fd := by
  obtain ⟨fd, F⟩ := c.t.d.def_ 40 (d := dD 57 "_law_refused") rfl
  exact ⟨_, _, _, _, fd, at__law_refused F (He.glo_ok X G (c.t.d.fact 40 (f := .glo "_law_refused") rfl))⟩
theorem d__law_no_part (X : K.In h) (G : h.Ns mainGlobals mg) (c : Sk w K) : ∃ d st N fa fd, DefAt K mg tabk tb 60 41 "_law_no_part" 2 [] d st N fa fd := by
  obtain ⟨fd, F⟩ := c.t.d.def_ 41 (d := dD 58 "_law_no_part") rfl
  exact ⟨_, _, _, _, fd, at__law_no_part F (He.glo_ok X G (c.t.d.fact 41 (f := .glo "_law_no_part") rfl))⟩
theorem d__law_refuses (X : K.In h) (G : h.Ns mainGlobals mg) (c : Sk w K) : ∃ d st N fa fd, DefAt K mg tabk tb 60 42 "_law_refuses" 4 [1] d st N fa fd := by
  obtain ⟨fd, F⟩ := c.t.d.def_ 42 (d := dD 59 "_law_refuses") rfl
  exact ⟨_, _, _, _, fd, at__law_refuses F (He.glo_ok X G (c.t.d.fact 42 (f := .glo "_law_refuses") rfl))⟩
theorem d__law_listed (X : K.In h) (G : h.Ns mainGlobals mg) (c : Sk w K) : ∃ d st N fa fd, DefAt K mg tabk tb 60 43 "_law_listed" 3 [1] d st N fa fd := by
  obtain ⟨fd, F⟩ := c.t.d.def_ 43 (d := dD 60 "_law_listed") rfl
  exact ⟨_, _, _, _, fd, at__law_listed F (He.glo_ok X G (c.t.d.fact 43 (f := .glo "_law_listed") rfl))⟩
theorem d_law (X : K.In h) (G : h.Ns mainGlobals mg) (c : Sk w K) : ∃ d st N fa fd, DefAt K mg tabk tb 60 44 "law" 1 [] d st N fa fd := by
  obtain ⟨fd, F⟩ := c.t.d.def_ 44 (d := dD 61 "law") rfl
  exact ⟨_, _, _, _, fd, at_law F (He.glo_ok X G (c.t.d.fact 44 (f := .glo "law") rfl))⟩
theorem d_follows_kw (X : K.In h) (G : h.Ns mainGlobals mg) (c : Sk w K) : ∃ d st N fa fd, DefAt K mg tabk tb 60 24 "follows" 3 [] d st N fa fd ∧ KBinds K fd (N.take 3) ["test", "place", "expression"] (kwG [2, 1, 0]) (kwG [2, 1, 0]) := by
  obtain ⟨fd, F⟩ := c.t.d.def_ 24 (d := dD 40 "follows") rfl
  refine ⟨_, _, _, _, fd, at_follows F (He.glo_ok X G (c.t.d.fact 24 (f := .glo "follows") rfl)), ⟨fun s us ws _ hl => ?_, fun r rz => kwG_rel _ r rz⟩⟩
  obtain ⟨oc, od, dV, kV, doc, pm, an, cdv, ct, osl, rfl, lk, hcd, hD, hK⟩ := F.ex
  rcases hD with ⟨_, rfl⟩ | ⟨e, _⟩
  · match us, ws, hl with
    | [], [], hl => cases hl
    | [], [_], hl => cases hl
    | [], [_, _], hl => cases hl
    | [], a :: b :: z :: r, _ => exact .of_eq rfl
    | _ :: _, _, hl => cases hl
  · exact absurd rfl e
theorem sup_noat {file : Str} {x fld : Str} (h1 : supB file K x fld = true) : He.eqO (PySem.W.findIn K (.ref (He.ga K x)) fld) (some none) = true := by
  unfold supB at h1
  simp only [Bool.and_eq_true] at h1
  exact h1.2.1
theorem supA (c : Sk w K) : supB Pk.main.file K "NoPlace" "path" = true ∧ supB Pk.main.file K "NoOpen" "spot" = true ∧ supB Pk.main.file K "NoTest" "test" = true := by
  have h1 : exk K = true := c.more
  simp only [exk, exA, Bool.and_eq_true] at h1
  exact ⟨h1.1.1.1.1, h1.1.1.1.2, h1.1.1.2⟩
theorem e_NoPlace (X : K.In h) (G : h.Ns mainGlobals mg) (c : Sk w K) (base : Heap) : ErrK Pk w K mg base (Bk K) 1 "NoPlace" := by
  have h1 : exk K = true := c.more
  simp only [exk, exA, Bool.and_eq_true] at h1
  have h2 : fnS K ("NoPlace", some "__init__") = iniV 7 "NoPlace.__init__" := congrArg (fun l : List FnS => l.getD 0 none) c.fs
  exact errK_of (slf := "self") (par := "path") (qual := "NoPlace.__init__") (params := defArgs (iniOf (top 7))) (scope := defScope (iniOf (top 7))) X G h1.1.1.1.1 (h2.trans rfl) rfl (fun L fI cda cc => ⟨_, rfl⟩) (fun kV doc pm an cdv ct cc us hl => match us, hl with | [_, _], _ => rfl) (He.free_ok X G (c.t.d.fact 68 (f := .free "super") rfl)) (by kernel_rfl) (by kernel_rfl) (by kernel_rfl) (by kernel_rfl) (by kernel_rfl) (by kernel_rfl) (by kernel_rfl) (by kernel_rfl) (by decide +kernel) (by decide +kernel) ⟨by decide +kernel, by decide +kernel⟩ ⟨by decide +kernel, by decide +kernel⟩ rfl rfl
theorem e_NoOpen (X : K.In h) (G : h.Ns mainGlobals mg) (c : Sk w K) (base : Heap) : ErrK Pk w K mg base (Bk K) 2 "NoOpen" := by
  have h1 : exk K = true := c.more
  simp only [exk, exA, Bool.and_eq_true] at h1
  have h2 : fnS K ("NoOpen", some "__init__") = iniV 8 "NoOpen.__init__" := congrArg (fun l : List FnS => l.getD 1 none) c.fs
  exact errK_of (slf := "self") (par := "spot") (qual := "NoOpen.__init__") (params := defArgs (iniOf (top 8))) (scope := defScope (iniOf (top 8))) X G h1.1.1.1.2 (h2.trans rfl) rfl (fun L fI cda cc => ⟨_, rfl⟩) (fun kV doc pm an cdv ct cc us hl => match us, hl with | [_, _], _ => rfl) (He.free_ok X G (c.t.d.fact 68 (f := .free "super") rfl)) (by kernel_rfl) (by kernel_rfl) (by kernel_rfl) (by kernel_rfl) (by kernel_rfl) (by kernel_rfl) (by kernel_rfl) (by kernel_rfl) (by decide +kernel) (by decide +kernel) ⟨by decide +kernel, by decide +kernel⟩ ⟨by decide +kernel, by decide +kernel⟩ rfl rfl
theorem e_NoTest (X : K.In h) (G : h.Ns mainGlobals mg) (c : Sk w K) (base : Heap) : ErrK Pk w K mg base (Bk K) 3 "NoTest" := by
  have h1 : exk K = true := c.more
  simp only [exk, exA, Bool.and_eq_true] at h1
  have h2 : fnS K ("NoTest", some "__init__") = iniV 9 "NoTest.__init__" := congrArg (fun l : List FnS => l.getD 2 none) c.fs
  exact errK_of (slf := "self") (par := "test") (qual := "NoTest.__init__") (params := defArgs (iniOf (top 9))) (scope := defScope (iniOf (top 9))) X G h1.1.1.2 (h2.trans rfl) rfl (fun L fI cda cc => ⟨_, rfl⟩) (fun kV doc pm an cdv ct cc us hl => match us, hl with | [_, _], _ => rfl) (He.free_ok X G (c.t.d.fact 68 (f := .free "super") rfl)) (by kernel_rfl) (by kernel_rfl) (by kernel_rfl) (by kernel_rfl) (by kernel_rfl) (by kernel_rfl) (by kernel_rfl) (by kernel_rfl) (by decide +kernel) (by decide +kernel) ⟨by decide +kernel, by decide +kernel⟩ ⟨by decide +kernel, by decide +kernel⟩ rfl rfl
theorem mo_k (X : K.In h) (G : h.Ns mainGlobals mg) (c : Sk w K) (base : Heap) : Mo Pk w K mg base (Bk K) tabk tb 60 subT := by
  have hx : exk K = true := c.more
  simp only [exk, exB, exC, Bool.and_eq_true] at hx
  obtain ⟨⟨_, hB⟩, hC⟩ := hx
  obtain ⟨⟨⟨⟨⟨⟨⟨⟨⟨⟨⟨⟨⟨⟨b0, b1⟩, b2⟩, b3⟩, b4⟩, b5⟩, b6⟩, b7⟩, b8⟩, b9⟩, b10⟩, b11⟩, b12⟩, b13⟩, b14⟩ := hB
  obtain ⟨⟨t0, t1⟩, t2⟩ := hC
  refine ⟨fun f x np ios e => ?_, fun f x np ks perm e => ?_, fun g x d e => ?_, fun g x ks vs e => ?_, fun k x e => ?_, fun x hx => ?_, fun k x fld e => ?_⟩
  · have e : tFns _ = _ := e
    unfold tFns at e
    split at e
    · cases e
      exact d_is_row X G c
    · cases e
      exact d_is_name X G c
    · cases e
      exact d_frozen X G c
    · cases e
      exact d_is_whole X G c
    · cases e
      exact d_is_atom X G c
    · cases e
      exact d_is_item X G c
    · cases e
      exact d_items_fault X G c
    · cases e
      exact d_test_fault X G c
    · cases e
      exact d_behind X G c
    · cases e
      exact d_each_fault X G c
    · cases e
      exact d_last_fault X G c
    · cases e
      exact d_part_fault X G c
    · cases e
      exact d_surveyed X G c
    · cases e
      exact d_depth_of X G c
    · cases e
      exact d_within_bounds X G c
    · cases e
      exact d_open_fault X G c
    · cases e
      exact d_opened X G c
    · cases e
      exact d_is_path X G c
    · cases e
      exact d_found_part X G c
    · cases e
      exact d_open_part X G c
    · cases e
      exact d_classes X G c
    · cases e
      exact d_written_classes X G c
    · cases e
      exact d_test_follows X G c
    · cases e
      exact d_checked_test X G c
    · cases e
      exact d_follows X G c
    · cases e
      exact d_names_of X G c
    · cases e
      exact d__law_draw X G c
    · cases e
      exact d__law_some X G c
    · cases e
      exact d__law_item X G c
    · cases e
      exact d__law_test X G c
    · cases e
      exact d__law_leaf X G c
    · cases e
      exact d__law_open X G c
    · cases e
      exact d__law_atom X G c
    · cases e
      exact d__law_passes X G c
    · cases e
      exact d__law_says X G c
    · cases e
      exact d__law_parts X G c
    · cases e
      exact d__law_nest X G c
    · cases e
      exact d__law_asked X G c
    · cases e
      exact d__law_pool X G c
    · cases e
      exact d__law_always X G c
    · cases e
      exact d__law_refused X G c
    · cases e
      exact d__law_no_part X G c
    · cases e
      exact d__law_refuses X G c
    · cases e
      exact d__law_listed X G c
    · cases e
      exact d_law X G c
    · cases e
  · have e : tKws _ = _ := e
    unfold tKws at e
    split at e
    · cases e
      exact d_follows_kw X G c
    · cases e
  · have e : tGls _ = _ := e
    unfold tGls at e
    split at e
    · cases e
      exact ⟨.ref (He.ga K "WORDS"), _, He.glo_ok X G (c.t.d.fact 49 (f := .glo "WORDS") rfl), rfl, fun H Fz => tup_ok (zs := zs_WORDS) t0 (by decide) H Fz⟩
    · cases e
      obtain ⟨t, e⟩ := He.int_ok X G (c.t.d.fact 52 (f := .int "MOST_PARTS" 40) rfl)
      exact ⟨.int 40, _, e, ⟨t, rfl⟩, fun H Fz => .int _⟩
    · cases e
      obtain ⟨t, e⟩ := He.int_ok X G (c.t.d.fact 53 (f := .int "MOST_DEEP" 12) rfl)
      exact ⟨.int 12, _, e, ⟨t, rfl⟩, fun H Fz => .int _⟩
    · cases e
      obtain ⟨t, e⟩ := He.int_ok X G (c.t.d.fact 54 (f := .int "MOST_NAMES" 3) rfl)
      exact ⟨.int 3, _, e, ⟨t, rfl⟩, fun H Fz => .int _⟩
    · cases e
      obtain ⟨t, e⟩ := He.int_ok X G (c.t.d.fact 55 (f := .int "MOST_ITEMS" 3) rfl)
      exact ⟨.int 3, _, e, ⟨t, rfl⟩, fun H Fz => .int _⟩
    · cases e
  · have e : tGds _ = _ := e
    unfold tGds at e
    split at e
    · cases e
      exact ⟨_, dkB_ok (c.t.tab 0 (t := tsk.getD 0 (fun _ => 0, [])) rfl) rfl t1, He.glo_ok X G (c.t.d.fact 50 (f := .glo "LENGTHS") rfl)⟩
    · cases e
      exact ⟨_, dkB_ok (c.t.tab 1 (t := tsk.getD 1 (fun _ => 0, [])) rfl) rfl t2, He.glo_ok X G (c.t.d.fact 51 (f := .glo "OPPOSITES") rfl)⟩
    · cases e
  · have e : tErs _ = _ := e
    unfold tErs at e
    split at e
    · cases e
      exact e_NoPlace X G c base
    · cases e
      exact e_NoOpen X G c base
    · cases e
      exact e_NoTest X G c base
    · cases e
  · have hx : x ∈ tBlts := hx
    simp only [tBlts, List.mem_cons, List.not_mem_nil, or_false] at hx
    rcases hx with rfl | rfl | rfl | rfl | rfl | rfl | rfl | rfl | rfl | rfl | rfl | rfl
    · exact He.free_ok X G (c.t.d.fact 56 (f := .free "len") rfl)
    · exact He.free_ok X G (c.t.d.fact 57 (f := .free "isinstance") rfl)
    · exact He.free_ok X G (c.t.d.fact 58 (f := .free "int") rfl)
    · exact He.free_ok X G (c.t.d.fact 59 (f := .free "str") rfl)
    · exact He.free_ok X G (c.t.d.fact 60 (f := .free "bool") rfl)
    · exact He.free_ok X G (c.t.d.fact 61 (f := .free "list") rfl)
    · exact He.free_ok X G (c.t.d.fact 62 (f := .free "tuple") rfl)
    · exact He.free_ok X G (c.t.d.fact 63 (f := .free "dict") rfl)
    · exact He.free_ok X G (c.t.d.fact 64 (f := .free "ord") rfl)
    · exact He.free_ok X G (c.t.d.fact 65 (f := .free "max") rfl)
    · exact He.free_ok X G (c.t.d.fact 66 (f := .free "sorted") rfl)
    · exact He.free_ok X G (c.t.d.fact 67 (f := .free "range") rfl)
  · have e : tHds _ = _ := e
    unfold tHds at e
    split at e
    · cases e
      refine ⟨He.glo_ok X G (c.t.d.fact 46 (f := .glo "NoPlace") rfl), xfB_ok b0, He.eqO_ok (sup_noat (supA c).1), rfl, fun q hq => ?_, fun q => ?_⟩
      · simp [subT] at hq; exact hq
      · match q with
        | 0 => exact eqB_ok b3
        | 1 => exact eqB_ok b6
        | 2 => exact eqB_ok b9
        | 3 => exact eqB_ok b12
        | q + 4 =>
          have e1 : subT (q + 4) 1 = subT 0 1 := by simp [subT]
          rw [e1]; exact eqB_ok b3
    · cases e
      refine ⟨He.glo_ok X G (c.t.d.fact 47 (f := .glo "NoOpen") rfl), xfB_ok b1, He.eqO_ok (sup_noat (supA c).2.1), rfl, fun q hq => ?_, fun q => ?_⟩
      · simp [subT] at hq; exact hq
      · match q with
        | 0 => exact eqB_ok b4
        | 1 => exact eqB_ok b7
        | 2 => exact eqB_ok b10
        | 3 => exact eqB_ok b13
        | q + 4 =>
          have e1 : subT (q + 4) 2 = subT 0 2 := by simp [subT]
          rw [e1]; exact eqB_ok b4
    · cases e
      refine ⟨He.glo_ok X G (c.t.d.fact 48 (f := .glo "NoTest") rfl), xfB_ok b2, He.eqO_ok (sup_noat (supA c).2.2), rfl, fun q hq => ?_, fun q => ?_⟩
      · simp [subT] at hq; exact hq
      · match q with
        | 0 => exact eqB_ok b5
        | 1 => exact eqB_ok b8
        | 2 => exact eqB_ok b11
        | 3 => exact eqB_ok b14
        | q + 4 =>
          have e1 : subT (q + 4) 3 = subT 0 3 := by simp [subT]
          rw [e1]; exact eqB_ok b5
    · cases e
end
end TA

set_option Elab.async false
set_option linter.all false
set_option maxRecDepth 100000
set_option maxHeartbeats 0
/-! TaHead: the statement. -/
namespace TA
open PySem PySem.Spec PyProof.Rows L2
theorem run_s (n f : Nat) (d : FDef) (args : List W) (h : tb f = some d) : runN (n + 1) f args = evF (runN n) subT 1000 d args := by
  simp only [runN, h]
theorem fnok_cx {P : Program} {w : World} {K : PySem.W.Frag} {mg : Str → Option Value} {base : Heap} {CX CX' : CXT} {k : Nat} {f : Addr} {fd : FuncData} {ps : List Str} {sp : Sp} (F : FnOk P w K mg base CX k f fd ps sp) (h : ∀ outer H s E e s', CX outer H s E e s' → CX' outer H s E e s') : FnOk P w K mg base CX' k f fd ps sp :=
  ⟨F.len, fun A outer s H args us vs Q E a b c d e => codeAny_mono (F.run A outer s H args us vs Q E a b c d e) fun r s' hr => by
    cases r with
    | ok fl => cases fl <;> exact hr
    | error x => exact h _ _ _ _ _ _ hr⟩
def CXk : CXT := fun outer H s E e s' => ∃ w, L2.CX Pk w outer H s E e s'
theorem law_facts {w : World} {h : Heap} {mg : Str → Option Value} {fa : Addr} (Y : hk.says w h) (G : h.Ns mainGlobals mg) (hfa : mg ("law" : Str) = some (.ref fa)) :
    ∃ (K : PySem.W.Frag) (fd : FuncData) (sp : Sp), K.In h ∧ (∀ (s : Shared) (u : Value), BindsTo s fd ⟨[u], []⟩ [("script", u)]) ∧
      (∀ (H : Hp) (a : Addr) (ns : List Int), ns.length ≤ 63 → Only H → SqL K H a (ns.map V.int) → sp [.ref a] H (fun v _ => v = .bl true) fun _ _ _ => False) ∧
      ∀ base : Heap, K.In base → base.Ns mainGlobals mg → FnOk Pk w K mg base CXk 43 fa fd ["script"] sp := by
  obtain ⟨K, KX, c⟩ := Y
  obtain ⟨fd, F⟩ := c.t.d.def_ 44 (d := dD 61 "law") rfl
  have m : mg ("law" : Str) = some (.ref (He.ga K "law")) := He.glo_ok KX G (c.t.d.fact 44 (f := .glo "law") rfl)
  have e := hfa.symm.trans m
  cases e
  have D := at_law F m
  refine ⟨K, fd, spF (Bk K) K 1 [] (runN 41 44), KX, fun s u => FunD.bindsA (ps := ["script"]) F (fun _ _ _ _ _ _ us hl => match us, hl with | [_], _ => rfl) s [u] rfl, fun H a ns _ _ hS => ?_, fun base _ _ => ?_⟩
  · exact law_sp (run := runN) (n := 41) (f := 44) (run_law ns 0) hS
  · exact fnok_cx (all_ok (mo_k KX G c base) (fun _ _ => rfl) run_s 41 D) fun outer H s E e s' z => ⟨w, z⟩
end TA
open PySem PySem.W PySem.Calls PyProof.Rows
theorem PySem.Challenge.cw_triedagain_k80_whole_follows_by_all_holds : PySem.Challenge.rw_triedagain_k80_whole_follows_by_all.Holds := by
  w_on; o_law
  refine HandSHeadRun.head_any (r := TA.Rk) (q := view TA.Rk.prog [61]) (H := TA.hk) (ob := TA.obk) (M := 20000) (loose := TA.namesk) (d := HandSHeadRun.topDef TA.Rk.prog 61) (kwd := []) TA.obk_eq
    (by kernel_rfl) (fun s => by kernel_rfl) TA.run_k (by kernel_rfl) (by kernel_rfl) (by kernel_rfl) (by rfl) (by first | assumption | decide +kernel) (by decide +kernel) ⟨rfl, rfl, rfl, rfl, rfl, by decide +kernel⟩ ?hw ?hc
  case hw => w_witness2
  case hc =>
    refine L2.walk_ofE (l := PySem.Challenge.rw_triedagain_k80_whole_follows_by_all) (n := 63) (k := 43) (x := "script") (CX := TA.CXk) rfl (by decide) (by kernel_rfl) ⟨rfl, by decide, by decide⟩ ?F ?E
    case E =>
      rintro H s e s' ⟨w, _, _, _, _, _, _, _, _, _, _, _, _, z⟩
      exact z
    case F =>
      intro w mg fa h Y G hmg0
      have hmg : mg ("law" : PySem.Str) = some (.ref fa) := by
        have e : (HandSHeadRun.topDef TA.Rk.prog 61).name = ("law" : PySem.Str) := by kernel_rfl
        rw [← e]
        exact hmg0
      exact TA.law_facts Y G hmg
