import PyProof.Rows.All
import Wide.All
import OpenK.AllK
import Wide.FinOn
import HandS.ForMost
import HandS.ForExc
import HandS.TupMul
import HandS.Codes
import HandS.StrMore
import HandS.Wide
import HandS.Style
import HandS.TupAny
import HandS.IsInst
import HandS.IntHex
import PyProof.ListStr
import PyProof.TupleOfGen
import HandS.Zip
import KE.GoesEnum
import HandS.Flow
import HandS.Conv
import PySem.Challenge.RW_layersheld_k16_whole_fewest_edits_of_all
set_option Elab.async false
set_option linter.all false
set_option maxRecDepth 100000
/-! Mp, the small Python of this claim: data, its own syntax, the evaluator. No program in sight. -/
namespace Mp
open PySem

/-- plain data: texts by their codes; lists as values; dicts by keys and values -/
inductive D where
  | non | bl (b : Bool) | int (i : Int) | str (s : List Nat) | tup (xs : List D) | lst (xs : List D) | dct (ks vs : List D) | set (xs : List D)
  | scr (ns : List Int)
  deriving Inhabited

inductive Bi where
  | len | abs | int | str | min | max | sum | all | any | list | tuple | sorted | chr | ord | bool | set | dict
  deriving DecidableEq
inductive Ty where
  | int | bool | str | tuple | list | dict
  deriving DecidableEq
inductive Me where
  | index | get | join | startswith | isdigit | count | items | keys | values | copy
  deriving DecidableEq
/-- the shapes of operations on values -/
inductive Sh where
  | bin (op : Operator) | cmp (op : CmpOp) | chain (o p : CmpOp) | un (op : UnaryOp) | idx | slc (lo hi : Bool) | rev | tup | lst
  | call (b : Bi) | isi (t : Ty) | meth (m : Me) | rngL | rngT
  deriving DecidableEq
inductive ItK where
  | seq | range | zip | enum | rev | items
  deriving DecidableEq
/-- a target: a slot, a tuple of targets -/
inductive Tg where
  | name (i : Nat) | tup (ts : List Tg)
inductive Mu where
  | append | pop | extend
  deriving DecidableEq

inductive E where
  | var (i : Nat) | peek (i : Nat) | con (d : D) | glob (x : Str) (d : D)
  | prim (s : Sh) (es : List E)
  | call (f : Nat) (es : List E)
  | ife (c a b : E)
  | bop (k : Bool) (es : List E)
  | neg (e : E)
  | comp (own : List Nat) (tg : Tg) (k : ItK) (src : List E) (cnd : List E) (elt : E)
  | mu (m : Mu) (i : Nat) (es : List E)
inductive S where
  | set (t : Tg) (e : E) | own (i : Nat) (e : E) | par (is : List Nat) (es : List E) | parO (fs : List Bool) (is : List Nat) (es : List E) | aug (i : Nat) (op : Operator) (e : E)
  | store (i : Nat) (ix e : E)
  | expr (e : E) | ret (e : Option E) | retF (e : E) | ifs (c : E) (a b : List S) | for (t : Tg) (k : ItK) (src : List E) (body : List S) | while (c : E) (body : List S)
  | raise (x : Nat) | pass | brk | cnt | frz (i : Nat)

inductive Sl where
  | none | val (d : D) | own (d : D) | io (d : D)
  deriving Inhabited
abbrev Env := List Sl
inductive R (α : Type) where
  | ok (a : α) (env : Env) | exn (x : Nat) (env : Env) | stuck
def R.bind {α β : Type} (r : R α) (f : α → Env → R β) : R β := match r with
  | .ok a e => f a e
  | .exn x e => .exn x e
  | .stuck => .stuck
@[simp] theorem R.bind_ok {α β : Type} (a : α) (e : Env) (f : α → Env → R β) : (R.ok a e).bind f = f a e := rfl
@[simp] theorem R.bind_exn {α β : Type} (x : Nat) (e : Env) (f : α → Env → R β) : (R.exn x e : R α).bind f = .exn x e := rfl
@[simp] theorem R.bind_stuck {α β : Type} (f : α → Env → R β) : (R.stuck : R α).bind f = .stuck := rfl
/-- an argument: a value, or a slot that is looked at in place -/
inductive AV where
  | val (d : D) | slot (i : Nat)
inductive CR where
  | ok (d : D) (outs : List D) | exn (x : Nat) (outs : List D) | stuck
abbrev CallF := Nat → List Sl → CR

def line : Nat := 16777216
/-! ### operations on values -/
def lenOk (n : Nat) (d : D) : Option D := if n ≤ 16777216 then some d else none
def mulOk (i j : Int) : Bool := decide (i.natAbs.log2 + j.natAbs.log2 < 1000000) || decide (i.natAbs < 18446744073709551616) || decide (j.natAbs < 18446744073709551616)
def divOk (j : Int) : Bool := decide (0 < j) && (decide (j < 1073741824) || decide (j.natAbs.log2 < 9000))
mutual
def toPD : D → PyData
  | .non => .none
  | .bl b => .bool b
  | .int i => .int i
  | .str s => .str ⟨s.toArray⟩
  | .tup xs => .tuple (toPDs xs)
  | .lst xs => .list (toPDs xs)
  | .dct _ _ => .dict []
  | .set _ => .dict []
  | .scr ns => .list (ns.map .int)
def toPDs : List D → List PyData
  | [] => []
  | x :: xs => toPD x :: toPDs xs
end
def binEv (op : Operator) (a b : D) : Option D := match op, a, b with
  | .Add, .int i, .int j => some (.int (i + j))
  | .Add, .str x, .str y => lenOk (x.length + y.length) (.str (x ++ y))
  | .Add, .tup x, .tup y => lenOk (x.length + y.length) (.tup (x ++ y))
  | .Add, .lst x, .lst y => lenOk (x.length + y.length) (.lst (x ++ y))
  | .Sub, .int i, .int j => some (.int (i - j))
  | .Mult, .int i, .int j => if mulOk i j then some (.int (i * j)) else none
  | .Mult, .str x, .int k => if x.length ≤ 4000 ∧ 1 ≤ k ∧ k ≤ 4000 then some (.str (List.replicate k.toNat x).flatten) else none
  | .Mult, .tup x, .int k => if x.length ≤ 1000 ∧ 0 ≤ k ∧ k ≤ 1000 then some (.tup (List.replicate k.toNat x).flatten) else none
  | .Mult, .lst x, .int k => if x.length ≤ 4000 ∧ 0 ≤ k ∧ k ≤ 4000 then some (.lst (List.replicate k.toNat x).flatten) else none
  | .FloorDiv, .int i, .int j => if divOk j then some (.int (i / j)) else none
  | .Mod, .int i, .int j => if 0 < j then some (.int (i % j)) else none
  | .Pow, .int i, .int j => if 0 ≤ j ∧ j ≤ 1000 ∧ i.natAbs < 18446744073709551616 then some (.int (i ^ j.toNat)) else none
  | _, _, _ => none
def augEv (op : Operator) (a b : D) : Option D := match op, a, b with
  | .Add, .int i, .int j => some (.int (i + j))
  | .Add, .str x, .str y => lenOk (x.length + y.length) (.str (x ++ y))
  | .Sub, .int i, .int j => some (.int (i - j))
  | .Mod, .int i, .int j => if 0 < j then some (.int (i % j)) else none
  | _, _, _ => none
def ixN (n : Nat) (i : Int) : Option Nat := if 0 ≤ i then (if i < n then some i.toNat else none) else if -(n : Int) ≤ i then some (i + n).toNat else none
def getIx {α : Type} (xs : List α) (i : Int) : Option α := (ixN xs.length i).bind fun j => xs[j]?
def cut {α : Type} (xs : List α) (lo hi : Option Int) : List α := (xs.drop (HT.sIx xs.length 0 lo)).take (HT.sIx xs.length xs.length hi - HT.sIx xs.length 0 lo)
def flat : D → Bool
  | .int _ | .str _ | .bl _ | .non => true
  | _ => false
def eqv (a b : D) : Bool := PyData.eqv (toPD a) (toPD b)
def shaped (a : D) : Bool := SeqAt.shaped (toPD a)
def memEv (x y : D) : Option Bool := match x, y with
  | .str [c], .str s => some (decide (c ∈ s))
  | x, .tup ys => if flat x && ys.all flat then some (ys.any fun y => eqv y x) else none
  | x, .lst ys => if flat x && ys.all flat then some (ys.any fun y => eqv y x) else none
  | _, _ => none
def isEv (a b : D) : Option Bool := match a, b with
  | a, .non => some (match a with | .non => true | _ => false)
  | .bl a, .bl b => some (decide (a = b))
  | _, _ => none
def ltEv (a b : D) : Option Bool := match a, b with
  | .int i, .int j => some (decide (i < j))
  | .str x, .str y => some (decide (x < y))
  | _, _ => none
def leEv (a b : D) : Option Bool := match a, b with
  | .int i, .int j => some (decide (i ≤ j))
  | _, _ => none
def eqEv (a b : D) : Option Bool := if shaped a && shaped b then some (eqv a b) else none
def cmpEv (op : CmpOp) (a b : D) : Option Bool := match op with
  | .Eq => eqEv a b
  | .NotEq => (eqEv a b).map (!·)
  | .Lt => ltEv a b
  | .LtE => leEv a b
  | .Gt => ltEv b a
  | .GtE => leEv b a
  | .Is => isEv a b
  | .IsNot => (isEv a b).map (!·)
  | .In => memEv a b
  | .NotIn => (memEv a b).map (!·)
def intsOf : List D → Option (List Int)
  | [] => some []
  | .int i :: r => (intsOf r).map (i :: ·)
  | _ :: _ => none
def boolsOf : List D → Option (List Bool)
  | [] => some []
  | .bl i :: r => (boolsOf r).map (i :: ·)
  | _ :: _ => none
def truth : D → Option Bool
  | .non => some false
  | .bl b => some b
  | .int i => some (i != 0)
  | .str s => if s.length ≤ 16777216 then some (s.length != 0) else none
  | .tup xs => some (!xs.isEmpty)
  | .lst xs => some (!xs.isEmpty)
  | _ => none
def isHex (c : Nat) : Bool := (decide (48 ≤ c) && decide (c ≤ 57)) || (decide (97 ≤ c) && decide (c ≤ 102)) || (decide (65 ≤ c) && decide (c ≤ 70))
def hexV (c : Nat) : Nat := if c ≤ 57 then c - 48 else if 97 ≤ c then c - 87 else c - 55
def hexNum (l : List Nat) : Nat := l.foldl (fun a c => a * 16 + hexV c) 0
def lenEv : List D → Option D
  | [.tup xs] => some (.int xs.length)
  | [.lst xs] => some (.int xs.length)
  | [.str s] => if s.length ≤ 16777216 then some (.int s.length) else none
  | _ => none
def intEv : List D → Option D
  | [.int i] => some (.int i)
  | [.bl k] => some (.int (if k then 1 else 0))
  | [.str s, .int b] => if b = 16 ∧ s ≠ [] ∧ s.length ≤ 640 ∧ s.all isHex = true then some (.int (hexNum s : Nat)) else none
  | _ => none
def leastI : Int → List Int → Int
  | m, [] => m
  | m, i :: r => leastI (if i < m then i else m) r
def greatI : Int → List Int → Int
  | m, [] => m
  | m, i :: r => greatI (if i > m then i else m) r
def minEv : List D → Option D
  | [.int i, .int j] => some (.int (if j < i then j else i))
  | [.lst (.int i :: xs)] => (intsOf xs).map fun ns => .int (leastI i ns)
  | _ => none
def maxEv : List D → Option D
  | [.int i, .int j] => some (.int (if j > i then j else i))
  | [.lst (.int i :: xs)] => (intsOf xs).map fun ns => .int (greatI i ns)
  | _ => none
def absEv : List D → Option D
  | [.int i] => some (.int (if i < 0 then -i else i))
  | _ => none
def sumEv : List D → Option D
  | [.lst xs] => (intsOf xs).map fun ns => .int ns.sum
  | _ => none
def allEv : List D → Option D
  | [.lst xs] => (boolsOf xs).map fun bs => .bl (bs.all id)
  | _ => none
def anyEv : List D → Option D
  | [.lst xs] => (boolsOf xs).map fun bs => .bl (bs.any id)
  | _ => none
def listEv : List D → Option D
  | [.lst xs] => some (.lst xs)
  | [.tup xs] => some (.lst xs)
  | [.scr ns] => some (.lst (ns.map .int))
  | [.str s] => if s.length ≤ 16777216 then some (.lst (s.map fun c => .str [c])) else none
  | _ => none
def tupleEv : List D → Option D
  | [.lst xs] => some (.tup xs)
  | [.tup xs] => some (.tup xs)
  | [.str s] => if s.length ≤ 16777216 then some (.tup (s.map fun c => .str [c])) else none
  | _ => none
def chrEv : List D → Option D
  | [.int i] => if 0 ≤ i ∧ i ≤ 1114111 then some (.str [i.toNat]) else none
  | _ => none
def ordEv : List D → Option D
  | [.str [c]] => some (.int c)
  | _ => none
def callEv (b : Bi) (ds : List D) : Option D := match b with
  | .len => lenEv ds
  | .abs => absEv ds
  | .int => intEv ds
  | .min => minEv ds
  | .max => maxEv ds
  | .sum => sumEv ds
  | .all => allEv ds
  | .any => anyEv ds
  | .list => listEv ds
  | .tuple => tupleEv ds
  | .chr => chrEv ds
  | .ord => ordEv ds
  | _ => none
def isiEv (t : Ty) (d : D) : Option Bool := match d with
  | .non => some false
  | .bl _ => some (t == .bool || t == .int)
  | .int _ => some (t == .int)
  | .str _ => some (t == .str)
  | .tup _ => some (t == .tuple)
  | .lst _ => some (t == .list)
  | _ => none
def idxOf (c : Nat) : List Nat → Option Nat
  | [] => none
  | x :: r => if x = c then some 0 else (idxOf c r).map (· + 1)
def methEv (m : Me) (ds : List D) : Option D := match m, ds with
  | .index, [.str s, .str [c]] => (idxOf c s).map fun (k : Nat) => .int (k : Int)
  | _, _ => none
def rangeL (lo : Int) (n : Nat) : List D := (List.range n).map fun (i : Nat) => .int (lo + (i : Int))
def downL (hi : Int) (n : Nat) : List D := (List.range n).map fun (i : Nat) => .int (hi + (i : Int) * -1)
def small62 (i : Int) : Bool := decide (-4611686018427387904 ≤ i) && decide (i < 4611686018427387904)
/-- a range as a list: of two bounds, not too long -/
def rngEv : List D → Option (List D)
  | [.int j] => if small62 j && decide (j.toNat ≤ 16777216) then some (rangeL 0 j.toNat) else none
  | [.int i, .int j] => if small62 i && small62 j && decide ((j - i).toNat ≤ 16777216) then some (rangeL i (j - i).toNat) else none
  | _ => none
def slcEv (d : D) (lo hi : Option Int) : Option D := match d with
  | .tup xs => some (.tup (cut xs lo hi))
  | .lst xs => some (.lst (cut xs lo hi))
  | .str s => if s.length ≤ 16777216 then some (.str (cut s lo hi)) else none
  | _ => none
def pev (s : Sh) (ds : List D) : Option D := match s, ds with
  | .bin op, [a, b] => binEv op a b
  | .cmp op, [a, b] => (cmpEv op a b).map .bl
  | .chain o p, [a, b, c] => (cmpEv o a b).bind fun k => if k then (cmpEv p b c).map .bl else some (.bl false)
  | .un .USub, [.int i] => some (.int (-i))
  | .idx, [.tup xs, .int i] => getIx xs i
  | .idx, [.lst xs, .int i] => getIx xs i
  | .idx, [.str s, .int i] => if s.length ≤ 16777216 then (getIx s i).map fun c => .str [c] else none
  | .slc false false, [d] => slcEv d none none
  | .slc true false, [d, .int i] => slcEv d (some i) none
  | .slc false true, [d, .int j] => slcEv d none (some j)
  | .slc true true, [d, .int i, .int j] => slcEv d (some i) (some j)
  | .rev, [.tup xs] => some (.tup xs.reverse)
  | .rev, [.lst xs] => some (.lst xs.reverse)
  | .tup, ds => lenOk ds.length (.tup ds)
  | .lst, ds => lenOk ds.length (.lst ds)
  | .call b, ds => callEv b ds
  | .isi t, [d] => (isiEv t d).map .bl
  | .meth m, ds => methEv m ds
  | .rngL, ds => (rngEv ds).map .lst
  | .rngT, ds => (rngEv ds).map .tup
  | _, _ => none
/-! ### what a loop walks -/
def seqOf : D → Option (List D)
  | .tup xs => some xs
  | .lst xs => some xs
  | .str s => some (s.map fun c => .str [c])
  | _ => none
def enumL : Nat → List D → List D
  | _, [] => []
  | n, x :: r => .tup [.int n, x] :: enumL (n + 1) r
def rangeEv : List D → Option (List D)
  | [.int j] => if small62 j then some (rangeL 0 j.toNat) else none
  | [.int i, .int j] => if small62 i && small62 j then some (rangeL i (j - i).toNat) else none
  | [.int i, .int j, .int c] => if small62 i && small62 j && decide (c = -1) then some (downL i (i - j).toNat) else none
  | _ => none
def zipEv : List D → Option (List D)
  | [.tup xs, .tup ys] => some ((xs.zip ys).map fun p => .tup [p.1, p.2])
  | [.lst xs, .lst ys] => some ((xs.zip ys).map fun p => .tup [p.1, p.2])
  | _ => none
def enumEv : List D → Option (List D)
  | [.lst xs] => some (enumL 0 xs)
  | [.tup xs] => some (enumL 0 xs)
  | _ => none
def oneEv : List D → Option (List D)
  | [d] => seqOf d
  | _ => none
def itEv (k : ItK) (ds : List D) : Option (List D) := match k with
  | .seq => oneEv ds
  | .range => rangeEv ds
  | .zip => zipEv ds
  | .enum => enumEv ds
  | _ => none
/-! ### slots -/
def rd (env : Env) : AV → Option D
  | .val d => some d
  | .slot i => match env[i]? with
    | some (.val d) => some d
    | some (.own d) => some d
    | some (.io d) => some d
    | _ => none
def rds (env : Env) : List AV → Option (List D)
  | [] => some []
  | a :: r => match rd env a with
    | some d => (rds env r).map (d :: ·)
    | none => none
/-- what a call hands over: a slot of ours as an in-out one -/
def hand (env : Env) : List AV → Option (List Sl)
  | [] => some []
  | .val d :: r => (hand env r).map (.val d :: ·)
  | .slot i :: r => match env[i]? with
    | some (.val d) => (hand env r).map (.val d :: ·)
    | some (.own d) => (hand env r).map (.io d :: ·)
    | some (.io d) => (hand env r).map (.io d :: ·)
    | _ => none
/-- the slots that are handed as in-out ones -/
def ioOf (env : Env) : List AV → List Nat
  | [] => []
  | .val _ :: r => ioOf env r
  | .slot i :: r => match env[i]? with
    | some (.own _) => i :: ioOf env r
    | some (.io _) => i :: ioOf env r
    | _ => ioOf env r
def reset (d : D) : Sl → Sl
  | .own _ => .own d
  | .io _ => .io d
  | s => s
def back (env : Env) : List Nat → List D → Option Env
  | [], [] => some env
  | i :: is, d :: ds => match env[i]? with
    | some s => back (env.set i (reset d s)) is ds
    | none => none
  | _, _ => none
def nodupB : List Nat → Bool
  | [] => true
  | x :: r => !r.contains x && nodupB r
def isMut : Sl → Bool
  | .own _ | .io _ => true
  | _ => false
def okMut (env : Env) (i : Nat) : Bool := match env[i]? with
  | some (.own (.lst _)) => true
  | some (.io (.lst _)) => true
  | _ => false
/-- a plain value is put into a slot (no in-out one) -/
def put (env : Env) (i : Nat) (s : Sl) : Option Env := match env[i]? with
  | some (.io _) => none
  | some _ => some (env.set i s)
  | none => none
mutual
def asg (env : Env) : Tg → D → Option Env
  | .name i, d => put env i (.val d)
  | .tup ts, .tup ds => asgs env ts ds
  | _, _ => none
def asgs (env : Env) : List Tg → List D → Option Env
  | [], [] => some env
  | t :: ts, d :: ds => match asg env t d with
    | some e => asgs e ts ds
    | none => none
  | _, _ => none
end
def wipe (env : Env) : List Nat → Env
  | [] => env
  | v :: vs => (wipe env vs).set v .none
def kd : Sl → Nat
  | .own _ => 1
  | .io _ => 2
  | _ => 0
abbrev kinds (env : Env) : List Nat := env.map kd
/-- the block's own slots hold no list of ours -/
def plainAt (env : Env) (own : List Nat) : Bool := own.all fun i => match env[i]? with | some s => kd s == 0 | none => false
mutual
def tgIn (own : List Nat) : Tg → Bool
  | .name i => own.contains i
  | .tup ts => tgsIn own ts
def tgsIn (own : List Nat) : List Tg → Bool
  | [] => true
  | t :: ts => tgIn own t && tgsIn own ts
end
/-- the own slots of a block as they were -/
def unwipe (old env : Env) : List Nat → Env
  | [] => env
  | v :: vs => match old[v]? with
    | some s => (unwipe old env vs).set v s
    | none => unwipe old env vs
def muEv (m : Mu) (c : D) (ds : List D) : Option (D × D) := match m, c, ds with
  | .append, .lst xs, [d] => if xs.length < 16777216 then some (.non, .lst (xs ++ [d])) else none
  | .pop, .lst xs, [] => (xs[xs.length - 1]?).map fun y => (y, .lst xs.dropLast)
  | .pop, .lst xs, [.int i] => if small62 i then (ixN xs.length i).bind fun k => (xs[k]?).map fun y => (y, .lst (xs.eraseIdx k)) else none
  | .extend, .lst xs, [.lst ys] => if xs.length + ys.length ≤ 16777216 then some (.non, .lst (xs ++ ys)) else none
  | _, _, _ => none
def storeEv (c ix d : D) : Option D := match c, ix with
  | .lst xs, .int i => (ixN xs.length i).map fun k => .lst (xs.set k d)
  | _, _ => none
def compGo (step : D → Env → R (Option D)) : List D → List D → Env → R (List D)
  | [], acc, env => .ok acc env
  | d :: ds, acc, env => (step d env).bind fun o env1 => match o with
    | some y => if acc.length < 16777216 then compGo step ds (acc ++ [y]) env1 else .stuck
    | none => compGo step ds acc env1
def noExn {α : Type} : R α → R α
  | .exn _ _ => .stuck
  | r => r
def ofOpt {α : Type} (o : Option α) (env : Env) : R α := match o with
  | some a => .ok a env
  | none => .stuck
mutual
def evE (cf : CallF) : E → Env → R D
  | .var i, env => match env[i]? with
    | some (.val d) => .ok d env
    | _ => .stuck
  | .peek _, _ => .stuck
  | .con d, env => .ok d env
  | .glob _ d, env => .ok d env
  | .prim s es, env => (evA cf es env).bind fun avs env1 => match rds env1 avs with
    | some ds => ofOpt (pev s ds) env1
    | none => .stuck
  | .call f es, env => (evA cf es env).bind fun avs env1 => match hand env1 avs with
    | some sls => if nodupB (ioOf env1 avs) then match cf f sls with
      | .ok d outs => (match back env1 (ioOf env1 avs) outs with | some env2 => .ok d env2 | none => .stuck)
      | .exn x outs => (match back env1 (ioOf env1 avs) outs with | some env2 => .exn x env2 | none => .stuck)
      | .stuck => .stuck
      else .stuck
    | none => .stuck
  | .ife c a b, env => (evE cf c env).bind fun d env1 => match truth d with
    | some true => evE cf a env1
    | some false => evE cf b env1
    | none => .stuck
  | .bop k es, env => evL cf k es env
  | .neg e, env => (evE cf e env).bind fun d env1 => match truth d with
    | some b => .ok (.bl (!b)) env1
    | none => .stuck
  | .comp own tg k src cnd elt, env => (evA cf src env).bind fun avs env1 => match rds env1 avs with
    | some ds => match (plainAt env1 own && tgIn own tg), itEv k ds with
      | true, some items => (noExn (compGo (fun d e => match asg (wipe e own) tg d with
          | some e1 => (evC cf cnd e1).bind fun b e2 => if b then (evE cf elt e2).bind fun y e3 => .ok (some y) e3 else .ok none e2
          | none => .stuck) items [] env1)).bind fun ys env2 => .ok (.lst ys) (unwipe env1 env2 own)
      | _, _ => .stuck
    | none => .stuck
  | .mu m i es, env => if okMut env i then (evA cf es env).bind fun avs env1 => match rds env1 avs with
    | some ds => match env1[i]? with
      | some s => (match isMut s, rd env1 (.slot i) with
        | true, some c => (match muEv m c ds with
          | some (r, c') => .ok r (env1.set i (reset c' s))
          | none => .stuck)
        | _, _ => .stuck)
      | none => .stuck
    | none => .stuck
    else .stuck
def evA (cf : CallF) : List E → Env → R (List AV)
  | [], env => .ok [] env
  | e :: es, env => match e with
    | .peek i => (match rd env (.slot i) with
      | some _ => (evA cf es env).bind fun avs env1 => .ok (.slot i :: avs) env1
      | none => .stuck)
    | e => (evE cf e env).bind fun d env1 => (evA cf es env1).bind fun avs env2 => .ok (.val d :: avs) env2
/-- and, or: the first that decides, or the last -/
def evL (cf : CallF) (k : Bool) : List E → Env → R D
  | [], _ => .stuck
  | e :: es, env => (evE cf e env).bind fun d env1 => match es with
    | [] => .ok d env1
    | es => match truth d with
      | some b => if b = k then evL cf k es env1 else .ok d env1
      | none => .stuck
/-- a clause's test: none, or one -/
def evC (cf : CallF) : List E → Env → R Bool
  | [], env => .ok true env
  | e :: es, env => (evE cf e env).bind fun d env1 => match es, truth d with
    | [], some b => .ok b env1
    | _, _ => .stuck
end

/-! ### statements -/
inductive SR where
  | nxt (env : Env) | ret (d : D) (env : Env) | retF (xs : List D) (env : Env) | brk (env : Env) | cnt (env : Env) | exn (x : Nat) (env : Env) | stuck
def R.toS {α : Type} (r : R α) (f : α → Env → SR) : SR := match r with
  | .ok a e => f a e
  | .exn x e => .exn x e
  | .stuck => .stuck
@[simp] theorem R.toS_ok {α : Type} (a : α) (e : Env) (f : α → Env → SR) : (R.ok a e).toS f = f a e := rfl
@[simp] theorem R.toS_exn {α : Type} (x : Nat) (e : Env) (f : α → Env → SR) : (R.exn x e : R α).toS f = .exn x e := rfl
@[simp] theorem R.toS_stuck {α : Type} (f : α → Env → SR) : (R.stuck : R α).toS f = .stuck := rfl
def SR.then (r : SR) (f : Env → SR) : SR := match r with
  | .nxt e => f e
  | r => r
@[simp] theorem SR.then_nxt (e : Env) (f : Env → SR) : (SR.nxt e).then f = f e := rfl
@[simp] theorem SR.then_ret (d : D) (e : Env) (f : Env → SR) : (SR.ret d e).then f = .ret d e := rfl
@[simp] theorem SR.then_retF (d : List D) (e : Env) (f : Env → SR) : (SR.retF d e).then f = .retF d e := rfl
@[simp] theorem SR.then_brk (e : Env) (f : Env → SR) : (SR.brk e).then f = .brk e := rfl
@[simp] theorem SR.then_cnt (e : Env) (f : Env → SR) : (SR.cnt e).then f = .cnt e := rfl
@[simp] theorem SR.then_exn (x : Nat) (e : Env) (f : Env → SR) : (SR.exn x e).then f = .exn x e := rfl
@[simp] theorem SR.then_stuck (f : Env → SR) : SR.stuck.then f = .stuck := rfl
def ofOptS (o : Option Env) : SR := match o with
  | some e => .nxt e
  | none => .stuck
def forGo (step : D → Env → SR) : List D → Env → SR
  | [], env => .nxt env
  | d :: ds, env => match step d env with
    | .nxt e => forGo step ds e
    | .cnt e => forGo step ds e
    | .brk e => .nxt e
    | r => r
def whileGo (c : Env → R Bool) (b : Env → SR) : Nat → Env → SR
  | 0, _ => .stuck
  | n + 1, env => (c env).toS fun k e => if k then (match b e with
    | .nxt e1 => whileGo c b n e1
    | .cnt e1 => whileGo c b n e1
    | .brk e1 => .nxt e1
    | r => r) else .nxt e
def asgN (env : Env) : List Nat → List D → Option Env
  | [], [] => some env
  | i :: is, d :: ds => match put env i (.val d) with
    | some e => asgN e is ds
    | none => none
  | _, _ => none
/-- names get values, or lists of our own -/
def asgO (env : Env) : List Bool → List Nat → List D → Option Env
  | [], [], [] => some env
  | false :: fs, i :: is, d :: ds => match put env i (.val d) with
    | some e => asgO e fs is ds
    | none => none
  | true :: fs, i :: is, .lst xs :: ds => match put env i (.own (.lst xs)) with
    | some e => asgO e fs is ds
    | none => none
  | _, _, _ => none
/-- a list of its own comes: an odd def tells one -/
def isFresh : E → Bool
  | .prim .lst _ => true
  | .prim (.bin .Add) _ => true
  | .prim (.bin .Mult) _ => true
  | .prim .rngL _ => true
  | .comp .. => true
  | .prim (.call .list) _ => true
  | .call f _ => f % 2 == 1
  | _ => false
/-- those that are to be of their own are -/
def freshs : List Bool → List E → Bool
  | [], [] => true
  | f :: fs, e :: es => (!f || isFresh e) && freshs fs es
  | _, _ => false
def truthR (r : R D) : R Bool := r.bind fun d e => ofOpt (truth d) e
/-- xs += ys, a list of ours -/
def augL (env : Env) (i : Nat) (s : Sl) (c : Option D) (y : D) : SR := match c, y with
  | some (.lst xs), .lst ys => if isMut s && decide (xs.length + ys.length ≤ 16777216) then .nxt (env.set i (reset (.lst (xs ++ ys)) s)) else .stuck
  | _, _ => .stuck
def isLst : D → Bool
  | .lst _ => true
  | _ => false
/-- values and lists of our own, one by one -/
def evP (cf : CallF) : List Bool → List E → Env → R (List D)
  | [], [], env => .ok [] env
  | f :: fs, e :: es, env => (evE cf e env).bind fun d env1 => if f && !isLst d then .stuck else (evP cf fs es env1).bind fun ds env2 => .ok (d :: ds) env2
  | _, _, _ => .stuck
mutual
def evS (cf : CallF) : S → Env → SR
  | .set t e, env => (evE cf e env).toS fun d env1 => ofOptS (asg env1 t d)
  | .own i e, env => if isFresh e then (evE cf e env).toS fun d env1 => match d with
    | .lst xs => ofOptS (put env1 i (.own (.lst xs)))
    | _ => .stuck
    else .stuck
  | .par is es, env => (evA cf es env).toS fun avs env1 => match rds env1 avs with
    | some ds => ofOptS (asgN env1 is ds)
    | none => .stuck
  | .parO fs is es, env => if freshs fs es then (evP cf fs es env).toS fun ds env1 => ofOptS (asgO env1 fs is ds) else .stuck
  | .aug i op e, env => match env[i]? with
    | some (.val x) => (evE cf e env).toS fun y env1 => match augEv op x y with
      | some z => ofOptS (put env1 i (.val z))
      | none => .stuck
    | some s0 => if isMut s0 && decide (op = .Add) then (evE cf e env).toS fun y env1 => match env1[i]? with
      | some s => augL env1 i s (rd env1 (.slot i)) y
      | none => .stuck
      else .stuck
    | _ => .stuck
  | .store i ix e, env => (evE cf e env).toS fun d env1 => if okMut env1 i then (evE cf ix env1).toS fun k env2 => match env2[i]? with
    | some s => (match isMut s, rd env2 (.slot i) with
      | true, some c => (match storeEv c k d with
        | some c' => .nxt (env2.set i (reset c' s))
        | none => .stuck)
      | _, _ => .stuck)
    | none => .stuck
    else .stuck
  | .expr e, env => (evE cf e env).toS fun _ env1 => .nxt env1
  | .ret none, env => .ret .non env
  | .ret (some e), env => (evE cf e env).toS fun d env1 => .ret d env1
  | .retF e, env => if isFresh e then (evE cf e env).toS fun d env1 => match d with
    | .lst xs => .retF xs env1
    | _ => .stuck
    else .stuck
  | .ifs c a b, env => (truthR (evE cf c env)).toS fun k env1 => if k then evB cf a env1 else evB cf b env1
  | .for t k src body, env => (evA cf src env).toS fun avs env1 => match rds env1 avs with
    | some ds => match itEv k ds with
      | some items => forGo (fun d e => (ofOptS (asg e t d)).then fun e1 => evB cf body e1) items env1
      | none => .stuck
    | none => .stuck
  | .while c body, env => whileGo (fun e => truthR (evE cf c e)) (fun e => evB cf body e) 1000000000 env
  | .raise x, env => .exn x env
  | .pass, env => .nxt env
  | .brk, env => .brk env
  | .cnt, env => .cnt env
  | .frz i, env => match env[i]? with
    | some (.own d) => .nxt (env.set i (.val d))
    | some (.val d) => .nxt env
    | _ => .stuck
def evB (cf : CallF) : List S → Env → SR
  | [], env => .nxt env
  | s :: ss, env => (evS cf s env).then fun e => evB cf ss e
end
/-! ### defs -/
structure Df where
  np : Nat
  ns : Nat
  body : List S
def outsOf (env : Env) : List D := env.filterMap fun s => match s with | .io d => some d | _ => none
/-- the arguments, the in-out ones as they are at the end -/
def mergeIo : List Sl → Env → List Sl
  | [], _ => []
  | .io _ :: r, t :: e => t :: mergeIo r e
  | s :: r, _ :: e => s :: mergeIo r e
  | s :: r, [] => s :: mergeIo r []
/-- def f / 2; an odd one tells a list of its own -/
def run (tb : List Df) : Nat → CallF
  | 0 => fun _ _ => .stuck
  | n + 1 => fun f args => match tb[f / 2]? with
    | none => .stuck
    | some d => if args.length = d.np then (match evB (run tb n) d.body (args ++ List.replicate (d.ns - d.np) .none) with
      | .ret v e => if f % 2 = 0 then .ok v (outsOf (mergeIo args e)) else .stuck
      | .retF v e => .ok (.lst v) (outsOf (mergeIo args e))
      | .nxt e => if f % 2 = 0 then .ok .non (outsOf (mergeIo args e)) else .stuck
      | .exn x e => .exn x (outsOf (mergeIo args e))
      | _ => .stuck) else .stuck
end Mp
set_option Elab.async false
set_option linter.all false
set_option maxRecDepth 100000
/-! how data lies in the heap; the slots; kinds are kept -/
namespace Mp
open PySem L2

abbrev PA' := Addr → Prop
def Ext (P : PA') (H H' : Hp) : Prop := ∀ b o, H b = some o → ¬ P b → H' b = some o
theorem Ext.refl {P : PA'} {H : Hp} : Ext P H H := fun _ _ h _ => h
theorem Ext.trans {P : PA'} {H H1 H2 : Hp} (a : Ext P H H1) (b : Ext P H1 H2) : Ext P H H2 := fun c o h n => b c o (a c o h n) n
theorem Ext.mono {P P' : PA'} {H H' : Hp} (a : Ext P H H') (h : ∀ b, P b → P' b) : Ext P' H H' := fun c o e n => a c o e fun q => n (h c q)
theorem Ext.new {P : PA'} {H : Hp} {p : Addr} {o : HO} (h : H p = none) : Ext P H (upd H p o) := fun b u e _ => by
  rw [upd_ne (ne_of_none e h)]; exact e
theorem Ext.upd {P : PA'} {H : Hp} {p : Addr} {o : HO} (h : P p) : Ext P H (upd H p o) := fun b u e n => by
  rw [upd_ne (fun q => n (by rw [q]; exact h))]; exact e
theorem Ext.same {P : PA'} {H H' : Hp} (h : Same H H') : Ext P H H' := fun b o e _ => h b o e

def none0 : Hp := fun _ => none
def FzT (K : PySem.W.Frag) (O : PA') (H : Hp) (a : Addr) (vs : List V) : Prop := (Rd H a (.tup vs) ∧ ¬ O a) ∨ SqT K none0 a vs
def FzS (K : PySem.W.Frag) (O : PA') (H : Hp) (a : Addr) (vs : List V) : Prop := (Rd H a (.lst vs) ∧ ¬ O a) ∨ SqL K none0 a vs
theorem rd0 {a : Addr} {u : HO} (h : Rd none0 a u) : False := by
  rcases h with h | ⟨_, h⟩ <;> cases h
theorem sqT0 {K : PySem.W.Frag} {H : Hp} {a : Addr} {vs : List V} (h : SqT K none0 a vs) : SqT K H a vs := by
  rcases h with h | h
  · exact (rd0 h).elim
  · exact .inr h
theorem sqL0 {K : PySem.W.Frag} {H : Hp} {a : Addr} {vs : List V} (h : SqL K none0 a vs) : SqL K H a vs := by
  rcases h with h | h
  · exact (rd0 h).elim
  · exact .inr h
theorem FzT.sq {K : PySem.W.Frag} {O : PA'} {H : Hp} {a : Addr} {vs : List V} (h : FzT K O H a vs) : SqT K H a vs := by
  rcases h with ⟨h, _⟩ | h
  · exact .inl h
  · exact sqT0 h
theorem FzS.sq {K : PySem.W.Frag} {O : PA'} {H : Hp} {a : Addr} {vs : List V} (h : FzS K O H a vs) : SqL K H a vs := by
  rcases h with ⟨h, _⟩ | h
  · exact .inl h
  · exact sqL0 h
theorem rd_ext {O : PA'} {H H' : Hp} (x : Ext O H H') {a : Addr} {u : HO} (h : Rd H a u) (n : ¬ O a) : Rd H' a u := by
  rcases h with h | ⟨o, h⟩
  · exact .inl (x _ _ h n)
  · exact .inr ⟨o, x _ _ h n⟩
theorem rd_some {H : Hp} {a : Addr} {u : HO} (h : Rd H a u) : H a ≠ none := by
  rcases h with h | ⟨o, h⟩ <;> rw [h] <;> simp

mutual
def Rep (K : PySem.W.Frag) (O : PA') (H : Hp) : D → V → Prop
  | .non, v => v = .non
  | .bl b, v => v = .bl b
  | .int i, v => v = .int i
  | .str s, v => v = .str ⟨s.toArray⟩
  | .tup ds, v => ∃ a vs, v = .ref a ∧ FzT K O H a vs ∧ Reps K O H ds vs
  | .lst ds, v => ∃ a vs, v = .ref a ∧ H a = some (.lst vs) ∧ ¬ O a ∧ Reps K O H ds vs
  | .dct _ _, _ => False
  | .set _, _ => False
  | .scr ns, v => ∃ a, v = .ref a ∧ FzS K O H a (ns.map V.int)
def Reps (K : PySem.W.Frag) (O : PA') (H : Hp) : List D → List V → Prop
  | [], vs => vs = []
  | d :: ds, vs => ∃ v r, vs = v :: r ∧ Rep K O H d v ∧ Reps K O H ds r
end
section
variable {K : PySem.W.Frag} {O O' : PA'} {H H' : Hp}
mutual
theorem rep_ext (x : Ext O H H') : ∀ {d : D} {v : V}, Rep K O H d v → Rep K O H' d v
  | .non, _, h => h
  | .bl _, _, h => h
  | .int _, _, h => h
  | .str _, _, h => h
  | .tup ds, _, h => by
    obtain ⟨a, vs, e, f, r⟩ := h
    refine ⟨a, vs, e, ?_, reps_ext x r⟩
    rcases f with ⟨f, n⟩ | f
    · exact .inl ⟨rd_ext x f n, n⟩
    · exact .inr f
  | .lst ds, _, h => by
    obtain ⟨a, vs, e, f, n, r⟩ := h
    exact ⟨a, vs, e, x _ _ f n, n, reps_ext x r⟩
  | .dct _ _, _, h => h
  | .set _, _, h => h
  | .scr ns, _, h => by
    obtain ⟨a, e, f⟩ := h
    refine ⟨a, e, ?_⟩
    rcases f with ⟨f, n⟩ | f
    · exact .inl ⟨rd_ext x f n, n⟩
    · exact .inr f
theorem reps_ext (x : Ext O H H') : ∀ {ds : List D} {vs : List V}, Reps K O H ds vs → Reps K O H' ds vs
  | [], _, h => h
  | d :: ds, _, h => by
    obtain ⟨v, r, e, h1, h2⟩ := h
    exact ⟨v, r, e, rep_ext x h1, reps_ext x h2⟩
end
mutual
theorem rep_sub (x : ∀ a, H a ≠ none → O' a → O a) : ∀ {d : D} {v : V}, Rep K O H d v → Rep K O' H d v
  | .non, _, h => h
  | .bl _, _, h => h
  | .int _, _, h => h
  | .str _, _, h => h
  | .tup ds, _, h => by
    obtain ⟨a, vs, e, f, r⟩ := h
    refine ⟨a, vs, e, ?_, reps_sub x r⟩
    rcases f with ⟨f, n⟩ | f
    · exact .inl ⟨f, fun q => n (x a (rd_some f) q)⟩
    · exact .inr f
  | .lst ds, _, h => by
    obtain ⟨a, vs, e, f, n, r⟩ := h
    exact ⟨a, vs, e, f, fun q => n (x a (by rw [f]; simp) q), reps_sub x r⟩
  | .dct _ _, _, h => h
  | .set _, _, h => h
  | .scr ns, _, h => by
    obtain ⟨a, e, f⟩ := h
    refine ⟨a, e, ?_⟩
    rcases f with ⟨f, n⟩ | f
    · exact .inl ⟨f, fun q => n (x a (rd_some f) q)⟩
    · exact .inr f
theorem reps_sub (x : ∀ a, H a ≠ none → O' a → O a) : ∀ {ds : List D} {vs : List V}, Reps K O H ds vs → Reps K O' H ds vs
  | [], _, h => h
  | d :: ds, _, h => by
    obtain ⟨v, r, e, h1, h2⟩ := h
    exact ⟨v, r, e, rep_sub x h1, reps_sub x h2⟩
end
theorem reps_len : ∀ {ds : List D} {vs : List V}, Reps K O H ds vs → vs.length = ds.length
  | [], _, h => by cases h; rfl
  | d :: ds, _, h => by
    obtain ⟨v, r, rfl, h1, h2⟩ := h
    simp [reps_len h2]
theorem reps_get : ∀ {ds : List D} {vs : List V} {i : Nat} {d : D}, Reps K O H ds vs → ds[i]? = some d → ∃ v, vs[i]? = some v ∧ Rep K O H d v
  | [], _, _, _, _, e => by simp at e
  | d :: ds, _, 0, _, h, e => by
    obtain ⟨v, r, rfl, h1, h2⟩ := h
    simp at e; subst e
    exact ⟨v, rfl, h1⟩
  | d :: ds, _, i + 1, _, h, e => by
    obtain ⟨v, r, rfl, h1, h2⟩ := h
    simp at e
    obtain ⟨w, q, z⟩ := reps_get h2 e
    exact ⟨w, by simpa using q, z⟩
theorem reps_get' : ∀ {ds : List D} {vs : List V} {i : Nat} {v : V}, Reps K O H ds vs → vs[i]? = some v → ∃ d, ds[i]? = some d ∧ Rep K O H d v
  | [], _, _, _, h, e => by cases h; simp at e
  | d :: ds, _, 0, _, h, e => by
    obtain ⟨v, r, rfl, h1, h2⟩ := h
    simp at e; subst e
    exact ⟨d, rfl, h1⟩
  | d :: ds, _, i + 1, _, h, e => by
    obtain ⟨v, r, rfl, h1, h2⟩ := h
    simp at e
    obtain ⟨w, q, z⟩ := reps_get' h2 e
    exact ⟨w, by simpa using q, z⟩
theorem reps_append : ∀ {ds es : List D} {vs ws : List V}, Reps K O H ds vs → Reps K O H es ws → Reps K O H (ds ++ es) (vs ++ ws)
  | [], _, _, _, h, q => by cases h; exact q
  | d :: ds, _, _, _, h, q => by
    obtain ⟨v, r, rfl, h1, h2⟩ := h
    exact ⟨v, _, rfl, h1, reps_append h2 q⟩
theorem reps_one {d : D} {v : V} (h : Rep K O H d v) : Reps K O H [d] [v] := ⟨v, [], rfl, h, rfl⟩
theorem reps_set : ∀ {ds : List D} {vs : List V} {d : D} {v : V} (i : Nat), Reps K O H ds vs → Rep K O H d v → Reps K O H (ds.set i d) (vs.set i v)
  | [], _, _, _, _, h, _ => by cases h; rfl
  | d :: ds, _, _, _, 0, h, q => by
    obtain ⟨v, r, rfl, h1, h2⟩ := h
    exact ⟨_, _, rfl, q, h2⟩
  | d :: ds, _, _, _, i + 1, h, q => by
    obtain ⟨v, r, rfl, h1, h2⟩ := h
    exact ⟨_, _, rfl, h1, reps_set i h2 q⟩
theorem reps_drop : ∀ {ds : List D} {vs : List V} (n : Nat), Reps K O H ds vs → Reps K O H (ds.drop n) (vs.drop n)
  | _, _, 0, h => h
  | [], _, n + 1, h => by cases h; rfl
  | d :: ds, _, n + 1, h => by
    obtain ⟨v, r, rfl, h1, h2⟩ := h
    exact reps_drop n h2
theorem reps_take : ∀ {ds : List D} {vs : List V} (n : Nat), Reps K O H ds vs → Reps K O H (ds.take n) (vs.take n)
  | _, _, 0, h => by simp [Reps]
  | [], _, n + 1, h => by cases h; rfl
  | d :: ds, _, n + 1, h => by
    obtain ⟨v, r, rfl, h1, h2⟩ := h
    exact ⟨v, _, rfl, h1, reps_take n h2⟩
theorem reps_reverse {ds : List D} : ∀ {vs : List V}, Reps K O H ds vs → Reps K O H ds.reverse vs.reverse := by
  induction ds with
  | nil => intro vs h; cases h; rfl
  | cons d ds ih =>
    intro vs h
    obtain ⟨v, r, rfl, h1, h2⟩ := h
    rw [List.reverse_cons, List.reverse_cons]
    exact reps_append (ih h2) (reps_one h1)
theorem reps_erase : ∀ {ds : List D} {vs : List V} (n : Nat), Reps K O H ds vs → Reps K O H (ds.eraseIdx n) (vs.eraseIdx n)
  | [], _, n, h => by cases h; rfl
  | d :: ds, _, 0, h => by
    obtain ⟨v, r, rfl, h1, h2⟩ := h
    exact h2
  | d :: ds, _, n + 1, h => by
    obtain ⟨v, r, rfl, h1, h2⟩ := h
    exact ⟨v, _, rfl, h1, reps_erase n h2⟩
theorem reps_flat : ∀ {ds : List D} {vs : List V} (k : Nat), Reps K O H ds vs → Reps K O H (List.replicate k ds).flatten (List.replicate k vs).flatten
  | _, _, 0, _ => rfl
  | _, _, k + 1, h => by
    rw [List.replicate_succ, List.replicate_succ, List.flatten_cons, List.flatten_cons]
    exact reps_append h (reps_flat k h)
theorem reps_ints : ∀ {ns : List Int}, Reps K O H (ns.map .int) (ns.map V.int)
  | [] => rfl
  | n :: ns => ⟨_, _, rfl, rfl, reps_ints⟩
theorem reps_ints' : ∀ {ds : List D} {vs : List V} {ns : List Int}, intsOf ds = some ns → Reps K O H ds vs → vs = ns.map V.int
  | [], _, _, e, h => by cases h; simp [intsOf] at e; subst e; rfl
  | d :: ds, _, ns, e, h => by
    obtain ⟨v, r, rfl, h1, h2⟩ := h
    cases d <;> simp only [intsOf, reduceCtorEq] at e
    rename_i i
    cases q : intsOf ds with
    | none => rw [q] at e; cases e
    | some ms =>
      rw [q] at e
      simp only [Option.map_some, Option.some.injEq] at e
      subst e
      have := reps_ints' q h2
      cases h1
      rw [this, List.map_cons]
theorem reps_bools' : ∀ {ds : List D} {vs : List V} {ns : List Bool}, boolsOf ds = some ns → Reps K O H ds vs → vs = ns.map V.bl
  | [], _, _, e, h => by cases h; simp [boolsOf] at e; subst e; rfl
  | d :: ds, _, ns, e, h => by
    obtain ⟨v, r, rfl, h1, h2⟩ := h
    cases d <;> simp only [boolsOf, reduceCtorEq] at e
    rename_i i
    cases q : boolsOf ds with
    | none => rw [q] at e; cases e
    | some ms =>
      rw [q] at e
      simp only [Option.map_some, Option.some.injEq] at e
      subst e
      have := reps_bools' q h2
      cases h1
      rw [this, List.map_cons]
theorem dpAll_ints : ∀ {ns : List Int}, DpAll K H (ns.map V.int) (ns.map .int)
  | [] => .nil
  | n :: ns => .cons (.int n) dpAll_ints
mutual
theorem rep_dp : ∀ {d : D} {v : V}, Rep K O H d v → Dp K H v (toPD d)
  | .non, _, h => by cases h; exact .non
  | .bl b, _, h => by cases h; exact .bl b
  | .int i, _, h => by cases h; exact .int i
  | .str s, _, h => by cases h; exact .str _
  | .tup ds, _, h => by
    obtain ⟨a, vs, rfl, f, r⟩ := h
    exact .tup f.sq (reps_dp r)
  | .lst ds, _, h => by
    obtain ⟨a, vs, rfl, f, n, r⟩ := h
    exact .lst (SqL.of f) (reps_dp r)
  | .dct _ _, _, h => h.elim
  | .set _, _, h => h.elim
  | .scr ns, _, h => by
    obtain ⟨a, rfl, f⟩ := h
    exact .lst f.sq dpAll_ints
theorem reps_dp : ∀ {ds : List D} {vs : List V}, Reps K O H ds vs → DpAll K H vs (toPDs ds)
  | [], _, h => by cases h; exact .nil
  | d :: ds, _, h => by
    obtain ⟨v, r, rfl, h1, h2⟩ := h
    exact .cons (rep_dp h1) (reps_dp h2)
end
end

theorem kd_own (d : D) : kd (.own d) ≠ 0 := Nat.one_ne_zero
theorem kd_io (d : D) : kd (.io d) ≠ 0 := Nat.succ_ne_zero 1
/-- a list of ours at a -/
def Cell (K : PySem.W.Frag) (O : PA') (H : Hp) (d : D) (a : Addr) : Prop := match d with
  | .lst ds => ∃ vs, H a = some (.lst vs) ∧ Reps K O H ds vs
  | _ => False
structure Sim (K : PySem.W.Frag) (O : PA') (σ : St) (H : Hp) (env : Env) : Prop where
  len : σ.length = env.length
  val : ∀ (i : Nat) (d : D), env[i]? = some (.val d) → ∃ v, σ[i]? = some (some v) ∧ Rep K O H d v
  cel : ∀ (i : Nat) (d : D), env[i]? = some (.own d) ∨ env[i]? = some (.io d) → ∃ a, σ[i]? = some (some (.ref a)) ∧ O a ∧ Cell K O H d a
  inj : ∀ (i j : Nat) (a : Addr) (s t : Sl), env[i]? = some s → env[j]? = some t → kd s ≠ 0 → kd t ≠ 0 → σ[i]? = some (some (.ref a)) → σ[j]? = some (some (.ref a)) → i = j
  trk : ∀ a, O a → H a ≠ none
/-- the addresses of our lists -/
def Mt (σ : St) (ks : List Nat) : PA' := fun a => ∃ (i k : Nat), ks[i]? = some k ∧ k ≠ 0 ∧ σ[i]? = some (some (.ref a))
section
variable {K : PySem.W.Frag} {O O' : PA'} {H H' : Hp} {σ : St} {env : Env}
theorem cell_ext (x : Ext O H H') {d : D} {a : Addr} (e : ∀ vs, H a = some (.lst vs) → H' a = some (.lst vs)) (h : Cell K O H d a) : Cell K O H' d a := by
  cases d <;> simp only [Cell] at h ⊢
  obtain ⟨vs, h1, h2⟩ := h
  exact ⟨vs, e _ h1, reps_ext x h2⟩
theorem Sim.mtO (S : Sim K O σ H env) : ∀ a, Mt σ (kinds env) a → O a := fun a ⟨i, k, h1, h2, h3⟩ => by
  rw [List.getElem?_map] at h1
  cases e : env[i]? with
  | none => rw [e] at h1; cases h1
  | some s =>
    rw [e] at h1
    simp only [Option.map_some, Option.some.injEq] at h1
    subst h1
    cases s with
    | none => exact absurd rfl h2
    | val d => exact absurd rfl h2
    | own d =>
      obtain ⟨b, q, o, _⟩ := S.cel i d (.inl e)
      rw [h3] at q; cases q; exact o
    | io d =>
      obtain ⟨b, q, o, _⟩ := S.cel i d (.inr e)
      rw [h3] at q; cases q; exact o
/-- more objects, all else as it was -/
theorem Sim.same (S : Sim K O σ H env) (x : Same H H') : Sim K O σ H' env where
  len := S.len
  val := fun i d e => by
    obtain ⟨v, h1, h2⟩ := S.val i d e
    exact ⟨v, h1, rep_ext (Ext.same x) h2⟩
  cel := fun i d e => by
    obtain ⟨a, h1, h2, h3⟩ := S.cel i d e
    exact ⟨a, h1, h2, cell_ext (Ext.same x) (fun vs q => x _ _ q) h3⟩
  inj := S.inj
  trk := fun a o q => by
    cases e : H a with
    | none => exact S.trk a o e
    | some u => rw [x a u e] at q; cases q
theorem kinds_get {i : Nat} {s : Sl} (e : env[i]? = some s) : (kinds env)[i]? = some (kd s) := by rw [List.getElem?_map, e]; rfl
theorem mt_of {i : Nat} {s : Sl} {a : Addr} (e : env[i]? = some s) (k : kd s ≠ 0) (h : σ[i]? = some (some (.ref a))) : Mt σ (kinds env) a := ⟨i, kd s, kinds_get e, k, h⟩
/-- an object of O that is no list of ours is changed -/
theorem Sim.updO (S : Sim K O σ H env) {p : Addr} {o : HO} (hp : O p) (n : ¬ Mt σ (kinds env) p) : Sim K O σ (upd H p o) env where
  len := S.len
  val := fun i d e => by
    obtain ⟨v, h1, h2⟩ := S.val i d e
    exact ⟨v, h1, rep_ext (Ext.upd hp) h2⟩
  cel := fun i d e => by
    obtain ⟨a, h1, h2, h3⟩ := S.cel i d e
    have na : a ≠ p := fun q => n (by
      subst q
      rcases e with e | e
      · exact mt_of e (kd_own _) h1
      · exact mt_of e (kd_io _) h1)
    exact ⟨a, h1, h2, cell_ext (Ext.upd hp) (fun vs q => by rw [upd_ne na]; exact q) h3⟩
  inj := S.inj
  trk := fun a o' q => by
    by_cases h : a = p
    · subst h; rw [upd_same] at q; cases q
    · rw [upd_ne h] at q; exact S.trk a o' q
/-- O gets one fresh address more -/
theorem Sim.more (S : Sim K O σ H env) {p : Addr} (h : H p = none) {o : HO} : Sim K (fun a => O a ∨ a = p) σ (upd H p o) env := by
  have x : Ext O H (upd H p o) := Ext.new h
  have sb : ∀ a, H a ≠ none → (O a ∨ a = p) → O a := fun a n q => q.elim id fun e => absurd (e ▸ h) n
  refine ⟨S.len, fun i d e => ?_, fun i d e => ?_, S.inj, fun a q z => ?_⟩
  · obtain ⟨v, h1, h2⟩ := S.val i d e
    exact ⟨v, h1, rep_ext (x.mono fun _ => .inl) (rep_sub sb h2)⟩
  · obtain ⟨a, h1, h2, h3⟩ := S.cel i d e
    refine ⟨a, h1, .inl h2, ?_⟩
    cases d <;> simp only [Cell] at h3 ⊢
    obtain ⟨vs, q1, q2⟩ := h3
    exact ⟨vs, by rw [upd_ne (ne_of_none q1 h)]; exact q1, reps_ext (x.mono fun _ => .inl) (reps_sub sb q2)⟩
  · by_cases e : a = p
    · subst e; rw [upd_same] at z; cases z
    · rw [upd_ne e] at z
      exact q.elim (fun q => S.trk a q z) e
/-- O gets smaller -/
theorem Sim.less (S : Sim K O σ H env) (h : ∀ a, O' a → O a) (hm : ∀ a, Mt σ (kinds env) a → O' a) : Sim K O' σ H env := by
  have sb : ∀ a, H a ≠ none → O' a → O a := fun a _ q => h a q
  refine ⟨S.len, fun i d e => ?_, fun i d e => ?_, S.inj, fun a q => S.trk a (h a q)⟩
  · obtain ⟨v, h1, h2⟩ := S.val i d e
    exact ⟨v, h1, rep_sub sb h2⟩
  · obtain ⟨a, h1, h2, h3⟩ := S.cel i d e
    refine ⟨a, h1, hm a ?_, ?_⟩
    · rcases e with e | e
      · exact mt_of e (kd_own _) h1
      · exact mt_of e (kd_io _) h1
    · cases d <;> simp only [Cell] at h3 ⊢
      obtain ⟨vs, q1, q2⟩ := h3
      exact ⟨vs, q1, reps_sub sb q2⟩
/-- the list of a slot of ours is changed -/
theorem Sim.turn (S : Sim K O σ H env) {i : Nat} {s : Sl} {a : Addr} {ds : List D} {vs : List V} (e : env[i]? = some s) (k : kd s ≠ 0) (h : σ[i]? = some (some (.ref a))) (r : Reps K O H ds vs) :
    Sim K O σ (upd H a (.lst vs)) (env.set i (reset (.lst ds) s)) := by
  have oa : O a := S.mtO a (mt_of e k h)
  have x : Ext O H (upd H a (.lst vs)) := Ext.upd oa
  have hi : i < env.length := (List.getElem?_eq_some_iff.mp e).1
  have kr : kd (reset (.lst ds) s) = kd s := by cases s <;> rfl
  refine ⟨by rw [List.length_set]; exact S.len, fun j d q => ?_, fun j d q => ?_, fun j l b t u q1 q2 q3 q4 q5 q6 => ?_, fun b o z => ?_⟩
  · by_cases hj : i = j
    · subst hj
      rw [List.getElem?_set_self hi] at q
      cases s <;> simp [reset, kd] at q k
    · rw [List.getElem?_set_ne hj] at q
      obtain ⟨v, h1, h2⟩ := S.val j d q
      exact ⟨v, h1, rep_ext x h2⟩
  · by_cases hj : i = j
    · subst hj
      rw [List.getElem?_set_self hi] at q
      have ed : d = .lst ds := by
        rcases q with q | q <;> (cases s <;> simp [reset] at q <;> first | exact q.symm | (simp [kd] at k))
      subst ed
      exact ⟨a, h, oa, vs, upd_same, reps_ext x r⟩
    · rw [List.getElem?_set_ne hj] at q
      obtain ⟨b, h1, h2, h3⟩ := S.cel j d q
      refine ⟨b, h1, h2, ?_⟩
      have nb : b ≠ a := fun z => by
        subst z
        rcases q with q | q
        · exact hj (S.inj i j b s _ e q k (kd_own _) h h1)
        · exact hj (S.inj i j b s _ e q k (kd_io _) h h1)
      exact cell_ext x (fun ws z => by rw [upd_ne nb]; exact z) h3
  · have get : ∀ {m : Nat} {t : Sl}, (env.set i (reset (.lst ds) s))[m]? = some t → kd t ≠ 0 → ∃ t', env[m]? = some t' ∧ kd t' ≠ 0 := fun {m t} z kz => by
      by_cases hm : i = m
      · subst hm; exact ⟨s, e, k⟩
      · rw [List.getElem?_set_ne hm] at z; exact ⟨t, z, kz⟩
    obtain ⟨t', e1, k1⟩ := get q1 q3
    obtain ⟨u', e2, k2⟩ := get q2 q4
    exact S.inj j l b t' u' e1 e2 k1 k2 q5 q6
  · by_cases hb : b = a
    · subst hb; rw [upd_same] at z; cases z
    · rw [upd_ne hb] at z; exact S.trk b o z
theorem reset_kd (d : D) (s : Sl) : kd (reset d s) = kd s := by cases s <;> rfl
theorem kinds_set {i : Nat} {s t : Sl} (e : env[i]? = some s) (k : kd t = kd s) : kinds (env.set i t) = kinds env := by
  unfold kinds
  rw [List.map_set, k]
  apply List.ext_getElem?
  intro j
  by_cases hj : i = j
  · subst hj
    have hi : i < env.length := (List.getElem?_eq_some_iff.mp e).1
    rw [List.getElem?_set_self (by simpa using hi), List.getElem?_map, e]; rfl
  · rw [List.getElem?_set_ne hj]
end
end Mp
set_option Elab.async false
set_option linter.all false
set_option maxRecDepth 100000
/-! an expression leaves the kinds of all slots as they are -/
namespace Mp
open PySem L2

/-- what a result leaves in the slots' kinds -/
def KOk {α : Type} (ks : List Nat) : R α → Prop
  | .ok _ e => kinds e = ks
  | .exn _ e => kinds e = ks
  | .stuck => True
theorem KOk.bind {α β : Type} {ks : List Nat} {r : R α} {f : α → Env → R β} (h : KOk ks r) (g : ∀ a e, r = .ok a e → kinds e = ks → KOk ks (f a e)) : KOk ks (r.bind f) := by
  cases r with
  | ok a e => exact g a e rfl h
  | exn x e => exact h
  | stuck => trivial
theorem KOk.noExn {α : Type} {ks : List Nat} {r : R α} (h : KOk ks r) : KOk ks (noExn r) := by
  cases r with
  | ok a e => exact h
  | exn x e => trivial
  | stuck => trivial
theorem KOk.ofOpt {α : Type} {ks : List Nat} {o : Option α} {e : Env} (h : kinds e = ks) : KOk ks (ofOpt o e) := by
  cases o with
  | none => trivial
  | some a => exact h
theorem back_kinds : ∀ {is : List Nat} {ds : List D} {env env' : Env}, back env is ds = some env' → kinds env' = kinds env
  | [], [], _, _, h => by simp [back] at h; rw [h]
  | [], _ :: _, _, _, h => by simp [back] at h
  | _ :: _, [], _, _, h => by simp [back] at h
  | i :: is, d :: ds, env, env', h => by
    unfold back at h
    cases e : env[i]? with
    | none => rw [e] at h; cases h
    | some s =>
      rw [e] at h
      rw [back_kinds h, kinds_set e (reset_kd d s)]
theorem put_kinds {env env' : Env} {i : Nat} {d : D} {s : Sl} (e : env[i]? = some s) (k : kd s = 0) (h : put env i (.val d) = some env') : kinds env' = kinds env := by
  unfold put at h
  rw [e] at h
  cases s <;> simp [kd] at k <;> (simp at h; rw [← h]; exact kinds_set e rfl)
/-- slots of kind 0 -/
def Plain (own : List Nat) (env : Env) : Prop := ∀ i ∈ own, ∃ s, env[i]? = some s ∧ kd s = 0
theorem kinds_at {env env' : Env} (h : kinds env' = kinds env) {i : Nat} {s : Sl} (e : env[i]? = some s) : ∃ t, env'[i]? = some t ∧ kd t = kd s := by
  have h1 : (kinds env')[i]? = some (kd s) := by rw [h]; exact kinds_get e
  rw [List.getElem?_map] at h1
  cases q : env'[i]? with
  | none => rw [q] at h1; cases h1
  | some t => rw [q] at h1; exact ⟨t, rfl, by simpa using h1⟩
theorem Plain.of {own : List Nat} {env env' : Env} (p : Plain own env) (h : kinds env' = kinds env) : Plain own env' := fun i hi => by
  obtain ⟨s, e, k⟩ := p i hi
  obtain ⟨t, e', k'⟩ := kinds_at h e
  exact ⟨t, e', k'.trans k⟩
theorem plainAt_of {env : Env} {own : List Nat} (h : plainAt env own = true) : Plain own env := fun i hi => by
  have q := List.all_eq_true.mp h i hi
  cases e : env[i]? with
  | none => rw [e] at q; cases q
  | some s => rw [e] at q; exact ⟨s, rfl, by simpa using q⟩
mutual
theorem asg_kinds : ∀ {t : Tg} {d : D} {env env' : Env} {own : List Nat}, tgIn own t = true → Plain own env → asg env t d = some env' → kinds env' = kinds env
  | .name i, d, env, env', own, ht, p, h => by
    obtain ⟨s, e, k⟩ := p i (by simpa [tgIn] using ht)
    exact put_kinds e k (by simpa [asg] using h)
  | .tup ts, d, env, env', own, ht, p, h => by
    cases d <;> simp only [asg, reduceCtorEq] at h
    exact asgs_kinds (by simpa [tgIn] using ht) p h
theorem asgs_kinds : ∀ {ts : List Tg} {ds : List D} {env env' : Env} {own : List Nat}, tgsIn own ts = true → Plain own env → asgs env ts ds = some env' → kinds env' = kinds env
  | [], [], _, _, _, _, _, h => by simp [asgs] at h; rw [h]
  | [], _ :: _, _, _, _, _, _, h => by simp [asgs] at h
  | _ :: _, [], _, _, _, _, _, h => by simp [asgs] at h
  | t :: ts, d :: ds, env, env', own, ht, p, h => by
    have ht' : tgIn own t = true ∧ tgsIn own ts = true := by simpa [tgsIn] using ht
    unfold asgs at h
    cases e : asg env t d with
    | none => rw [e] at h; cases h
    | some env1 =>
      rw [e] at h
      have k1 := asg_kinds ht'.1 p e
      rw [asgs_kinds ht'.2 (p.of k1) h, k1]
end
theorem wipe_get {env : Env} {j : Nat} : ∀ {own : List Nat}, j ∉ own → (wipe env own)[j]? = env[j]?
  | [], _ => rfl
  | v :: vs, h => by
    have h' : j ≠ v ∧ j ∉ vs := by simpa using h
    unfold wipe
    rw [List.getElem?_set_ne (Ne.symm h'.1)]
    exact wipe_get h'.2
theorem wipe_len (env : Env) : ∀ own : List Nat, (wipe env own).length = env.length
  | [] => rfl
  | v :: vs => by unfold wipe; rw [List.length_set, wipe_len env vs]
theorem wipe_at {env : Env} {j : Nat} (hj : j < env.length) : ∀ {own : List Nat}, j ∈ own → (wipe env own)[j]? = some .none
  | v :: vs, h => by
    unfold wipe
    by_cases e : v = j
    · subst e
      rw [List.getElem?_set_self (by rw [wipe_len]; exact hj)]
    · rw [List.getElem?_set_ne e]
      exact wipe_at hj ((List.mem_cons.mp h).resolve_left fun q => e q.symm)
theorem wipe_kinds {env : Env} {own : List Nat} (p : Plain own env) : kinds (wipe env own) = kinds env := by
  apply List.ext_getElem?
  intro j
  rw [List.getElem?_map, List.getElem?_map]
  by_cases h : j ∈ own
  · obtain ⟨s, e, k⟩ := p j h
    rw [wipe_at (List.getElem?_eq_some_iff.mp e).1 h, e]
    simp [k]; rfl
  · rw [wipe_get h]
theorem unwipe_get {old env : Env} {j : Nat} : ∀ {own : List Nat}, j ∉ own → (unwipe old env own)[j]? = env[j]?
  | [], _ => rfl
  | v :: vs, h => by
    have h' : j ≠ v ∧ j ∉ vs := by simpa using h
    unfold unwipe
    cases e : old[v]? with
    | none => exact unwipe_get h'.2
    | some s =>
      show ((unwipe old env vs).set v s)[j]? = _
      rw [List.getElem?_set_ne (Ne.symm h'.1)]
      exact unwipe_get h'.2
theorem unwipe_len (old env : Env) : ∀ own : List Nat, (unwipe old env own).length = env.length
  | [] => rfl
  | v :: vs => by
    unfold unwipe
    cases e : old[v]? with
    | none => exact unwipe_len old env vs
    | some s =>
      show ((unwipe old env vs).set v s).length = _
      rw [List.length_set, unwipe_len old env vs]
theorem unwipe_at {old env : Env} (hl : env.length = old.length) {j : Nat} {s : Sl} (hj : old[j]? = some s) : ∀ {own : List Nat}, j ∈ own → (unwipe old env own)[j]? = some s
  | v :: vs, h => by
    unfold unwipe
    by_cases e : v = j
    · subst e
      rw [hj]
      show ((unwipe old env vs).set v s)[v]? = _
      rw [List.getElem?_set_self (by rw [unwipe_len, hl]; exact (List.getElem?_eq_some_iff.mp hj).1)]
    · have m := (List.mem_cons.mp h).resolve_left fun q => e q.symm
      cases q : old[v]? with
      | none => exact unwipe_at hl hj m
      | some t =>
        show ((unwipe old env vs).set v t)[j]? = _
        rw [List.getElem?_set_ne e]
        exact unwipe_at hl hj m
theorem kinds_len {env env' : Env} (h : kinds env' = kinds env) : env'.length = env.length := by
  have := congrArg List.length h
  simpa using this
theorem unwipe_kinds {old env : Env} {own : List Nat} (p : Plain own old) (h : kinds env = kinds old) : kinds (unwipe old env own) = kinds old := by
  have hl := kinds_len h
  apply List.ext_getElem?
  intro j
  by_cases hj : j ∈ own
  · obtain ⟨s, e, k⟩ := p j hj
    rw [List.getElem?_map, List.getElem?_map, unwipe_at hl e hj, e]
  · rw [← h, List.getElem?_map, List.getElem?_map, unwipe_get hj]
theorem compGo_kinds {ks : List Nat} {step : D → Env → R (Option D)} (hs : ∀ d e, kinds e = ks → KOk ks (step d e)) : ∀ (ds acc : List D) (env : Env), kinds env = ks → KOk ks (compGo step ds acc env)
  | [], acc, env, h => h
  | d :: ds, acc, env, h => by
    unfold compGo
    refine (hs d env h).bind fun o e _ he => ?_
    cases o with
    | none => exact compGo_kinds hs ds acc e he
    | some y =>
      show KOk ks (if acc.length < 16777216 then compGo step ds (acc ++ [y]) e else .stuck)
      split
      · exact compGo_kinds hs ds (acc ++ [y]) e he
      · trivial
mutual
theorem evE_kinds (cf : CallF) : ∀ (e : E) (env : Env), KOk (kinds env) (evE cf e env)
  | .var i, env => by
    unfold evE
    split
    · exact rfl
    · trivial
  | .peek _, env => by unfold evE; trivial
  | .con d, env => by unfold evE; exact rfl
  | .glob _ d, env => by unfold evE; exact rfl
  | .prim s es, env => by
    unfold evE
    refine (evA_kinds cf es env).bind fun avs env1 _ h1 => ?_
    split
    · exact .ofOpt h1
    · trivial
  | .call f es, env => by
    unfold evE
    refine (evA_kinds cf es env).bind fun avs env1 _ h1 => ?_
    split
    · split
      · split
        · split
          · rename_i h; exact (back_kinds h).trans h1
          · trivial
        · split
          · rename_i h; exact (back_kinds h).trans h1
          · trivial
        · trivial
      · trivial
    · trivial
  | .ife c a b, env => by
    unfold evE
    refine (evE_kinds cf c env).bind fun d env1 _ h1 => ?_
    split
    · rw [← h1]; exact evE_kinds cf a env1
    · rw [← h1]; exact evE_kinds cf b env1
    · trivial
  | .bop k es, env => by
    unfold evE
    exact evL_kinds cf k es env
  | .neg e, env => by
    unfold evE
    refine (evE_kinds cf e env).bind fun d env1 _ h1 => ?_
    split
    · exact h1
    · trivial
  | .comp own tg k src cnd elt, env => by
    unfold evE
    refine (evA_kinds cf src env).bind fun avs env1 _ h1 => ?_
    split
    · split
      · rename_i hp _
        have hp' : plainAt env1 own = true ∧ tgIn own tg = true := by simpa using hp
        have p1 := plainAt_of hp'.1
        refine KOk.bind (ks := kinds env) (KOk.noExn (compGo_kinds (fun d e he => ?_) _ _ _ h1)) fun ys env2 _ h2 => ?_
        · have pe : Plain own e := p1.of (he.trans h1.symm)
          have kw := wipe_kinds pe
          split
          · rename_i e1 hq
            have pw : Plain own (wipe e own) := pe.of kw
            have k1 := (asg_kinds hp'.2 pw hq).trans (kw.trans he)
            refine KOk.bind (ks := kinds env) (by rw [← k1]; exact evC_kinds cf cnd e1) fun b e2 _ h3 => ?_
            split
            · refine KOk.bind (ks := kinds env) (by rw [← h3]; exact evE_kinds cf elt e2) fun y e3 _ h4 => h4
            · exact h3
          · trivial
        · exact (unwipe_kinds p1 (h2.trans h1.symm)).trans h1
      · trivial
    · trivial
  | .mu m i es, env => by
    unfold evE
    split
    · refine (evA_kinds cf es env).bind fun avs env1 _ h1 => ?_
      split
      · split
        · rename_i s hs
          split
          · split
            · exact (kinds_set hs (reset_kd _ s)).trans h1
            · trivial
          · trivial
        · trivial
      · trivial
    · trivial
theorem evA_kinds (cf : CallF) : ∀ (es : List E) (env : Env), KOk (kinds env) (evA cf es env)
  | [], env => by unfold evA; exact rfl
  | e :: es, env => by
    unfold evA
    split
    · split
      · exact (evA_kinds cf es env).bind fun avs env1 _ h1 => h1
      · trivial
    · refine (evE_kinds cf e env).bind fun d env1 _ h1 => ?_
      refine KOk.bind (ks := kinds env) (by rw [← h1]; exact evA_kinds cf es env1) fun avs env2 _ h2 => h2
theorem evL_kinds (cf : CallF) (k : Bool) : ∀ (es : List E) (env : Env), KOk (kinds env) (evL cf k es env)
  | [], env => by unfold evL; trivial
  | e :: es, env => by
    unfold evL
    refine (evE_kinds cf e env).bind fun d env1 _ h1 => ?_
    split
    · exact h1
    · split
      · split
        · rw [← h1]; exact evL_kinds cf k _ env1
        · exact h1
      · trivial
theorem evC_kinds (cf : CallF) : ∀ (es : List E) (env : Env), KOk (kinds env) (evC cf es env)
  | [], env => by unfold evC; exact rfl
  | e :: es, env => by
    unfold evC
    refine (evE_kinds cf e env).bind fun d env1 _ h1 => ?_
    split
    · exact h1
    · trivial
end
end Mp
set_option Elab.async false
set_option linter.all false
set_option maxRecDepth 100000
set_option maxHeartbeats 1000000
/-! a few operations that the layer lacks -/
namespace PySem
namespace AutoSeqM
open Builtin
theorem mp_mul1 (l : Addr) (items : Array Value) (n : Nat) (dd : Option Addr) (sl : Array (Option Value)) (x : Int) (u : Tok) (c0 : (decide (x < -(2 ^ 63)) || decide (x ≥ 2 ^ 63)) = false) (c1 : (items.isEmpty || x == 1) = true) :
    Meets (Builtin.«tuple.__mul__» ⟨[.ref l, .int x u], []⟩) (fun _ R s => s.heap.get? l = some { cls := .type "tuple", dict := dd, data := .seq items n, slots := sl } ∧
      R (.ok (.ret (Value.ref l))) s) :=
  .of_wp fun prog w A R s h => by
    obtain ⟨hp, g, d, tk, os⟩ := s
    obtain ⟨hl, h⟩ := h
    have f1 := AutoSeq1.idx_int
    wp_walk using wpAny_loadPart' hl
    refine wpAny_ite_false (decide_eq_false (by rw [c0]; exact Bool.false_ne_true)) ?_
    wp_walk using wpAny_loadPart' hl
    exact ⟨_, rfl, h⟩
theorem mp_mul0 (l : Addr) (items : Array Value) (n : Nat) (dd : Option Addr) (sl : Array (Option Value)) (u : Tok) (c1 : (items.isEmpty || (0 : Int) == 1) = false) :
    Meets (Builtin.«tuple.__mul__» ⟨[.ref l, .int 0 u], []⟩) (fun _ R s => s.heap.get? l = some { cls := .type "tuple", dict := dd, data := .seq items n, slots := sl } ∧
      R (.ok (.ret (Value.ref s.heap.objs.size))) { s with heap := s.heap.push { cls := Value.type "tuple", data := Data.seq #[] }, toks := s.toks }) :=
  .of_wp fun prog w A R s h => by
    obtain ⟨hp, g, d, tk, os⟩ := s
    obtain ⟨hl, h⟩ := h
    have f1 := AutoSeq1.idx_int
    have c0 : (decide ((0 : Int) < -(2 ^ 63)) || decide ((0 : Int) ≥ 2 ^ 63)) = false := by decide
    have c2 : (decide ((0 : Int) ≤ 0) || items.isEmpty) = true := by simp
    wp_walk using wpAny_loadPart' hl
    refine wpAny_ite_false (decide_eq_false (by rw [c1]; exact Bool.false_ne_true)) ?_
    wp_walk using wpAny_loadPart' hl
    repeat (first
      | (refine wpAny_ite_true (decide_eq_true c2) ?_; wp_walk using wpAny_loadPart' hl)
      | (refine wpAny_ite_true c2 ?_; wp_walk using wpAny_loadPart' hl))
    exact ⟨_, rfl, h⟩
end AutoSeqM
end PySem
namespace Mp
open PySem L2
section
variable {X : Cx}
/-- t * 1, () * k: the tuple itself -/
theorem op_rep1 : OpR X (binaryOp .Mult) (fun x y H Q => ∃ l k xs, x = .ref l ∧ y = .int k ∧ SqT X.K H l xs ∧ 0 ≤ k ∧ k ≤ 1000 ∧ (k = 1 ∨ xs = []) ∧ Q (.ref l) H) := by
  intro pins s σ H x y v u Q I rx ry h
  obtain ⟨l, k, xs, rfl, rfl, hT, h1, h2, hz, q⟩ := h
  cases rx
  obtain ⟨t, rfl⟩ := ry
  obtain ⟨its, r, ⟨⟨cls, dd, data, sl⟩, ho, hc, n, hd⟩, hs⟩ := I.tuple hT
  simp only at hc hd
  subst hc hd
  have c0 : (decide (k < -(2 ^ 63)) || decide (k ≥ 2 ^ 63)) = false := by
    simp only [Bool.or_eq_false_iff, decide_eq_false_iff_not]
    omega
  have c1 : (its.toArray.isEmpty || k == 1) = true := by
    rcases hz with rfl | rfl
    · simp
    · have : its = [] := List.eq_nil_of_length_eq_zero r.length.symm
      subst this; rfl
  exact wpAny_binaryOp_repeat_ref (T := "tuple") (U := "int") (by decide) ⟨_, ho, rfl⟩ (fun s' => typeIs_int s' k t) noFill_tuple_mul F.fills_int_mul F.slot_int_rmul repeat_tuple F.slot_int_index.lookup
    (call_meets F.slot_int_rmul (typeIs_int s k t) F.entry_int_rmul (F.args_int_rmul_2 _ _) (int_rmul_tuple k t l its.toArray n dd sl)
      ⟨ho, rfl, ⟨_, ho, rfl⟩, call_meets F.slot_tuple_mul ⟨_, ho, rfl⟩ F.entry_tuple_mul (F.args_tuple_mul_2 _ _) (AutoSeqM.mp_mul1 l its.toArray n dd sl k t c0 c1) ⟨ho, ⟨.ref l, H, I, rfl, q⟩⟩⟩)
/-- t * 0, t not empty: a new empty tuple -/
theorem op_rep0 : OpR X (binaryOp .Mult) (fun x y H Q => ∃ l xs, x = .ref l ∧ y = .int 0 ∧ SqT X.K H l xs ∧ xs ≠ [] ∧ ∀ p, H p = none → Q (.ref p) (upd H p (.tup []))) := by
  intro pins s σ H x y v u Q I rx ry h
  obtain ⟨l, xs, rfl, rfl, hT, hne, q⟩ := h
  cases rx
  obtain ⟨t, rfl⟩ := ry
  obtain ⟨its, r, ⟨⟨cls, dd, data, sl⟩, ho, hc, n, hd⟩, hs⟩ := I.tuple hT
  simp only at hc hd
  subst hc hd
  have hle : its.length = xs.length := r.length.symm
  have c1 : (its.toArray.isEmpty || (0 : Int) == 1) = false := by
    cases its with
    | nil => exact absurd (List.eq_nil_of_length_eq_zero hle.symm) hne
    | cons a b => rfl
  refine wpAny_binaryOp_repeat_ref (T := "tuple") (U := "int") (by decide) ⟨_, ho, rfl⟩ (fun s' => typeIs_int s' 0 t) noFill_tuple_mul F.fills_int_mul F.slot_int_rmul repeat_tuple F.slot_int_index.lookup
    (call_meets F.slot_int_rmul (typeIs_int s 0 t) F.entry_int_rmul (F.args_int_rmul_2 _ _) (int_rmul_tuple 0 t l its.toArray n dd sl)
      ⟨ho, rfl, ⟨_, ho, rfl⟩, call_meets F.slot_tuple_mul ⟨_, ho, rfl⟩ F.entry_tuple_mul (F.args_tuple_mul_2 _ _) (AutoSeqM.mp_mul0 l its.toArray n dd sl t c1) ⟨ho, ?_⟩⟩)
  refine ⟨.ref s.heap.objs.size, _, I.laid (t' := s.toks) (o := .tup []) (fun b ob q => Heap.get?_push_of_some _ q) (Nat.le_refl _) ?_, rfl, q _ (I.hok.fresh (Nat.le_refl _))⟩
  exact ⟨by rw [sizeLine_eq]; simp, [], .nil, PyProof.Rows.IsTup.new _ _⟩
end
end Mp
set_option Elab.async false
set_option linter.all false
set_option maxRecDepth 100000
set_option maxHeartbeats 1000000
/-! the operations on values keep to pev -/
namespace Mp
open PySem L2

/-- a value that is read: a list of ours may be read in place -/
def RepR (K : PySem.W.Frag) (O : PA') (H : Hp) (d : D) (v : V) : Prop := match d with
  | .lst ds => ∃ a vs, v = .ref a ∧ H a = some (.lst vs) ∧ Reps K O H ds vs
  | d => Rep K O H d v
theorem Rep.r {K : PySem.W.Frag} {O : PA'} {H : Hp} {d : D} {v : V} (h : Rep K O H d v) : RepR K O H d v := by
  cases d with
  | lst ds =>
    obtain ⟨a, vs, e, f, _, r⟩ := h
    exact ⟨a, vs, e, f, r⟩
  | _ => exact h
def RepRs (K : PySem.W.Frag) (O : PA') (H : Hp) : List D → List V → Prop
  | [], vs => vs = []
  | d :: ds, vs => ∃ v r, vs = v :: r ∧ RepR K O H d v ∧ RepRs K O H ds r
theorem Reps.r {K : PySem.W.Frag} {O : PA'} {H : Hp} : ∀ {ds : List D} {vs : List V}, Reps K O H ds vs → RepRs K O H ds vs
  | [], _, h => h
  | d :: ds, _, h => by
    obtain ⟨v, r, e, h1, h2⟩ := h
    exact ⟨v, r, e, h1.r, h2.r⟩
theorem repR_dp {K : PySem.W.Frag} {O : PA'} {H : Hp} {d : D} {v : V} (h : RepR K O H d v) : Dp K H v (toPD d) := by
  cases d with
  | lst ds =>
    obtain ⟨a, vs, rfl, f, r⟩ := h
    exact .lst (SqL.of f) (reps_dp r)
  | _ => exact rep_dp (O := O) h
/-- what an operation on values is to give: by pev, all else as it was -/
def VQ (K : PySem.W.Frag) (O : PA') (H : Hp) (Q : VK) (o : Option D) : Prop := ∃ d, o = some d ∧ ∀ v H', Same H H' → Rep K O H' d v → Q v H'
def rS (K : PySem.W.Frag) (f : List D → Option D) (vs : List V) (H : Hp) (Q : VK) : Prop := ∃ O ds, RepRs K O H ds vs ∧ (∀ a, O a → H a ≠ none) ∧ VQ K O H Q (f ds)
/-- the same for displays: nothing is read in place -/
def rP (K : PySem.W.Frag) (f : List D → Option D) (vs : List V) (H : Hp) (Q : VK) : Prop := ∃ O ds, Reps K O H ds vs ∧ (∀ a, O a → H a ≠ none) ∧ VQ K O H Q (f ds)

section
variable {K : PySem.W.Frag} {O : PA'} {H : Hp} {Q : VK} {f : List D → Option D}
theorem rS1 {x : V} (h : rS K f [x] H Q) : ∃ O a, RepR K O H a x ∧ (∀ a, O a → H a ≠ none) ∧ VQ K O H Q (f [a]) := by
  obtain ⟨O, ds, h1, h2, h3⟩ := h
  cases ds with
  | nil => cases h1
  | cons a r =>
    obtain ⟨v, r', e, p, q⟩ := h1
    cases e
    cases r with
    | nil => exact ⟨O, a, p, h2, h3⟩
    | cons b r => obtain ⟨_, _, e, _⟩ := q; cases e
theorem rS2 {x y : V} (h : rS K f [x, y] H Q) : ∃ O a b, RepR K O H a x ∧ RepR K O H b y ∧ (∀ a, O a → H a ≠ none) ∧ VQ K O H Q (f [a, b]) := by
  obtain ⟨O, ds, h1, h2, h3⟩ := h
  cases ds with
  | nil => cases h1
  | cons a r =>
    obtain ⟨v, r', e, p, q⟩ := h1
    cases e
    cases r with
    | nil => cases q
    | cons b r =>
      obtain ⟨v, r', e, p2, q⟩ := q
      cases e
      cases r with
      | nil => exact ⟨O, a, b, p, p2, h2, h3⟩
      | cons b r => obtain ⟨_, _, e, _⟩ := q; cases e
theorem rS0 (h : rS K f [] H Q) : ∃ O, (∀ a, O a → H a ≠ none) ∧ VQ K O H Q (f []) := by
  obtain ⟨O, ds, h1, h2, h3⟩ := h
  cases ds with
  | nil => exact ⟨O, h2, h3⟩
  | cons a r => obtain ⟨_, _, e, _⟩ := h1; cases e
theorem rS3 {x y z : V} (h : rS K f [x, y, z] H Q) : ∃ O a b c, RepR K O H a x ∧ RepR K O H b y ∧ RepR K O H c z ∧ (∀ a, O a → H a ≠ none) ∧ VQ K O H Q (f [a, b, c]) := by
  obtain ⟨O, ds, h1, h2, h3⟩ := h
  cases ds with
  | nil => cases h1
  | cons a r =>
    obtain ⟨v, r', e, p, q⟩ := h1
    cases e
    cases r with
    | nil => cases q
    | cons b r =>
      obtain ⟨v, r', e, p2, q⟩ := q
      cases e
      cases r with
      | nil => cases q
      | cons c r =>
        obtain ⟨v, r', e, p3, q⟩ := q
        cases e
        cases r with
        | nil => exact ⟨O, a, b, c, p, p2, p3, h2, h3⟩
        | cons b r => obtain ⟨_, _, e, _⟩ := q; cases e
theorem VQ.flat {d : D} {v : V} (h : VQ K O H Q (some d)) (r : Rep K O H d v) : Q v H := by
  obtain ⟨d', e, q⟩ := h
  cases e
  exact q v H (Same.refl H) r
theorem same_new {H : Hp} {p : Addr} {o : HO} (h : H p = none) : Same H (upd H p o) := fun b u e => by
  rw [upd_ne (ne_of_none e h)]; exact e
theorem VQ.newT {ds : List D} {vs : List V} (h : VQ K O H Q (some (.tup ds))) (r : Reps K O H ds vs) (ho : ∀ a, O a → H a ≠ none) {p : Addr} (hp : H p = none) : Q (.ref p) (upd H p (.tup vs)) := by
  obtain ⟨d', e, q⟩ := h
  cases e
  exact q _ _ (same_new hp) ⟨p, vs, rfl, .inl ⟨.inl upd_same, fun z => ho p z hp⟩, reps_ext (Ext.new hp) r⟩
theorem VQ.newL {ds : List D} {vs : List V} (h : VQ K O H Q (some (.lst ds))) (r : Reps K O H ds vs) (ho : ∀ a, O a → H a ≠ none) {p : Addr} (hp : H p = none) : Q (.ref p) (upd H p (.lst vs)) := by
  obtain ⟨d', e, q⟩ := h
  cases e
  exact q _ _ (same_new hp) ⟨p, vs, rfl, upd_same, fun z => ho p z hp, reps_ext (Ext.new hp) r⟩
theorem VQ.none (h : VQ K O H Q Option.none) : False := by
  obtain ⟨d, e, _⟩ := h
  cases e
theorem VQ.of_ite {c : Prop} [Decidable c] {x : Option D} (h : VQ K O H Q (if c then x else Option.none)) : c ∧ VQ K O H Q x := by
  by_cases e : c
  · rw [if_pos e] at h; exact ⟨e, h⟩
  · rw [if_neg e] at h; exact h.none.elim
end

theorem mul_ok {i j : Int} (h : mulOk i j = true) : PySem.IntMulOk i j := by
  unfold mulOk at h
  simp only [Bool.or_eq_true, decide_eq_true_eq] at h
  rcases h with (h | h) | h
  · exact CMulW.ok h
  · exact CMul.ok (.inl (by omega))
  · exact CMul.ok (.inr (by omega))
section
variable {X : Cx}
/-- two-place operators -/
theorem foldl_cat (x : Array Nat) : ∀ (n : Nat) (a : Array Nat), (List.replicate n x).foldl (· ++ ·) a = a ++ (List.replicate n x.toList).flatten.toArray
  | 0, a => by simp
  | n + 1, a => by
    rw [List.replicate_succ, List.foldl_cons, foldl_cat x n, List.replicate_succ, List.flatten_cons]
    apply Array.ext'
    simp
theorem rep_txt {prog : Program} {w : World} {A : Around} {E : Value → Shared → Prop} {s : Shared} {x : List Nat} {k : Int} {t u : Tok} {Q : Value → Shared → Prop} (hm : x.length ≤ 4000 ∧ 1 ≤ k ∧ k ≤ 4000)
    (h1 : ∀ tk, Q (.str ⟨(List.replicate k.toNat x).flatten.toArray⟩ tk) { s with toks := s.toks + 1 }) (h2 : (List.replicate k.toNat x).flatten = x → Q (.str ⟨x.toArray⟩ t) s) : wpAny (model prog w) A (binaryOp .Mult (.str ⟨x.toArray⟩ t) (.int k u)) Q E s := by
  have hl : (⟨x.toArray⟩ : Str).length = x.length := by simp [Str.length]
  refine P.mul_str (by simp; omega) (fun _ _ => ?_) (fun _ _ => ?_) ?_
  · rw [hl]
    have : (4000 : Int) ≤ (2 ^ 63 - 1) / k := by
      apply (Int.le_ediv_iff_mul_le (by omega)).mpr
      omega
    omega
  · have h3 : x.length * k.toNat ≤ 4000 * 4000 := Nat.mul_le_mul hm.1 (by omega)
    show decide ((⟨x.toArray⟩ : Str).length * k.toNat > sizeLine) = false
    rw [hl, sizeLine_eq]
    exact decide_eq_false (by omega)
  · rw [if_neg (by omega)]
    split
    · rename_i c
      refine h2 ?_
      simp only [Bool.or_eq_true, beq_iff_eq] at c
      rcases c with c | c
      · subst c; simp
      · rw [hl] at c
        have := List.eq_nil_of_length_eq_zero c
        subst this
        simp
    · have e : (List.replicate k.toNat (⟨x.toArray⟩ : Str).cps).foldl (· ++ ·) #[] = (List.replicate k.toNat x).flatten.toArray := by
        rw [foldl_cat]
        simp
      have h3 : x.length * k.toNat ≤ 4000 * 4000 := Nat.mul_le_mul hm.1 (by omega)
      rw [e]
      refine ⟨?_, h1 _⟩
      show (List.replicate k.toNat x).flatten.toArray.size ≤ sizeLine
      rw [sizeLine_eq, List.size_toArray, List.length_flatten, List.map_replicate, List.sum_replicate_nat, Nat.mul_comm]
      omega
theorem op_bin (op : Operator) : OpR X (binaryOp op) (fun x y H Q => rS X.K (pev (.bin op)) [x, y] H Q) := by
  intro pins s σ H x y v u Q I rx ry h
  obtain ⟨O, a, b, ha, hb, ho, q⟩ := rS2 h
  replace q : VQ X.K O H Q (binEv op a b) := q
  cases op
  case Add =>
    cases a <;> cases b <;> first | exact q.none.elim | skip
    · cases ha; cases hb
      exact op_add pins s σ H _ _ v u Q I rx ry ⟨_, _, rfl, rfl, q.flat rfl⟩
    · rename_i xs ys
      cases ha; cases hb
      replace q : VQ X.K O H Q (if xs.length + ys.length ≤ 16777216 then some (.str (xs ++ ys)) else Option.none) := q
      obtain ⟨hl, q⟩ := q.of_ite
      refine op_add_str pins s σ H _ _ v u Q I rx ry ⟨_, _, rfl, rfl, ?_, q.flat ?_⟩
      · have e : sizeLine = 16777216 := rfl
        simp only [Str.length, List.size_toArray]; omega
      · show V.str _ = V.str _
        congr 1
        show Str.mk _ = Str.mk _
        simp
    · rename_i xs ys
      obtain ⟨p, vs, rfl, f1, r1⟩ := ha
      obtain ⟨p', ws, rfl, f2, r2⟩ := hb
      replace q : VQ X.K O H Q (if xs.length + ys.length ≤ 16777216 then some (.tup (xs ++ ys)) else Option.none) := q
      obtain ⟨hl, q⟩ := q.of_ite
      refine op_catA pins s σ H _ _ v u Q I rx ry ⟨p, p', vs, ws, rfl, rfl, f1.sq, f2.sq, ?_, fun e => ?_, fun _ e => ?_, fun _ _ t ht => q.newT (reps_append r1 r2) ho ht⟩
      · have e : sizeLine = 16777216 := rfl
        rw [reps_len r1, reps_len r2]; omega
      · have e1 : xs = [] := by
          have := reps_len r1
          rw [e] at this
          exact List.eq_nil_of_length_eq_zero this.symm
        subst e1
        exact q.flat ⟨p', ws, rfl, f2, r2⟩
      · have e1 : ys = [] := by
          have := reps_len r2
          rw [e] at this
          exact List.eq_nil_of_length_eq_zero this.symm
        subst e1
        rw [List.append_nil] at q
        exact q.flat ⟨p, vs, rfl, f1, r1⟩
    · rename_i xs ys
      obtain ⟨p, vs, rfl, f1, r1⟩ := ha
      obtain ⟨p', ws, rfl, f2, r2⟩ := hb
      replace q : VQ X.K O H Q (if xs.length + ys.length ≤ 16777216 then some (.lst (xs ++ ys)) else Option.none) := q
      obtain ⟨hl, q⟩ := q.of_ite
      refine op_cat pins s σ H _ _ v u Q I rx ry ⟨p, p', vs, ws, rfl, rfl, f1, f2, ?_, fun t ht => q.newL (reps_append r1 r2) ho ht⟩
      have e : sizeLine = 16777216 := rfl
      rw [reps_len r1, reps_len r2]; omega
  case Sub =>
    cases a <;> cases b <;> first | exact q.none.elim | skip
    cases ha; cases hb
    exact op_sub pins s σ H _ _ v u Q I rx ry ⟨_, _, rfl, rfl, q.flat rfl⟩
  case Mult =>
    cases a <;> cases b <;> first | exact q.none.elim | skip
    · rename_i i j
      cases ha; cases hb
      replace q := VQ.of_ite (c := mulOk i j = true) q
      obtain ⟨hm, q⟩ := q
      obtain ⟨t, rfl⟩ := rx
      obtain ⟨t', rfl⟩ := ry
      exact PyProof.Rows.mul_int ⟨.int (i * j), H, I.tok _, ⟨_, rfl⟩, q.flat rfl⟩ (mul_ok hm)
    · rename_i xs k
      cases ha; cases hb
      replace q := VQ.of_ite (c := xs.length ≤ 4000 ∧ 1 ≤ k ∧ k ≤ 4000) q
      obtain ⟨hm, q⟩ := q
      obtain ⟨t, rfl⟩ := rx
      obtain ⟨t', rfl⟩ := ry
      exact rep_txt hm (fun tk => ⟨.str _, H, I.tok _, ⟨_, rfl⟩, q.flat rfl⟩) fun e => ⟨.str _, H, I, ⟨_, rfl⟩, by rw [e] at q; exact q.flat rfl⟩
    · rename_i xs k
      obtain ⟨p, vs, rfl, f1, r1⟩ := ha
      cases hb
      replace q := VQ.of_ite (c := xs.length ≤ 1000 ∧ 0 ≤ k ∧ k ≤ 1000) q
      obtain ⟨hm, q⟩ := q
      have hvs := reps_len r1
      by_cases h1 : k = 1 ∨ xs = []
      · have e : (List.replicate k.toNat xs).flatten = xs := by
          rcases h1 with h1 | h1
          · subst h1; simp
          · subst h1; simp
        rw [e] at q
        exact op_rep1 pins s σ H _ _ v u Q I rx ry ⟨p, k, vs, rfl, rfl, f1.sq, by omega, by omega, h1.imp id (fun z => by subst z; exact List.eq_nil_of_length_eq_zero hvs), q.flat ⟨p, vs, rfl, f1, r1⟩⟩
      · have h2 : k ≠ 1 ∧ xs ≠ [] := ⟨fun z => h1 (.inl z), fun z => h1 (.inr z)⟩
        have hne : vs ≠ [] := fun z => h2.2 (by subst z; exact List.eq_nil_of_length_eq_zero hvs.symm)
        by_cases h0 : k = 0
        · subst h0
          have q : VQ X.K O H Q (some (.tup [])) := q
          exact op_rep0 pins s σ H _ _ v u Q I rx ry ⟨p, vs, rfl, rfl, f1.sq, hne, fun t ht => q.newT (ds := []) (vs := []) rfl ho ht⟩
        exact op_repT pins s σ H _ _ v u Q I rx ry ⟨p, k, vs, rfl, rfl, f1.sq, hne, by omega, hm.2.2, by omega, fun t ht => q.newT (reps_flat k.toNat r1) ho ht⟩
    · rename_i xs k
      obtain ⟨p, vs, rfl, f1, r1⟩ := ha
      cases hb
      replace q := VQ.of_ite (c := xs.length ≤ 4000 ∧ 0 ≤ k ∧ k ≤ 4000) q
      obtain ⟨hm, q⟩ := q
      refine op_rep pins s σ H _ _ v u Q I rx ry ⟨p, k, vs, rfl, rfl, f1, by omega, by omega, ?_, fun t ht => q.newL (reps_flat k.toNat r1) ho ht⟩
      have e : sizeLine = 16777216 := rfl
      have h1 : vs.length * k.toNat ≤ 4000 * 4000 := Nat.mul_le_mul (by rw [reps_len r1]; exact hm.1) (by omega)
      omega
  case FloorDiv =>
    cases a <;> cases b <;> first | exact q.none.elim | skip
    rename_i i j
    cases ha; cases hb
    replace q := VQ.of_ite (c := divOk j = true) q
    obtain ⟨hm, q⟩ := q
    unfold divOk at hm
    simp only [Bool.and_eq_true, Bool.or_eq_true, decide_eq_true_eq] at hm
    rcases hm with ⟨h0, h1 | h1⟩
    · exact op_fdiv pins s σ H _ _ v u Q I rx ry ⟨_, _, rfl, rfl, ⟨h0, h1⟩, q.flat rfl⟩
    · exact op_fdivW pins s σ H _ _ v u Q I rx ry ⟨_, _, rfl, rfl, ⟨h0, h1⟩, q.flat rfl⟩
  case Mod =>
    cases a <;> cases b <;> first | exact q.none.elim | skip
    rename_i i j
    cases ha; cases hb
    replace q := VQ.of_ite (c := 0 < j) q
    obtain ⟨hm, q⟩ := q
    exact op_mod pins s σ H _ _ v u Q I rx ry ⟨_, _, rfl, rfl, hm, q.flat rfl⟩
  case Pow =>
    cases a <;> cases b <;> first | exact q.none.elim | skip
    rename_i i j
    cases ha; cases hb
    replace q := VQ.of_ite (c := 0 ≤ j ∧ j ≤ 1000 ∧ i.natAbs < 18446744073709551616) q
    obtain ⟨hm, q⟩ := q
    exact op_pow pins s σ H _ _ v u Q I rx ry ⟨_, _, rfl, rfl, ⟨hm.1, by omega, hm.2.2⟩, q.flat rfl⟩
  all_goals exact q.none.elim
end
end Mp
set_option Elab.async false
set_option linter.all false
set_option maxRecDepth 100000
set_option maxHeartbeats 1000000
/-! comparisons, subscripts, slices, built-ins keep to pev -/
namespace Mp
open PySem L2

def VB (K : PySem.W.Frag) (O : PA') (H : Hp) (Q : VK) (o : Option Bool) : Prop := ∃ b, o = some b ∧ Q (.bl b) H
section
variable {K : PySem.W.Frag} {O : PA'} {H : Hp} {Q : VK}
theorem VQ.b {o : Option Bool} (h : VQ K O H Q (o.map .bl)) : VB K O H Q o := by
  obtain ⟨d, e, q⟩ := h
  cases o with
  | none => cases e
  | some b => cases e; exact ⟨b, rfl, q _ _ (Same.refl H) rfl⟩
theorem VB.none (h : VB K O H Q Option.none) : False := by
  obtain ⟨d, e, _⟩ := h
  cases e
theorem VB.some {b : Bool} (h : VB K O H Q (some b)) : Q (.bl b) H := by
  obtain ⟨d, e, q⟩ := h
  cases e; exact q
theorem VB.map {o : Option Bool} {f : Bool → Bool} (h : VB K O H Q (o.map f)) : VB K O H (fun v H' => ∃ b, v = .bl b ∧ Q (.bl (f b)) H') o := by
  obtain ⟨d, e, q⟩ := h
  cases o with
  | none => cases e
  | some b => cases e; exact ⟨b, rfl, b, rfl, q⟩
theorem VB.of_ite {c : Prop} [Decidable c] {x : Option Bool} (h : VB K O H Q (if c then x else Option.none)) : c ∧ VB K O H Q x := by
  by_cases e : c
  · rw [if_pos e] at h; exact ⟨e, h⟩
  · rw [if_neg e] at h; exact h.none.elim
theorem flat_v {d : D} {v : V} (h : RepR K O H d v) (f : flat d = true) : flatV v = true := by
  cases d <;> simp [flat] at f <;> (cases h; rfl)
theorem eqv_v {x y : D} {v w : V} (hx : RepR K O H x v) (hy : RepR K O H y w) (fx : flat x = true) (fy : flat y = true) : eqV w v = eqv y x := by
  cases x <;> simp [flat] at fx <;> cases y <;> simp [flat] at fy <;> (cases hx; cases hy; try rfl)
theorem reps_flatV : ∀ {ds : List D} {vs : List V}, Reps K O H ds vs → ds.all flat = true → vs.all flatV = true
  | [], _, h, _ => by cases h; rfl
  | d :: ds, _, h, f => by
    obtain ⟨v, r, rfl, h1, h2⟩ := h
    simp only [List.all_cons, Bool.and_eq_true] at f ⊢
    exact ⟨flat_v h1.r f.1, reps_flatV h2 f.2⟩
theorem reps_inV {x : D} {v : V} (hx : RepR K O H x v) (fx : flat x = true) : ∀ {ds : List D} {vs : List V}, Reps K O H ds vs → ds.all flat = true → inV v vs = ds.any fun y => eqv y x
  | [], _, h, _ => by cases h; rfl
  | d :: ds, _, h, f => by
    obtain ⟨w, r, rfl, h1, h2⟩ := h
    simp only [List.all_cons, Bool.and_eq_true] at f
    have ih := reps_inV hx fx h2 f.2
    unfold inV at ih ⊢
    rw [List.any_cons, List.any_cons, ih, eqv_v hx h1.r fx f.1]
end
section
variable {X : Cx}
theorem op_memT : OpR X (compareOp .In) (fun x y H Q => ∃ O a b, RepR X.K O H a x ∧ RepR X.K O H b y ∧ VB X.K O H Q (memEv a b)) := by
  intro pins s σ H x y v u Q I rx ry ⟨O, a, b, ha, hb, q⟩
  cases b with
  | str t =>
    cases a with
    | str c =>
      cases c with
      | nil => exact q.none.elim
      | cons c r =>
        cases r with
        | nil =>
          cases ha; cases hb
          exact op_in_sign pins s σ H _ _ v u Q I rx ry ⟨c, ⟨t.toArray⟩, rfl, rfl, q.some⟩
        | cons _ _ => exact q.none.elim
    | _ => exact q.none.elim
  | tup ys =>
    replace q : VB X.K O H Q (if flat a && ys.all flat then some (ys.any fun y => eqv y a) else none) := by
      cases a with
      | str c => cases c with
        | nil => exact q
        | cons c r => cases r <;> exact q
      | _ => exact q
    obtain ⟨f, q⟩ := q.of_ite
    simp only [Bool.and_eq_true] at f
    obtain ⟨p, vs, rfl, f1, r1⟩ := hb
    exact op_in_seq pins s σ H _ _ v u Q I rx ry ⟨p, vs, rfl, .inr f1.sq, flat_v ha f.1, reps_flatV r1 f.2, by
      show Q (.bl (inV x vs)) H
      rw [reps_inV ha f.1 r1 f.2]; exact q.some⟩
  | lst ys =>
    replace q : VB X.K O H Q (if flat a && ys.all flat then some (ys.any fun y => eqv y a) else none) := by
      cases a with
      | str c => cases c with
        | nil => exact q
        | cons c r => cases r <;> exact q
      | _ => exact q
    obtain ⟨f, q⟩ := q.of_ite
    simp only [Bool.and_eq_true] at f
    obtain ⟨p, vs, rfl, f1, r1⟩ := hb
    exact op_in_seq pins s σ H _ _ v u Q I rx ry ⟨p, vs, rfl, .inl (SqL.of f1), flat_v ha f.1, reps_flatV r1 f.2, by
      show Q (.bl (inV x vs)) H
      rw [reps_inV ha f.1 r1 f.2]; exact q.some⟩
  | _ => 
    exfalso
    cases a with
    | str c => cases c with
      | nil => exact q.none
      | cons c r => cases r <;> exact q.none
    | _ => exact q.none
theorem op_memN : OpR X (compareOp .NotIn) (fun x y H Q => ∃ O a b, RepR X.K O H a x ∧ RepR X.K O H b y ∧ VB X.K O H Q ((memEv a b).map (!·))) := by
  intro pins s σ H x y v u Q I rx ry ⟨O, a, b, ha, hb, q⟩
  replace q := q.map
  cases b with
  | str t =>
    cases a with
    | str c =>
      cases c with
      | nil => exact q.none.elim
      | cons c r =>
        cases r with
        | nil =>
          cases ha; cases hb
          obtain ⟨_, e, q⟩ := q.some
          cases e
          exact op_notIn_sign pins s σ H _ _ v u Q I rx ry ⟨c, ⟨t.toArray⟩, rfl, rfl, q⟩
        | cons _ _ => exact q.none.elim
    | _ => exact q.none.elim
  | tup ys =>
    replace q : VB X.K O H (fun v H' => ∃ b, v = V.bl b ∧ Q (V.bl !b) H') (if flat a && ys.all flat then some (ys.any fun y => eqv y a) else none) := by
      cases a with
      | str c => cases c with
        | nil => exact q
        | cons c r => cases r <;> exact q
      | _ => exact q
    obtain ⟨f, q⟩ := q.of_ite
    simp only [Bool.and_eq_true] at f
    obtain ⟨p, vs, rfl, f1, r1⟩ := hb
    obtain ⟨_, e, q⟩ := q.some
    cases e
    exact op_notIn_seq pins s σ H _ _ v u Q I rx ry ⟨p, vs, rfl, .inr f1.sq, flat_v ha f.1, reps_flatV r1 f.2, by
      show Q (.bl (!inV x vs)) H
      rw [reps_inV ha f.1 r1 f.2]; exact q⟩
  | lst ys =>
    replace q : VB X.K O H (fun v H' => ∃ b, v = V.bl b ∧ Q (V.bl !b) H') (if flat a && ys.all flat then some (ys.any fun y => eqv y a) else none) := by
      cases a with
      | str c => cases c with
        | nil => exact q
        | cons c r => cases r <;> exact q
      | _ => exact q
    obtain ⟨f, q⟩ := q.of_ite
    simp only [Bool.and_eq_true] at f
    obtain ⟨p, vs, rfl, f1, r1⟩ := hb
    obtain ⟨_, e, q⟩ := q.some
    cases e
    exact op_notIn_seq pins s σ H _ _ v u Q I rx ry ⟨p, vs, rfl, .inl (SqL.of f1), flat_v ha f.1, reps_flatV r1 f.2, by
      show Q (.bl (!inV x vs)) H
      rw [reps_inV ha f.1 r1 f.2]; exact q⟩
  | _ => 
    exfalso
    cases a with
    | str c => cases c with
      | nil => exact q.none
      | cons c r => cases r <;> exact q.none
    | _ => exact q.none
theorem op_lt_ {op : CmpOp} (h1 : OpR X (compareOp op) (rI0 fun i j => .bl (decide (i < j)))) (h2 : OpR X (compareOp op) (fun x y H Q => ∃ i j, x = .str i ∧ y = .str j ∧ Q (.bl (decide (i.cps.toList < j.cps.toList))) H)) :
    OpR X (compareOp op) (fun x y H Q => ∃ O a b, RepR X.K O H a x ∧ RepR X.K O H b y ∧ VB X.K O H Q (ltEv a b)) := by
  intro pins s σ H x y v u Q I rx ry ⟨O, a, b, ha, hb, q⟩
  cases a <;> cases b <;> first | exact q.none.elim | skip
  · cases ha; cases hb
    exact h1 pins s σ H _ _ v u Q I rx ry ⟨_, _, rfl, rfl, q.some⟩
  · cases ha; cases hb
    refine h2 pins s σ H _ _ v u Q I rx ry ⟨_, _, rfl, rfl, ?_⟩
    have := q.some
    simpa using this
theorem op_gt_ {op : CmpOp} (h1 : OpR X (compareOp op) (rI0 fun i j => .bl (decide (j < i)))) (h2 : OpR X (compareOp op) (fun x y H Q => ∃ i j, x = .str i ∧ y = .str j ∧ Q (.bl (decide (j.cps.toList < i.cps.toList))) H)) :
    OpR X (compareOp op) (fun x y H Q => ∃ O a b, RepR X.K O H a x ∧ RepR X.K O H b y ∧ VB X.K O H Q (ltEv b a)) := by
  intro pins s σ H x y v u Q I rx ry ⟨O, a, b, ha, hb, q⟩
  cases b <;> cases a <;> first | exact q.none.elim | skip
  · cases ha; cases hb
    exact h1 pins s σ H _ _ v u Q I rx ry ⟨_, _, rfl, rfl, q.some⟩
  · cases ha; cases hb
    refine h2 pins s σ H _ _ v u Q I rx ry ⟨_, _, rfl, rfl, ?_⟩
    have := q.some
    simpa using this
theorem op_cmp_ (hu : X.A.units + 64 < cLine) (op : CmpOp) : OpR X (compareOp op) (fun x y H Q => ∃ O a b, RepR X.K O H a x ∧ RepR X.K O H b y ∧ VB X.K O H Q (cmpEv op a b)) := by
  cases op
  case Eq =>
    intro pins s σ H x y v u Q I rx ry ⟨O, a, b, ha, hb, q⟩
    obtain ⟨f, q⟩ := VB.of_ite (c := (shaped a && shaped b) = true) q
    simp only [Bool.and_eq_true] at f
    exact op_eqD hu pins s σ H x y v u Q I rx ry ⟨_, _, repR_dp ha, repR_dp hb, f.1, f.2, q.some⟩
  case NotEq =>
    intro pins s σ H x y v u Q I rx ry ⟨O, a, b, ha, hb, q⟩
    replace q := VB.map q
    obtain ⟨f, q⟩ := VB.of_ite (c := (shaped a && shaped b) = true) q
    simp only [Bool.and_eq_true] at f
    obtain ⟨_, e, q⟩ := q.some
    cases e
    exact op_neD hu pins s σ H x y v u Q I rx ry ⟨_, _, repR_dp ha, repR_dp hb, f.1, f.2, q⟩
  case Lt => exact op_lt_ op_lt op_lt_str
  case Gt => exact op_gt_ op_gt (by
    intro pins s σ H x y v u Q I rx ry ⟨i, j, e1, e2, q⟩
    exact op_gt_str pins s σ H x y v u Q I rx ry ⟨i, j, e1, e2, q⟩)
  case LtE =>
    intro pins s σ H x y v u Q I rx ry ⟨O, a, b, ha, hb, q⟩
    cases a <;> cases b <;> first | exact q.none.elim | skip
    cases ha; cases hb
    exact op_le pins s σ H _ _ v u Q I rx ry ⟨_, _, rfl, rfl, q.some⟩
  case GtE =>
    intro pins s σ H x y v u Q I rx ry ⟨O, a, b, ha, hb, q⟩
    cases b <;> cases a <;> first | exact q.none.elim | skip
    cases ha; cases hb
    exact op_ge pins s σ H _ _ v u Q I rx ry ⟨_, _, rfl, rfl, q.some⟩
  case Is =>
    intro pins s σ H x y v u Q I rx ry ⟨O, a, b, ha, hb, q⟩
    cases b with
    | non =>
      cases hb
      refine op_isN pins s σ H _ _ v u Q I rx ry ⟨rfl, ?_⟩
      have q := q.some
      cases a <;> (first | (cases ha; exact q) | (obtain ⟨p, vs, rfl, _⟩ := ha; exact q) | exact ha.elim | (obtain ⟨p, rfl, _⟩ := ha; exact q))
    | bl j =>
      cases a <;> first | exact q.none.elim | skip
      cases ha; cases hb
      exact op_isBl pins s σ H _ _ v u Q I rx ry ⟨_, _, rfl, rfl, q.some⟩
    | _ => cases a <;> exact q.none.elim
  case IsNot =>
    intro pins s σ H x y v u Q I rx ry ⟨O, a, b, ha, hb, q⟩
    replace q := VB.map q
    cases b with
    | non =>
      cases hb
      refine op_notN pins s σ H _ _ v u Q I rx ry ⟨rfl, ?_⟩
      obtain ⟨_, e, q⟩ := q.some
      cases e
      cases a <;> (first | (cases ha; exact q) | (obtain ⟨p, vs, rfl, _⟩ := ha; exact q) | exact ha.elim | (obtain ⟨p, rfl, _⟩ := ha; exact q))
    | bl j =>
      cases a <;> first | exact q.none.elim | skip
      cases ha; cases hb
      obtain ⟨_, e, q⟩ := q.some
      cases e
      exact op_notBl pins s σ H _ _ v u Q I rx ry ⟨_, _, rfl, rfl, q⟩
    | _ => cases a <;> exact q.none.elim
  case In => exact op_memT
  case NotIn => exact op_memN
theorem op_cmp' (hu : X.A.units + 64 < cLine) (op : CmpOp) : OpR X (compareOp op) (fun x y H Q => rS X.K (pev (.cmp op)) [x, y] H Q) := by
  intro pins s σ H x y v u Q I rx ry h
  obtain ⟨O, a, b, ha, hb, ho, q⟩ := rS2 h
  exact op_cmp_ hu op pins s σ H x y v u Q I rx ry ⟨O, a, b, ha, hb, VQ.b q⟩
/-! ### subscripts, slices -/
theorem ixN_eq (n : Nat) (i : Int) : ixN n i = L2.ixN n i := rfl
theorem reps_at {K : PySem.W.Frag} {O : PA'} {H : Hp} {xs : List D} {vs : List V} {i : Int} {d : D} (r : Reps K O H xs vs) (h : getIx xs i = some d) : ∃ v, atI vs i = some v ∧ Rep K O H d v := by
  unfold getIx at h
  unfold atI
  rw [reps_len r, ← ixN_eq]
  cases e : ixN xs.length i with
  | none => rw [e] at h; cases h
  | some j =>
    rw [e] at h
    exact reps_get r h
theorem ix_ : IxR X (fun x y H Q => rS X.K (pev .idx) [x, y] H Q) := by
  intro e1 e2 pins s σ H x y v u Q I rx ry h hsub
  obtain ⟨O, a, b, ha, hb, ho, q⟩ := rS2 h
  cases a <;> cases b <;> first | exact q.none.elim | skip
  · rename_i t i
    cases ha; cases hb
    obtain ⟨hl, q⟩ := VQ.of_ite (c := t.length ≤ 16777216) q
    obtain ⟨d, e, q⟩ := q
    cases hx : getIx t i with
    | none => rw [hx] at e; cases e
    | some c =>
      rw [hx] at e
      simp only [Option.map_some, Option.some.injEq] at e
      subst e
      refine ix_str e1 e2 pins s σ H _ _ v u Q I rx ry ⟨_, i, c, rfl, rfl, ?_, ?_, q _ _ (Same.refl H) rfl⟩ hsub
      · have e : sizeLine = 16777216 := rfl
        simpa [Str.length, e] using hl
      · exact hx
  · rename_i xs i
    obtain ⟨p, vs, rfl, f1, r1⟩ := ha
    cases hb
    obtain ⟨d, e, q⟩ := q
    obtain ⟨w, hw, rw_⟩ := reps_at r1 e
    exact ix_tup e1 e2 pins s σ H _ _ v u Q I rx ry ⟨p, vs, i, w, rfl, rfl, f1.sq, hw, q _ _ (Same.refl H) rw_⟩ hsub
  · rename_i xs i
    obtain ⟨p, vs, rfl, f1, r1⟩ := ha
    cases hb
    obtain ⟨d, e, q⟩ := q
    obtain ⟨w, hw, rw_⟩ := reps_at r1 e
    exact ix_list e1 e2 pins s σ H _ _ v u Q I rx ry ⟨p, vs, i, w, rfl, rfl, SqL.of f1, hw, q _ _ (Same.refl H) rw_⟩ hsub
theorem reps_cut {K : PySem.W.Frag} {O : PA'} {H : Hp} {xs : List D} {vs : List V} (r : Reps K O H xs vs) (lo hi : Option Int) : Reps K O H (cut xs lo hi) (cutV vs lo hi) := by
  unfold cut cutV
  rw [reps_len r]
  exact reps_take _ (reps_drop _ r)
theorem sl_ : SlR X (fun x lo hi H Q => ∃ O d, RepR X.K O H d x ∧ (∀ a, O a → H a ≠ none) ∧ VQ X.K O H Q (slcEv d lo hi)) := by
  intro pins s σ H x v vl vu lo hi sl Q I rx hs pl pu h
  obtain ⟨O, d, hd, ho, q⟩ := h
  cases d with
  | str t =>
    cases hd
    obtain ⟨hl, q⟩ := VQ.of_ite (c := t.length ≤ 16777216) q
    refine sl_str pins s σ H _ v vl vu lo hi sl Q I rx hs pl pu ⟨_, rfl, ?_, q.flat ?_⟩
    · have e : sizeLine = 16777216 := rfl
      simpa [Str.length, e] using hl
    · rfl
  | tup xs =>
    obtain ⟨p, vs, rfl, f1, r1⟩ := hd
    have rc := reps_cut r1 lo hi
    refine sl_tupA pins s σ H _ v vl vu lo hi sl Q I rx hs pl pu ⟨p, vs, rfl, f1.sq, fun ⟨h1, h2⟩ => ?_, fun _ t ht => VQ.newT q rc ho ht⟩
    have e1 : cut xs lo hi = xs := by
      unfold cut
      rw [← reps_len r1, h1, h2, reps_len r1]
      simp
    have q : VQ X.K O H Q (some (.tup (cut xs lo hi))) := q
    rw [e1] at q
    exact q.flat ⟨p, vs, rfl, f1, r1⟩
  | lst xs =>
    obtain ⟨p, vs, rfl, f1, r1⟩ := hd
    exact sl_list pins s σ H _ v vl vu lo hi sl Q I rx hs pl pu ⟨p, vs, rfl, SqL.of f1, fun t ht => VQ.newL q (reps_cut r1 lo hi) ho ht⟩
  | _ => exact q.none.elim
end
end Mp
set_option Elab.async false
set_option linter.all false
set_option maxRecDepth 100000
set_option maxHeartbeats 4000000
/-! list(text), tuple(text) -/
namespace Mp
open PySem L2
def signsV (l : List Nat) : List V := l.map fun c => V.str ⟨#[c]⟩
theorem signs_vals {l : List Nat} {acc : Array Value} (h : ItemsOf (SignAt ⟨l.toArray⟩) acc (⟨l.toArray⟩ : Str).cps.size) : Vals (signsV l) acc.toList := by
  obtain ⟨h1, h2⟩ := h
  have hl : acc.toList.length = l.length := by
    rw [Array.length_toList, h1]
    exact List.size_toArray
  have at_ : ∀ (j : Nat) (v : Value), acc.toList[j]? = some v → ∃ c u, l[j]? = some c ∧ v = .str ⟨#[c]⟩ u := fun j v e => by
    obtain ⟨c, u, e1, e2⟩ := h2 j v (by simpa using e)
    exact ⟨c, u, by simpa using e1, e2⟩
  generalize acc.toList = ws at hl at_
  clear h1 h2
  induction l generalizing ws with
  | nil =>
    have : ws = [] := List.length_eq_zero_iff.mp (by simpa using hl)
    subst this
    exact .nil
  | cons c l ih =>
    cases ws with
    | nil => simp at hl
    | cons w ws =>
      obtain ⟨c', u, e1, e2⟩ := at_ 0 w rfl
      simp at e1
      subst e1 e2
      exact .cons ⟨u, rfl⟩ (ih ws (by simpa using hl) fun j v e => at_ (j + 1) v (by simpa using e))
section
variable {X : Cx}
theorem call_list_txt (hc : X.calm = true) : CallR X (.type "list") (fun xs H Q => ∃ l : List Nat, xs = [.str ⟨l.toArray⟩] ∧ l.length ≤ sizeLine ∧ ∀ p, H p = none → Q (.ref p) (upd H p (.lst (signsV l)))) := by
  intro pins s σ H xs us Q I r h
  obtain ⟨l, rfl, hl, q⟩ := h
  obtain ⟨u, rfl, t, rfl⟩ := vals1 r
  refine call_list_str (I.ok.hd hc) ⟨l.toArray⟩ t (hn := by simpa using hl) fun h' tk acc c' kp e it => ?_
  refine ⟨.ref s.heap.objs.size, _, I.laid (t' := tk) kp (Nat.le_refl _) (show ObjOk X.prog X.w _ h' _ (.lst (signsV l)) from ⟨by unfold signsV; rw [List.length_map]; exact hl, acc.toList, c', signs_vals it, ?_⟩), rfl, q _ (I.hok.fresh (Nat.le_refl _))⟩
  rw [e]
end
section
variable {prog : Program} {w : World} {A : Around} {E : Value → Shared → Prop} {s : Shared}
theorem code_tup_txt {x : Str} {t : Tok} {Q1 : Value → Shared → Prop} (hh : A.handled = none) (hq : ∀ (s' : Shared) (acc : Array Value), (∀ b o, s.heap.get? b = some o → s'.heap.get? b = some o) → s'.gens = s.gens → s'.drawn = s.drawn → s'.os = s.os → ItemsOf (SignAt x) acc x.cps.size → Q1 (.ref s'.heap.objs.size) { s' with heap := s'.heap.push { cls := .type "tuple", data := .seq acc } })
    (hz : x.cps.size ≤ sizeLine) : codeAny (model prog w) A (.call (.builtin "tuple.__new__") ⟨[.type "tuple", .str x t], []⟩) (wants Q1 E) s := by
  refine codeAny_of_tree ?_
  show wpAny _ A.in1 (do checkBuiltinCall "tuple.__new__" ⟨[.type "tuple", .str x t], []⟩; again (.builtin "tuple.__new__" ⟨[.type "tuple", .str x t], []⟩)) _ _ s
  refine wpAny_bind (wpAny_of_eq (F.newCall_tuple_1 _) (wpAny_pure ⟨plainId_quiet F.plain_tuple_new _, codeAny_builtin F.entry_tuple_new ?_⟩))
  rw [Around.under_plainId F.plain_tuple_new _]
  have hsub := sub_tuple_self
  have hinit := init_tuple_lookup
  have hmh := madeHere_tuple
  have hTI : s.TypeIs (.str x t) "str" := rfl
  wp_walk using wpAny_typeOf hTI, wpAny_collect_str (A := A.in1) (hn := hz) hh x t
  intro s' acc k1 k2 k3 k4 it
  show wpAny _ _ (Builtin.Tuple.tupleExact acc.toList.toArray >>= fun v => ret v) _ _ _
  unfold Builtin.Tuple.tupleExact
  refine wpAny_bind (wpAny_newObj_type ?_ (by show acc.toList.toArray.size ≤ sizeLine; simp only [Array.toArray_toList]; rw [it.1]; exact hz))
  refine wpAny_pure ?_
  have e : acc.toList.toArray = acc := by simp
  rw [e]
  exact hq s' acc k1 k2 k3 k4 it
theorem call_tup_txt {x : Str} {t : Tok} {Q : Value → Shared → Prop} (hh : A.handled = none) (hq : ∀ (s' : Shared) (acc : Array Value), (∀ b o, s.heap.get? b = some o → s'.heap.get? b = some o) → s'.gens = s.gens → s'.drawn = s.drawn → s'.os = s.os → ItemsOf (SignAt x) acc x.cps.size → Q (.ref s'.heap.objs.size) { s' with heap := s'.heap.push { cls := .type "tuple", data := .seq acc } })
    (hz : x.cps.size ≤ sizeLine) : wpAny (model prog w) A (call (.type "tuple") [.str x t]) Q E s := by
  refine callType_codes (Q₁ := fun obj s1 => s1.TypeIs obj "tuple" ∧ Q obj s1) F.called_tuple (F.typeCall_tuple_1 _) F.entry_object_init
    (code_tup_txt hh (fun s' acc k1 k2 k3 k4 it => ⟨⟨_, Heap.get?_push_size _ rfl, rfl⟩, hq s' acc k1 k2 k3 k4 it⟩) hz) fun obj s1 h1 => ?_
  exact ⟨h1.1, F.args_object_init_2 obj _, object_init_meets F.called_tuple.init.lookup F.called_tuple.made (by decide) prog w A.in1 _ s1 ⟨h1.1, rfl, h1.2⟩⟩
end
end Mp
set_option Elab.async false
set_option linter.all false
set_option maxRecDepth 100000
set_option maxHeartbeats 1000000
/-! built-ins, methods, isinstance, truth keep to pev -/
namespace Mp
open PySem L2
def biName : Bi → Str
  | .len => "len" | .abs => "abs" | .int => "int" | .str => "str" | .min => "min" | .max => "max" | .sum => "sum" | .all => "all" | .any => "any" | .list => "list" | .tuple => "tuple"
  | .sorted => "sorted" | .chr => "chr" | .ord => "ord" | .bool => "bool" | .set => "set" | .dict => "dict"
def biVal : Bi → Value
  | .len => .builtin "len" | .abs => .builtin "abs" | .int => .type "int" | .str => .type "str" | .min => .builtin "min" | .max => .builtin "max" | .sum => .builtin "sum" | .all => .builtin "all" | .any => .builtin "any"
  | .list => .type "list" | .tuple => .type "tuple" | .sorted => .builtin "sorted" | .chr => .builtin "chr" | .ord => .builtin "ord" | .bool => .type "bool" | .set => .type "set" | .dict => .type "dict"
theorem sl16 : sizeLine = 16777216 := rfl
section
variable {K : PySem.W.Frag} {O : PA'} {H : Hp} {Q : VK}
theorem VQ.mapI {α : Type} {o : Option α} {f : α → D} (h : VQ K O H Q (o.map f)) : ∃ a, o = some a ∧ VQ K O H Q (some (f a)) := by
  cases o with
  | none => exact h.none.elim
  | some a => exact ⟨a, rfl, h⟩
theorem reps_inv {f : List D → Option D} (q : VQ K O H Q (f ds)) : ∃ d, f ds = some d := by
  obtain ⟨d, e, _⟩ := q
  exact ⟨d, e⟩
theorem rr1 {d : D} {vs : List V} (h : RepRs K O H [d] vs) : ∃ v, vs = [v] ∧ RepR K O H d v := by
  obtain ⟨v, _, rfl, a, e⟩ := h
  cases e
  exact ⟨v, rfl, a⟩
theorem rr2 {d e : D} {vs : List V} (h : RepRs K O H [d, e] vs) : ∃ v w, vs = [v, w] ∧ RepR K O H d v ∧ RepR K O H e w := by
  obtain ⟨v, _, rfl, a, w, _, rfl, b, e⟩ := h
  cases e
  exact ⟨v, w, rfl, a, b⟩
end
section
variable {X : Cx}
theorem call_len_ : CallR X (.builtin "len") (fun vs H Q => rS X.K lenEv vs H Q) := by
  intro pins s σ H xs us Q I r ⟨O, ds, hr, ho, q⟩
  unfold lenEv at q
  split at q
  · obtain ⟨v, rfl, p, vs, rfl, f1, r1⟩ := rr1 hr
    exact call_len_seq pins s σ H _ us Q I r ⟨p, vs, rfl, .inr f1.sq, by rw [reps_len r1]; exact q.flat rfl⟩
  · obtain ⟨v, rfl, p, vs, rfl, f1, r1⟩ := rr1 hr
    exact call_len_seq pins s σ H _ us Q I r ⟨p, vs, rfl, .inl (SqL.of f1), by rw [reps_len r1]; exact q.flat rfl⟩
  · rename_i t
    obtain ⟨v, rfl, ha⟩ := rr1 hr
    cases ha
    obtain ⟨hl, q⟩ := VQ.of_ite (c := t.length ≤ 16777216) q
    refine call_len_str pins s σ H _ us Q I r ⟨_, rfl, ?_, ?_⟩
    · simpa [Str.length, sl16] using hl
    · have := q.flat (v := .int (t.length : Nat)) rfl
      simpa [Str.length] using this
  · exact q.none.elim
theorem call_abs_ : CallR X (.builtin "abs") (fun vs H Q => rS X.K absEv vs H Q) := by
  intro pins s σ H xs us Q I r ⟨O, ds, hr, ho, q⟩
  unfold absEv at q
  split at q
  · obtain ⟨v, rfl, ha⟩ := rr1 hr
    cases ha
    exact call_abs pins s σ H _ us Q I r ⟨_, rfl, q.flat rfl⟩
  · exact q.none.elim
theorem isHex_iff {c : Nat} : isHex c = true ↔ Hx.IsHex c := by
  unfold isHex Hx.IsHex
  simp only [Bool.or_eq_true, Bool.and_eq_true, decide_eq_true_eq]
  omega
theorem call_int_ : CallR X (.type "int") (fun vs H Q => rS X.K intEv vs H Q) := by
  intro pins s σ H xs us Q I r ⟨O, ds, hr, ho, q⟩
  unfold intEv at q
  split at q
  · obtain ⟨v, rfl, ha⟩ := rr1 hr
    cases ha
    exact call_int1 pins s σ H _ us Q I r (.inl ⟨_, rfl, q.flat rfl⟩)
  · obtain ⟨v, rfl, ha⟩ := rr1 hr
    cases ha
    exact call_int1 pins s σ H _ us Q I r (.inr ⟨_, rfl, q.flat rfl⟩)
  · rename_i t b
    obtain ⟨v, w, rfl, ha, hb⟩ := rr2 hr
    cases ha; cases hb
    replace q := VQ.of_ite (c := b = 16 ∧ t ≠ [] ∧ t.length ≤ 640 ∧ t.all isHex = true) q
    obtain ⟨⟨h0, h1, h2, h3⟩, q⟩ := q
    subst h0
    exact call_int_hex pins s σ H _ us Q I r ⟨t, rfl, h1, h2, fun c hc => isHex_iff.mp (List.all_eq_true.mp h3 c hc), q.flat rfl⟩
  · exact q.none.elim
theorem leastI_mem : ∀ (l : List Int) (m : Int), leastI m l = m ∨ leastI m l ∈ l
  | [], m => .inl rfl
  | i :: r, m => by
    show leastI (if i < m then i else m) r = m ∨ leastI (if i < m then i else m) r ∈ i :: r
    by_cases h : i < m
    · rw [if_pos h]
      rcases leastI_mem r i with e | e
      · rw [e]; exact .inr List.mem_cons_self
      · exact .inr (List.mem_cons_of_mem _ e)
    · rw [if_neg h]
      exact (leastI_mem r m).imp id (List.mem_cons_of_mem _)
theorem leastI_le : ∀ (l : List Int) (m : Int), leastI m l ≤ m ∧ ∀ y ∈ l, leastI m l ≤ y
  | [], m => ⟨Int.le_refl _, fun y hy => by cases hy⟩
  | i :: r, m => by
    show leastI (if i < m then i else m) r ≤ m ∧ ∀ y ∈ i :: r, leastI (if i < m then i else m) r ≤ y
    by_cases h : i < m
    · rw [if_pos h]
      obtain ⟨h1, h2⟩ := leastI_le r i
      refine ⟨by omega, fun y hy => ?_⟩
      rcases List.mem_cons.mp hy with rfl | hy
      · exact h1
      · exact h2 y hy
    · rw [if_neg h]
      obtain ⟨h1, h2⟩ := leastI_le r m
      refine ⟨h1, fun y hy => ?_⟩
      rcases List.mem_cons.mp hy with rfl | hy
      · omega
      · exact h2 y hy
theorem greatI_mem : ∀ (l : List Int) (m : Int), greatI m l = m ∨ greatI m l ∈ l
  | [], m => .inl rfl
  | i :: r, m => by
    show greatI (if i > m then i else m) r = m ∨ greatI (if i > m then i else m) r ∈ i :: r
    by_cases h : i > m
    · rw [if_pos h]
      rcases greatI_mem r i with e | e
      · rw [e]; exact .inr List.mem_cons_self
      · exact .inr (List.mem_cons_of_mem _ e)
    · rw [if_neg h]
      exact (greatI_mem r m).imp id (List.mem_cons_of_mem _)
theorem greatI_le : ∀ (l : List Int) (m : Int), m ≤ greatI m l ∧ ∀ y ∈ l, y ≤ greatI m l
  | [], m => ⟨Int.le_refl _, fun y hy => by cases hy⟩
  | i :: r, m => by
    show m ≤ greatI (if i > m then i else m) r ∧ ∀ y ∈ i :: r, y ≤ greatI (if i > m then i else m) r
    by_cases h : i > m
    · rw [if_pos h]
      obtain ⟨h1, h2⟩ := greatI_le r i
      refine ⟨by omega, fun y hy => ?_⟩
      rcases List.mem_cons.mp hy with rfl | hy
      · exact h1
      · exact h2 y hy
    · rw [if_neg h]
      obtain ⟨h1, h2⟩ := greatI_le r m
      refine ⟨h1, fun y hy => ?_⟩
      rcases List.mem_cons.mp hy with rfl | hy
      · omega
      · exact h2 y hy
theorem least_is {i m : Int} {ns : List Int} (h1 : m ∈ i :: ns) (h2 : ∀ y, y ∈ i :: ns → m ≤ y) : m = leastI i ns := by
  obtain ⟨a, b⟩ := leastI_le ns i
  have c : leastI i ns ∈ i :: ns := (leastI_mem ns i).elim (fun e => by rw [e]; exact List.mem_cons_self) (List.mem_cons_of_mem _)
  have d := h2 _ c
  rcases List.mem_cons.mp h1 with rfl | h1
  · omega
  · have := b m h1; omega
theorem great_is {i m : Int} {ns : List Int} (h1 : m ∈ i :: ns) (h2 : ∀ y, y ∈ i :: ns → y ≤ m) : m = greatI i ns := by
  obtain ⟨a, b⟩ := greatI_le ns i
  have c : greatI i ns ∈ i :: ns := (greatI_mem ns i).elim (fun e => by rw [e]; exact List.mem_cons_self) (List.mem_cons_of_mem _)
  have d := h2 _ c
  rcases List.mem_cons.mp h1 with rfl | h1
  · omega
  · have := b m h1; omega
theorem call_min_ (hc : X.calm = true) : CallR X (.builtin "min") (fun vs H Q => rS X.K minEv vs H Q) := by
  intro pins s σ H xs us Q I r ⟨O, ds, hr, ho, q⟩
  unfold minEv at q
  split at q
  · obtain ⟨v, w, rfl, ha, hb⟩ := rr2 hr
    cases ha; cases hb
    exact call_min2 hc pins s σ H _ us Q I r ⟨_, _, rfl, q.flat rfl⟩
  · rename_i i xs
    obtain ⟨v, rfl, p, vs, rfl, f1, r1⟩ := rr1 hr
    obtain ⟨ns, e, q⟩ := q.mapI
    obtain ⟨_, vs, rfl, z, r1⟩ := r1
    cases z
    have := reps_ints' e r1
    subst this
    exact cr_min hc pins s σ H _ us Q I r ⟨p, i :: ns, rfl, SqL.of f1, by simp, fun m h1 h2 => by rw [least_is h1 h2]; exact q.flat rfl⟩
  · exact q.none.elim
theorem call_max_ (hc : X.calm = true) : CallR X (.builtin "max") (fun vs H Q => rS X.K maxEv vs H Q) := by
  intro pins s σ H xs us Q I r ⟨O, ds, hr, ho, q⟩
  unfold maxEv at q
  split at q
  · obtain ⟨v, w, rfl, ha, hb⟩ := rr2 hr
    cases ha; cases hb
    exact call_max2 hc pins s σ H _ us Q I r ⟨_, _, rfl, q.flat rfl⟩
  · rename_i i xs
    obtain ⟨v, rfl, p, vs, rfl, f1, r1⟩ := rr1 hr
    obtain ⟨ns, e, q⟩ := q.mapI
    obtain ⟨_, vs, rfl, z, r1⟩ := r1
    cases z
    have := reps_ints' e r1
    subst this
    exact cr_max hc pins s σ H _ us Q I r ⟨p, i :: ns, rfl, SqL.of f1, by simp, fun m h1 h2 => by rw [great_is h1 h2]; exact q.flat rfl⟩
  · exact q.none.elim
theorem call_sum_ (hc : X.calm = true) : CallR X (.builtin "sum") (fun vs H Q => rS X.K sumEv vs H Q) := by
  intro pins s σ H xs us Q I r ⟨O, ds, hr, ho, q⟩
  unfold sumEv at q
  split at q
  · obtain ⟨v, rfl, p, vs, rfl, f1, r1⟩ := rr1 hr
    obtain ⟨ns, e, q⟩ := q.mapI
    have := reps_ints' e r1
    subst this
    exact cr_sum hc pins s σ H _ us Q I r ⟨p, ns, rfl, SqL.of f1, q.flat rfl⟩
  · exact q.none.elim
theorem call_all_ (hc : X.calm = true) : CallR X (.builtin "all") (fun vs H Q => rS X.K allEv vs H Q) := by
  intro pins s σ H xs us Q I r ⟨O, ds, hr, ho, q⟩
  unfold allEv at q
  split at q
  · obtain ⟨v, rfl, p, vs, rfl, f1, r1⟩ := rr1 hr
    obtain ⟨ns, e, q⟩ := q.mapI
    have := reps_bools' e r1
    subst this
    exact cr_all hc pins s σ H _ us Q I r ⟨p, ns, rfl, SqL.of f1, q.flat rfl⟩
  · exact q.none.elim
theorem call_any_ (hc : X.calm = true) : CallR X (.builtin "any") (fun vs H Q => rS X.K anyEv vs H Q) := by
  intro pins s σ H xs us Q I r ⟨O, ds, hr, ho, q⟩
  unfold anyEv at q
  split at q
  · obtain ⟨v, rfl, p, vs, rfl, f1, r1⟩ := rr1 hr
    obtain ⟨ns, e, q⟩ := q.mapI
    have := reps_bools' e r1
    subst this
    exact cr_any hc pins s σ H _ us Q I r ⟨p, ns, rfl, SqL.of f1, q.flat rfl⟩
  · exact q.none.elim
theorem signs_reps {O : PA'} {H : Hp} : ∀ {l : List Nat}, Reps K O H (l.map fun c => .str [c]) (signsV l)
  | [] => rfl
  | c :: l => ⟨_, _, rfl, rfl, signs_reps⟩
theorem call_list_ (hc : X.calm = true) : CallR X (.type "list") (fun vs H Q => rS X.K listEv vs H Q) := by
  intro pins s σ H xs us Q I r ⟨O, ds, hr, ho, q⟩
  unfold listEv at q
  split at q
  · obtain ⟨v, rfl, p, vs, rfl, f1, r1⟩ := rr1 hr
    exact call_list_of pins s σ H _ us Q I r ⟨p, vs, rfl, .inl (SqL.of f1), fun l hl => q.newL r1 ho hl⟩
  · obtain ⟨v, rfl, p, vs, rfl, f1, r1⟩ := rr1 hr
    exact call_list_of pins s σ H _ us Q I r ⟨p, vs, rfl, .inr f1.sq, fun l hl => q.newL r1 ho hl⟩
  · obtain ⟨v, rfl, p, rfl, f1⟩ := rr1 hr
    exact call_list_of pins s σ H _ us Q I r ⟨p, _, rfl, .inl f1.sq, fun l hl => q.newL reps_ints ho hl⟩
  · rename_i t
    obtain ⟨hl, q⟩ := VQ.of_ite (c := t.length ≤ 16777216) q
    obtain ⟨v, rfl, e⟩ := rr1 hr
    cases e
    exact call_list_txt hc pins s σ H _ us Q I r ⟨t, rfl, by rw [sl16]; exact hl, fun l hl => q.newL signs_reps ho hl⟩
  · exact q.none.elim
theorem call_tuple_ (hc : X.calm = true) : CallR X (.type "tuple") (fun vs H Q => rS X.K tupleEv vs H Q) := by
  intro pins s σ H xs us Q I r ⟨O, ds, hr, ho, q⟩
  unfold tupleEv at q
  split at q
  · obtain ⟨v, rfl, p, vs, rfl, f1, r1⟩ := rr1 hr
    exact call_tuple_of pins s σ H _ us Q I r ⟨p, vs, rfl, .inl ⟨SqL.of f1, fun l hl => q.newT r1 ho hl⟩⟩
  · obtain ⟨v, rfl, p, vs, rfl, f1, r1⟩ := rr1 hr
    exact call_tuple_of pins s σ H _ us Q I r ⟨p, vs, rfl, .inr ⟨f1.sq, q.flat ⟨p, vs, rfl, f1, r1⟩⟩⟩
  · rename_i t
    obtain ⟨hl, q⟩ := VQ.of_ite (c := t.length ≤ 16777216) q
    obtain ⟨v, rfl, e⟩ := rr1 hr
    cases e
    obtain ⟨u, rfl, tk, rfl⟩ := vals1 r
    refine call_tup_txt (I.ok.hd hc) (fun s' acc k1 k2 k3 k4 it => ?_) (by rw [sl16]; simpa using hl)
    have J : Inv X pins σ H { s' with heap := s'.heap } := by
      have e1 : s' = { s with heap := s'.heap, toks := s'.toks } := by
        obtain ⟨a, b, c, d, e⟩ := s'
        obtain ⟨a2, b2, c2, d2, e2⟩ := s
        simp only at k2 k3 k4
        subst k2 k3 k4
        rfl
      have := I.kept (h' := s'.heap) (t' := s'.toks) k1
      rw [← e1] at this
      exact this
    refine ⟨.ref s'.heap.objs.size, _, J.laid (t' := s'.toks) (h' := s'.heap.push { cls := .type "tuple", data := .seq acc }) (fun b o e => Heap.get?_push_of_some _ e) (Nat.le_refl _) (show ObjOk X.prog X.w _ _ _ (.tup (signsV t)) from ⟨by unfold signsV; rw [List.length_map, sl16]; exact hl, acc.toList, signs_vals it, by have e := PyProof.Rows.IsTup.new s'.heap acc; simpa using e⟩), rfl, q.newT signs_reps ho (J.hok.fresh (Nat.le_refl _))⟩
  · exact q.none.elim
theorem call_chr_ : CallR X (.builtin "chr") (fun vs H Q => rS X.K chrEv vs H Q) := by
  intro pins s σ H xs us Q I r ⟨O, ds, hr, ho, q⟩
  unfold chrEv at q
  split at q
  · obtain ⟨v, rfl, ha⟩ := rr1 hr
    cases ha
    obtain ⟨h, q⟩ := q.of_ite
    exact call_chr pins s σ H _ us Q I r ⟨_, rfl, h.1, h.2, q.flat rfl⟩
  · exact q.none.elim
theorem call_ord_ : CallR X (.builtin "ord") (fun vs H Q => rS X.K ordEv vs H Q) := by
  intro pins s σ H xs us Q I r ⟨O, ds, hr, ho, q⟩
  unfold ordEv at q
  split at q
  · obtain ⟨v, rfl, ha⟩ := rr1 hr
    cases ha
    exact call_ord pins s σ H _ us Q I r ⟨_, rfl, rfl, q.flat rfl⟩
  · exact q.none.elim
theorem call_bi (hc : X.calm = true) (b : Bi) : CallR X (biVal b) (fun vs H Q => rS X.K (callEv b) vs H Q) := by
  cases b with
  | len => exact call_len_
  | abs => exact call_abs_
  | int => exact call_int_
  | min => exact call_min_ hc
  | max => exact call_max_ hc
  | sum => exact call_sum_ hc
  | all => exact call_all_ hc
  | any => exact call_any_ hc
  | list => exact call_list_ hc
  | tuple => exact call_tuple_ hc
  | chr => exact call_chr_
  | ord => exact call_ord_
  | _ => exact fun pins s σ H xs us Q I r ⟨O, ds, hr, ho, q⟩ => q.none.elim
/-! ### isinstance, by the type's name -/
def tyS : Ty → Str
  | .int => "int" | .bool => "bool" | .str => "str" | .tuple => "tuple" | .list => "list" | .dict => "dict"
def tyN : Ty → String
  | .int => "int" | .bool => "bool" | .str => "str" | .tuple => "tuple" | .list => "list" | .dict => "dict"
theorem fzT_ty {K : PySem.W.Frag} {O : PA'} {H : Hp} {a : Addr} {vs : List V} (h : FzT K O H a vs) : TyX K H (.ref a) (.type "tuple") := by
  rcases h with ⟨h | ⟨o, h⟩, _⟩ | h
  · exact .base (.tup h)
  · exact .fTuple h
  · rcases h with h | ⟨o, its, n, h, hc, _⟩
    · exact (rd0 h).elim
    · exact .kTuple h hc
theorem isi_ (t : Ty) : CallR X (.builtin "isinstance") (fun vs H Q => ∃ O d x, vs = [x, .ty (tyN t)] ∧ RepR X.K O H d x ∧ VB X.K O H Q (isiEv t d)) := by
  intro pins s σ H xs us Q I r ⟨O, d, x, e, hd, q⟩
  subst e
  have go : ∀ (a : String) (b : Bool), TyX X.K H x (.type a) → kitB a (tyN t) = some b → Q (.bl b) H → wpAny (model X.prog X.w) X.A (call (.builtin "isinstance") us) (EP X pins σ Q) X.xe s := fun a b ty kb q =>
    call_isi pins s σ H _ us Q I r ⟨x, .ty (tyN t), .type a, .type (tyN t), b, rfl, .ty _, ty, kit_ty kb, q⟩
  cases d with
  | non => cases hd; exact go "NoneType" false (.base .non) (by cases t <;> decide +kernel) q.some
  | bl b => cases hd; exact go "bool" (t == .bool || t == .int) (.base (.bl _)) (by cases t <;> decide +kernel) q.some
  | int b => cases hd; exact go "int" (t == .int) (.base (.int _)) (by cases t <;> decide +kernel) q.some
  | str b => cases hd; exact go "str" (t == .str) (.base (.str _)) (by cases t <;> decide +kernel) q.some
  | tup b =>
    obtain ⟨p, vs, rfl, f, r1⟩ := hd
    exact go "tuple" (t == .tuple) (fzT_ty f) (by cases t <;> decide +kernel) q.some
  | lst b =>
    obtain ⟨p, vs, rfl, f, r1⟩ := hd
    exact go "list" (t == .list) (.base (.lst f)) (by cases t <;> decide +kernel) q.some
  | _ => exact q.none.elim
/-! ### truth -/
theorem truth_v {K : PySem.W.Frag} {O : PA'} {H : Hp} {d : D} {v : V} {b : Bool} (h : Rep K O H d v) (e : truth d = some b) : TruV K v H b := by
  cases d with
  | non => cases h; cases e; exact rfl
  | bl k => cases h; cases e; exact rfl
  | int i => cases h; cases e; exact rfl
  | str s =>
    cases h
    simp only [truth] at e
    split at e
    · cases e
      rename_i hl
      refine ⟨?_, ?_⟩
      · simpa [Str.length, sl16] using hl
      · have e1 : (⟨s.toArray⟩ : Str).length = s.length := by simp [Str.length]
        rw [e1]
        cases s <;> simp
        all_goals (first | rfl | omega)
    · cases e
  | tup xs =>
    obtain ⟨p, vs, rfl, f, r⟩ := h
    cases e
    refine .inr (.inl ⟨vs, f.sq, ?_⟩)
    have := reps_len r
    cases vs <;> cases xs <;> simp_all
  | lst xs =>
    obtain ⟨p, vs, rfl, f, n, r⟩ := h
    cases e
    refine .inl ⟨vs, SqL.of f, ?_⟩
    have := reps_len r
    cases vs <;> cases xs <;> simp_all
  | _ => cases e
end
end Mp
set_option Elab.async false
set_option linter.all false
set_option maxRecDepth 100000
set_option maxHeartbeats 4000000
/-! xs[::-1] of tuples and lists -/
namespace Mp
open PySem L2 PyProof.Rows
theorem adj_rev (n : Nat) : Builtin.Slice.sliceAdjust none none (-1) (n : Int) = ((n : Int) - 1, (-1 : Int)) := by
  unfold Builtin.Slice.sliceAdjust
  first | rfl | simp
theorem plc_rev (n : Nat) : Builtin.Slice.slicePlaces ((n : Int) - 1) (-1) (-1) = n := by
  unfold Builtin.Slice.slicePlaces
  simp
  omega
section
variable {prog : Program} {w : World} {A : Around} {E : Value → Shared → Prop} {s : Shared}
theorem applied_rev {sl : Addr} {vs : Value} {n : Nat} {Q : Int × Int × Nat → Shared → Prop} (hsl : s.heap.IsSliceOf sl .none .none vs) (pst : IsPart vs (some (-1))) (hq : Q ((n : Int) - 1, -1, n) s) :
    wpAny (model prog w) A (Builtin.Slice.sliceApplied (.ref sl) (pure (n : Int))) Q E s := by
  obtain ⟨o1, ho1, hc1, hd1⟩ := id hsl
  unfold Builtin.Slice.sliceApplied Builtin.Slice.sliceFields
  refine wpAny_bind (wpAny_bind (wpAny_field ho1 hd1 (x := .none) rfl (wpAny_bind (wpAny_field ho1 hd1 (x := .none) rfl (wpAny_bind (wpAny_field ho1 hd1 (x := vs) rfl (wpAny_pure ?_)))))))
  refine wpAny_bind (HT.slicePart_ pst ?_)
  show wpAny _ _ (if ((-1 : Int) == 0) = true then _ else _) _ _ s
  rw [if_neg (by decide)]
  refine wpAny_bind (HT.slicePart_ .none (wpAny_bind (HT.slicePart_ .none (wpAny_bind (wpAny_pure ?_)))))
  show wpAny _ _ (match Builtin.Slice.sliceAdjust none none (-1) (n : Int) with | (lo, hi) => pure (lo, (-1 : Int), Builtin.Slice.slicePlaces lo hi (-1))) _ _ s
  rw [adj_rev n]
  show wpAny _ _ (pure ((n : Int) - 1, (-1 : Int), Builtin.Slice.slicePlaces ((n : Int) - 1) (-1) (-1))) _ _ s
  rw [plc_rev]
  exact wpAny_pure hq
theorem picks_rev (xs : Array Value) : ((List.range xs.size).filterMap fun (m : Nat) => xs[(((xs.size : Int) - 1) + (m : Int) * (-1)).toNat]?).toArray = xs.toList.reverse.toArray := by
  congr 1
  have e : ((List.range xs.size).filterMap fun (m : Nat) => xs[(((xs.size : Int) - 1) + (m : Int) * (-1)).toNat]?) = ((List.range xs.size).map fun k => xs.size - 1 - k).filterMap (xs[·]?) := by
    rw [List.filterMap_map]
    have gen : ∀ (l : List Nat), (∀ m ∈ l, m < xs.size) → l.filterMap (fun (m : Nat) => xs[(((xs.size : Int) - 1) + (m : Int) * (-1)).toNat]?) = l.filterMap ((fun x => xs[x]?) ∘ fun k => xs.size - 1 - k) := by
      intro l
      induction l with
      | nil => intro _; rfl
      | cons m l ih =>
        intro hl
        have hm := hl m List.mem_cons_self
        have e2 : (((xs.size : Int) - 1) + (m : Int) * (-1)).toNat = xs.size - 1 - m := by omega
        rw [List.filterMap_cons, List.filterMap_cons, ih fun k hk => hl k (List.mem_cons_of_mem _ hk), e2]
        rfl
    exact gen _ fun m hm => List.mem_range.mp hm
  rw [e, PySem.W.krv_range, List.filterMap_reverse, PySem.W.krv_all]
theorem item_rev {t sl : Addr} {items : Array Value} {vs : Value} {Q : Value → Shared → Prop} (htt : IsTup s.heap t items) (hsl : s.heap.IsSliceOf sl .none .none vs) (pst : IsPart vs (some (-1)))
    (hq : Q (.ref s.heap.objs.size) { s with heap := s.heap.push { cls := .type "tuple", data := .seq items.toList.reverse.toArray } }) (hz : items.size ≤ sizeLine) : wpAny (model prog w) A (getItem (.ref t) (.ref sl)) Q E s := by
  have hok : sizeOk (.seq items.toList.reverse.toArray) := by
    show items.toList.reverse.toArray.size ≤ sizeLine
    simpa using hz
  obtain ⟨o1, ho1, hc1, hd1⟩ := id hsl
  have htS : s.TypeIs (.ref sl) "slice" := ⟨o1, ho1, hc1⟩
  unfold getItem
  try with_reducible refine wpAny_holding ?_
  first | refine wpAny_bind (wpAny_pure ?_) | skip
  refine wpAny_bind (wpAny_sequenceKey htt.typeIs (by decide) ?_)
  refine wpAny_bind (wpAny_callSpecial?_slot (name := Str.ofString "__getitem__") htt.typeIs PyProof.Rows.slot_tuple_getitem
    (wpAny_call_entry PyProof.Rows.slot_tuple_getitem htt.typeIs entry_tuple_getitem ?_ (args_tuple_getitem _ _)))
  show wpAny _ _ (Builtin.Tuple.tupleItemsOf (.ref t) >>= _) _ _ s
  refine wpAny_bind (tupleItemsOf_ htt ?_)
  refine wpAny_bind (wpAny_typeOf htS ?_)
  rw [if_pos (by decide)]
  refine wpAny_bind (applied_rev hsl pst ?_)
  show wpAny _ _ (if (((items.size : Int) - 1) == 0 && (-1 : Int) == 1 && items.size == items.size) = true then _ else _) _ _ s
  rw [if_neg (by simp), picks_rev]
  first
    | exact wpAny_bind (m := Builtin.Tuple.tupleExact _) (wpAny_newObj_type (wpAny_pure ⟨_, rfl, wpAny_pure hq⟩) hok)
    | exact wpAny_bind (m := Builtin.Tuple.tupleExact _) (wpAny_newObj_type (wpAny_bind (wpAny_pure (wpAny_pure ⟨_, rfl, wpAny_pure hq⟩))) hok)
    | exact wpAny_bind (wpAny_bind (m := Builtin.Tuple.tupleExact _) (wpAny_newObj_type (wpAny_pure (wpAny_pure ⟨_, rfl, wpAny_pure hq⟩)) hok))
    | exact wpAny_bind (wpAny_bind (m := Builtin.Tuple.tupleExact _) (wpAny_newObj_type (wpAny_pure ⟨_, rfl, wpAny_pure hq⟩) hok))
end
end Mp
set_option Elab.async false
set_option linter.all false
set_option maxRecDepth 100000
set_option maxHeartbeats 1000000
/-! readings from the evaluator -/
namespace Mp
open PySem L2

section
variable (K : PySem.W.Frag) (W : WX) (cls : Nat → Value)
/-- from a state that the slots tell: what is wanted behind a result -/
def Post {α : Type} (O : PA') (σ : St) (H : Hp) (env : Env) (r : R α) (k : α → Env → Hp → Prop) : Prop := match r with
  | .ok a e => ∀ H', Ext (Mt σ (kinds env)) H H' → Sim K O σ H' e → k a e H'
  | .exn x e => ∀ H', Ext (Mt σ (kinds env)) H H' → Sim K O σ H' e → W (cls x) none σ H'
  | .stuck => False
def AVok (O : PA') (σ : St) (H : Hp) (a : AV) (v : V) : Prop := match a with
  | .val d => Rep K O H d v
  | .slot i => σ[i]? = some (some v)
def AVs (O : PA') (σ : St) (H : Hp) : List AV → List V → Prop
  | [], vs => vs = []
  | a :: r, vs => ∃ v t, vs = v :: t ∧ AVok K O σ H a v ∧ AVs O σ H r t
def tE (cf : CallF) (e : E) : TE := fun σ H Q => ∃ O env, Sim K O σ H env ∧ Post K W cls O σ H env (evE cf e env) fun d _ H' => ∀ v, Rep K O H' d v → Q v H'
def tT (cf : CallF) (e : E) : TT := fun σ H Q => ∃ O env, Sim K O σ H env ∧ Post K W cls O σ H env (truthR (evE cf e env)) fun b _ H' => Q b H'
def tA (cf : CallF) (es : List E) : TA := fun σ H Q => ∃ O env, Sim K O σ H env ∧ Post K W cls O σ H env (evA cf es env) fun avs _ H' => ∀ vs, AVs K O σ H' avs vs → Q vs H'
/-- one argument -/
def evV (cf : CallF) (e : E) (env : Env) : R AV := match e with
  | .peek i => (match rd env (.slot i) with
    | some _ => .ok (.slot i) env
    | none => .stuck)
  | e => (evE cf e env).bind fun d env1 => .ok (.val d) env1
def tV (cf : CallF) (e : E) : TE := fun σ H Q => ∃ O env, Sim K O σ H env ∧ Post K W cls O σ H env (evV cf e env) fun av _ H' => ∀ v, AVok K O σ H' av v → Q v H'
end

section
variable {K : PySem.W.Frag} {W : WX} {cls : Nat → Value} {O : PA'} {σ : St} {H : Hp} {env : Env} {cf : CallF}
theorem Post.imp {α : Type} {r : R α} {k k' : α → Env → Hp → Prop} (h : Post K W cls O σ H env r k) (q : ∀ a e H', r = .ok a e → Ext (Mt σ (kinds env)) H H' → Sim K O σ H' e → k a e H' → k' a e H') : Post K W cls O σ H env r k' := by
  cases r with
  | ok a e => exact fun H' x s => q a e H' rfl x s (h H' x s)
  | exn x e => exact h
  | stuck => exact h
theorem Post.bind {α β : Type} {r : R α} {f : α → Env → R β} {k : β → Env → Hp → Prop} (hk : KOk (kinds env) r) (h : Post K W cls O σ H env (r.bind f) k) :
    Post K W cls O σ H env r fun a e H' => Post K W cls O σ H' e (f a e) k := by
  cases r with
  | ok a e =>
    intro H1 x1 s1
    have hk : kinds e = kinds env := hk
    have h : Post K W cls O σ H env (f a e) k := h
    cases q : f a e with
    | ok b e2 =>
      rw [q] at h
      intro H2 x2 s2
      rw [hk] at x2
      exact h H2 (x1.trans x2) s2
    | exn y e2 =>
      rw [q] at h
      intro H2 x2 s2
      rw [hk] at x2
      exact h H2 (x1.trans x2) s2
    | stuck => rw [q] at h; exact h
  | exn x e => exact h
  | stuck => exact h
theorem Post.here {α : Type} {a : α} {e : Env} {k : α → Env → Hp → Prop} (h : Post K W cls O σ H env (.ok a e) k) (s : Sim K O σ H e) : k a e H := h H Ext.refl s
theorem Post.start {α : Type} {a : α} {k : α → Env → Hp → Prop} (h : Post K W cls O σ H env (.ok a env) k) (s : Sim K O σ H env) : k a env H := h H Ext.refl s
theorem mt_sub (S : Sim K O σ H env) {H' : Hp} (x : Ext (Mt σ (kinds env)) H H') : Ext O H H' := x.mono S.mtO
theorem av_ext {H' : Hp} (x : Ext O H H') {a : AV} {v : V} (h : AVok K O σ H a v) : AVok K O σ H' a v := by
  cases a with
  | val d => exact rep_ext x h
  | slot i => exact h
theorem avs_ext {H' : Hp} (x : Ext O H H') : ∀ {as : List AV} {vs : List V}, AVs K O σ H as vs → AVs K O σ H' as vs
  | [], _, h => h
  | a :: r, _, ⟨v, t, e, h1, h2⟩ => ⟨v, t, e, av_ext x h1, avs_ext x h2⟩
theorem evA_cons (e : E) (es : List E) : evA cf (e :: es) env = (evV cf e env).bind fun av env1 => (evA cf es env1).bind fun avs env2 => .ok (av :: avs) env2 := by
  conv => lhs; unfold evA
  unfold evV
  cases e with
  | peek i =>
    simp only []
    cases rd env (.slot i) <;> rfl
  | _ =>
    show (R.bind _ _) = R.bind (R.bind _ _) _
    cases evE cf _ env <;> rfl
theorem evV_kinds (e : E) : KOk (kinds env) (evV cf e env) := by
  unfold evV
  cases e with
  | peek i =>
    show KOk (kinds env) (match rd env (.slot i) with | some _ => R.ok (AV.slot i) env | none => .stuck)
    cases rd env (.slot i) with
    | none => trivial
    | some d => exact rfl
  | _ => exact (evE_kinds cf _ env).bind fun d env1 _ h1 => h1
theorem tA_nil {Q : List V → Hp → Prop} (h : tA K W cls cf [] σ H Q) : Q [] H := by
  obtain ⟨O, env, S, p⟩ := h
  unfold evA at p
  exact p.start S [] rfl
theorem tA_cons {e : E} {es : List E} {Q : List V → Hp → Prop} (h : tA K W cls cf (e :: es) σ H Q) : tV K W cls cf e σ H fun x H1 => tA K W cls cf es σ H1 fun vs H2 => Q (x :: vs) H2 := by
  obtain ⟨O, env, S, p⟩ := h
  rw [evA_cons] at p
  refine ⟨O, env, S, (p.bind (evV_kinds e)).imp fun av e1 H1 _ _ s1 q v hv => ⟨O, e1, s1, (q.bind (evA_kinds cf es e1)).imp fun avs e2 H2 _ x2 s2 q vs hvs => ?_⟩⟩
  refine q.start s2 (v :: vs) ⟨v, vs, rfl, av_ext (mt_sub s1 x2) hv, hvs⟩
theorem tV_mono {e : E} {Q Q' : VK} (h : tV K W cls cf e σ H Q) (q : ∀ v H', Q v H' → Q' v H') : tV K W cls cf e σ H Q' := by
  obtain ⟨O, env, S, p⟩ := h
  exact ⟨O, env, S, p.imp fun av e1 H1 _ _ _ r v hv => q _ _ (r v hv)⟩
theorem tA1 {a : E} {Q : List V → Hp → Prop} (h : tA K W cls cf [a] σ H Q) : tV K W cls cf a σ H fun x H1 => Q [x] H1 := tV_mono (tA_cons h) fun v H' q => tA_nil q
theorem tA2 {a b : E} {Q : List V → Hp → Prop} (h : tA K W cls cf [a, b] σ H Q) : tV K W cls cf a σ H fun x H1 => tV K W cls cf b σ H1 fun y H2 => Q [x, y] H2 := tV_mono (tA_cons h) fun v H' q => tA1 q
theorem tA3 {a b c : E} {Q : List V → Hp → Prop} (h : tA K W cls cf [a, b, c] σ H Q) : tV K W cls cf a σ H fun x H1 => tV K W cls cf b σ H1 fun y H2 => tV K W cls cf c σ H2 fun z H3 => Q [x, y, z] H3 := tV_mono (tA_cons h) fun v H' q => tA2 q
theorem tV_val {e : E} (he : ∀ i, e ≠ .peek i) {Q : VK} (h : tV K W cls cf e σ H Q) : tE K W cls cf e σ H Q := by
  obtain ⟨O, env, S, p⟩ := h
  have p : Post K W cls O σ H env ((evE cf e env).bind fun d env1 => .ok (.val d) env1) fun av _ H' => ∀ v, AVok K O σ H' av v → Q v H' := by
    cases e with
    | peek i => exact absurd rfl (he i)
    | _ => exact p
  refine ⟨O, env, S, (p.bind (evE_kinds cf e env)).imp fun d e1 H1 _ _ s1 q v hv => q.start s1 v hv⟩
theorem tV_peek {i : Nat} {Q : VK} (h : tV K W cls cf (.peek i) σ H Q) : tVar i σ H Q := by
  obtain ⟨O, env, S, p⟩ := h
  have p : Post K W cls O σ H env (match rd env (.slot i) with | some _ => R.ok (AV.slot i) env | none => .stuck) fun av _ H' => ∀ v, AVok K O σ H' av v → Q v H' := p
  have get : ∀ s, env[i]? = some s → (∃ d, rd env (.slot i) = some d) → ∃ v, σ[i]? = some (some v) := fun s e ⟨d, hd⟩ => by
    cases s with
    | none => simp [rd, e] at hd
    | val d => exact (S.val i d e).imp fun v h => h.1
    | own d =>
      obtain ⟨a, h, _⟩ := S.cel i d (.inl e)
      exact ⟨_, h⟩
    | io d =>
      obtain ⟨a, h, _⟩ := S.cel i d (.inr e)
      exact ⟨_, h⟩
  cases q : rd env (.slot i) with
  | none => rw [q] at p; exact p.elim
  | some d =>
    rw [q] at p
    cases e : env[i]? with
    | none => simp [rd, e] at q
    | some s =>
      obtain ⟨v, hv⟩ := get s e ⟨d, q⟩
      exact ⟨v, hv, p.start S v hv⟩
theorem tE_var {i : Nat} {Q : VK} (h : tE K W cls cf (.var i) σ H Q) : tVar i σ H Q := by
  obtain ⟨O, env, S, p⟩ := h
  unfold evE at p
  cases e : env[i]? with
  | none => rw [e] at p; exact p.elim
  | some s =>
    cases s with
    | val d =>
      rw [e] at p
      obtain ⟨v, hv, r⟩ := S.val i d e
      exact ⟨v, hv, p.start S v r⟩
    | _ => rw [e] at p; exact p.elim
/-- what is read of arguments -/
theorem rds_rep (S : Sim K O σ H env) : ∀ {as : List AV} {ds : List D} {vs : List V}, rds env as = some ds → AVs K O σ H as vs → RepRs K O H ds vs
  | [], _, _, e, h => by
    cases e
    exact h
  | a :: r, _, _, e, ⟨v, t, ev, h1, h2⟩ => by
    subst ev
    unfold rds at e
    cases q : rd env a with
    | none => rw [q] at e; cases e
    | some d =>
      rw [q] at e
      cases q2 : rds env r with
      | none => rw [q2] at e; cases e
      | some ds' =>
        rw [q2] at e
        cases e
        refine ⟨v, t, rfl, ?_, rds_rep S q2 h2⟩
        cases a with
        | val d' => cases q; exact Rep.r h1
        | slot i =>
          unfold rd at q
          simp only at q
          cases e : env[i]? with
          | none => rw [e] at q; cases q
          | some s =>
            rw [e] at q
            have h1 : σ[i]? = some (some v) := h1
            cases s with
            | none => cases q
            | val d' =>
              cases q
              obtain ⟨w, hw, r⟩ := S.val i d e
              rw [h1] at hw; cases hw
              exact r.r
            | own d' =>
              cases q
              obtain ⟨w, hw, _, c⟩ := S.cel i d (.inl e)
              rw [h1] at hw; cases hw
              cases d <;> simp only [Cell] at c
              obtain ⟨vs, q1, q2⟩ := c
              exact ⟨w, vs, rfl, q1, q2⟩
            | io d' =>
              cases q
              obtain ⟨w, hw, _, c⟩ := S.cel i d (.inr e)
              rw [h1] at hw; cases hw
              cases d <;> simp only [Cell] at c
              obtain ⟨vs, q1, q2⟩ := c
              exact ⟨w, vs, rfl, q1, q2⟩
/-- nothing is looked at in place -/
def noPeek : List E → Bool
  | [] => true
  | .peek _ :: _ => false
  | _ :: r => noPeek r
def AVals : List AV → Prop
  | [] => True
  | .val _ :: r => AVals r
  | .slot _ :: _ => False
theorem noPeek_vals : ∀ {es : List E} {env : Env} {avs : List AV} {e' : Env}, noPeek es = true → evA cf es env = .ok avs e' → AVals avs
  | [], _, _, _, _, h => by unfold evA at h; cases h; trivial
  | e :: es, env, avs, e', hp, h => by
    rw [evA_cons] at h
    have hv : ∀ av env1, evV cf e env = .ok av env1 → ∃ d, av = .val d := fun av env1 q => by
      unfold evV at q
      cases e with
      | peek i => simp [noPeek] at hp
      | _ =>
        simp only at q
        cases z : evE cf _ env with
        | ok d e1 => rw [z] at q; cases q; exact ⟨_, rfl⟩
        | exn x e1 => rw [z] at q; cases q
        | stuck => rw [z] at q; cases q
    have hp' : noPeek es = true := by cases e <;> first | exact hp | (simp [noPeek] at hp)
    cases z : evV cf e env with
    | ok av e1 =>
      rw [z] at h
      obtain ⟨d, rfl⟩ := hv av e1 z
      cases z2 : evA cf es e1 with
      | ok avs2 e2 =>
        simp only [R.bind_ok] at h
        rw [z2] at h
        cases h
        show AVals avs2
        exact noPeek_vals hp' z2
      | exn x e1 => simp only [R.bind_ok] at h; rw [z2] at h; cases h
      | stuck => simp only [R.bind_ok] at h; rw [z2] at h; cases h
    | exn x e1 => rw [z] at h; cases h
    | stuck => rw [z] at h; cases h
theorem rds_vals : ∀ {as : List AV} {ds : List D} {vs : List V}, AVals as → rds env as = some ds → AVs K O σ H as vs → Reps K O H ds vs
  | [], _, _, _, e, h => by
    cases e
    exact h
  | .slot _ :: r, _, _, z, _, _ => z.elim
  | .val d :: r, _, _, z, e, ⟨v, t, ev, h1, h2⟩ => by
    subst ev
    unfold rds at e
    simp only [rd] at e
    cases q2 : rds env r with
    | none => rw [q2] at e; cases e
    | some ds' =>
      rw [q2] at e
      cases e
      exact ⟨v, t, rfl, h1, rds_vals (show AVals r from z) q2 h2⟩
theorem tE_prim {s : Sh} {es : List E} {Q : VK} (h : tE K W cls cf (.prim s es) σ H Q) : tA K W cls cf es σ H fun vs H' => rS K (pev s) vs H' Q := by
  obtain ⟨O, env, S, p⟩ := h
  unfold evE at p
  refine ⟨O, env, S, (p.bind (evA_kinds cf es env)).imp fun avs e1 H1 _ _ s1 q vs hvs => ?_⟩
  cases z : rds e1 avs with
  | none => rw [z] at q; exact q.elim
  | some ds =>
    rw [z] at q
    refine ⟨O, ds, rds_rep s1 z hvs, s1.trk, ?_⟩
    cases y : pev s ds with
    | none => simp only [y, ofOpt] at q; exact q.elim
    | some d =>
      simp only [y, ofOpt] at q
      exact ⟨d, rfl, fun v H' sm r => q H' (Ext.same sm) (s1.same sm) v r⟩
theorem tE_primP {s : Sh} {es : List E} (hp : noPeek es = true) {Q : VK} (h : tE K W cls cf (.prim s es) σ H Q) : tA K W cls cf es σ H fun vs H' => rP K (pev s) vs H' Q := by
  obtain ⟨O, env, S, p⟩ := h
  unfold evE at p
  refine ⟨O, env, S, (p.bind (evA_kinds cf es env)).imp fun avs e1 H1 ea _ s1 q vs hvs => ?_⟩
  cases z : rds e1 avs with
  | none => rw [z] at q; exact q.elim
  | some ds =>
    rw [z] at q
    refine ⟨O, ds, rds_vals (noPeek_vals hp ea) z hvs, s1.trk, ?_⟩
    cases y : pev s ds with
    | none => simp only [y, ofOpt] at q; exact q.elim
    | some d =>
      simp only [y, ofOpt] at q
      exact ⟨d, rfl, fun v H' sm r => q H' (Ext.same sm) (s1.same sm) v r⟩
end
theorem PE.imp' {X : Cx} {e : Expr} {t t' : TE} (h : PE X e t) (q : ∀ σ H Q, t' σ H Q → t σ H Q) : PE X e t' := ⟨fun pins s σ H Q I w => h.run pins s σ H Q I (q σ H Q w)⟩
theorem PT.imp' {X : Cx} {e : Expr} {t t' : TT} (h : PT X e t) (q : ∀ σ H Q, t' σ H Q → t σ H Q) : PT X e t' := ⟨fun pins s σ H Q I w => h.run pins s σ H Q I (q σ H Q w)⟩
theorem PW.imp' {X : Cx} {e : Expr} {t t' : TT} (h : PW X e t) (q : ∀ σ H Q, t' σ H Q → t σ H Q) : PW X e t' := ⟨fun wh pins s σ H Q I w => h.run wh pins s σ H Q I (q σ H Q w)⟩
theorem PA.imp' {X : Cx} {e : List Expr} {t t' : TA} (h : PA X e t) (q : ∀ σ H Q, t' σ H Q → t σ H Q) : PA X e t' := ⟨fun ps pins s σ H Q I w => h.run ps pins s σ H Q I (q σ H Q w)⟩
theorem PS.imp' {X : Cx} {e : Stmt} {t t' : TS} (h : PS X e t) (q : ∀ D σ H, t' D σ H → t D σ H) : PS X e t' := ⟨fun pins s σ H D I w => h.run pins s σ H D I (q D σ H w)⟩
theorem PSs.imp' {X : Cx} {e : List Stmt} {t t' : TS} (h : PSs X e t) (q : ∀ D σ H, t' D σ H → t D σ H) : PSs X e t' := ⟨fun pins s σ H D I w => h.run pins s σ H D I (q D σ H w)⟩
end Mp
set_option Elab.async false
set_option linter.all false
set_option maxRecDepth 100000
set_option maxHeartbeats 1000000
/-! a def of the text is this small AST: the check -/
namespace Mp
open PySem L2

mutual
def D.beq : D → D → Bool
  | .non, .non => true
  | .bl a, .bl b => a == b
  | .int a, .int b => a == b
  | .str a, .str b => a == b
  | .tup a, .tup b => D.beqs a b
  | .lst a, .lst b => D.beqs a b
  | _, _ => false
def D.beqs : List D → List D → Bool
  | [], [] => true
  | a :: as, b :: bs => D.beq a b && D.beqs as bs
  | _, _ => false
end
mutual
theorem D.beq_eq : ∀ {a b : D}, D.beq a b = true → a = b
  | .non, b, h => by cases b <;> first | rfl | (simp [D.beq] at h)
  | .bl a, b, h => by cases b <;> simp [D.beq] at h; rw [h]
  | .int a, b, h => by cases b <;> simp [D.beq] at h; rw [h]
  | .str a, b, h => by cases b <;> simp [D.beq] at h; rw [h]
  | .tup a, b, h => by cases b <;> simp [D.beq] at h; rw [D.beqs_eq h]
  | .lst a, b, h => by cases b <;> simp [D.beq] at h; rw [D.beqs_eq h]
  | .dct _ _, b, h => by cases b <;> simp [D.beq] at h
  | .set _, b, h => by cases b <;> simp [D.beq] at h
  | .scr _, b, h => by cases b <;> simp [D.beq] at h
theorem D.beqs_eq : ∀ {a b : List D}, D.beqs a b = true → a = b
  | [], [], _ => rfl
  | [], _ :: _, h => by simp [D.beqs] at h
  | _ :: _, [], h => by simp [D.beqs] at h
  | a :: as, b :: bs, h => by
    simp only [D.beqs, Bool.and_eq_true] at h
    rw [D.beq_eq h.1, D.beqs_eq h.2]
end

structure Tb where
  fn : List Str
  xs : List Str
  gl : List (Str × D)
  bl : List Str

def visB (sc : Scope) (x : Str) : Bool := sc.names.lookup x == some .local || sc.names.lookup x == some .cell || sc.names.lookup x == some .free
def plainNm (x : Str) : Bool := !(x == ("__debug__" : Str)) && !(x == ("__classdict__" : Str)) && !(x == ("__name__" : Str))
def isName (N : List Str) (sc : Scope) (i : Nat) : Expr → Bool
  | .Name x _ => N[i]? == some x && visB sc x && plainNm x
  | _ => false
def globB (sc : Scope) (x : Str) : Bool := sc.names.lookup x == some .globalImplicit && plainNm x
def isGlob (sc : Scope) (x : Str) : Expr → Bool
  | .Name y _ => y == x && globB sc x
  | _ => false
def isCon (d : D) : Expr → Bool
  | .Constant c _ _ => match c, d with
    | .none, .non => true
    | .bool a, .bl b => a == b
    | .int a, .int b => a == b
    | .str a, .str b => decide (a = ⟨b.toArray⟩)
    | _, _ => false
  | _ => false
def biOf (x : Str) : Option Bi :=
  [Bi.len, .abs, .int, .str, .min, .max, .sum, .all, .any, .list, .tuple, .sorted, .chr, .ord, .bool, .set, .dict].find? fun b => biName b == x
def tyOf (x : Str) : Option Ty := [Ty.int, .bool, .str, .tuple, .list, .dict].find? fun t => tyS t == x
def meName : Me → Str
  | .index => "index" | .get => "get" | .join => "join" | .startswith => "startswith" | .isdigit => "isdigit" | .count => "count" | .items => "items" | .keys => "keys" | .values => "values" | .copy => "copy"
def meOf (x : Str) : Option Me := [Me.index, .get, .join, .startswith, .isdigit, .count, .items, .keys, .values, .copy].find? fun b => meName b == x
def bltB (tb : Tb) (sc : Scope) (x : Str) : Bool := globB sc x && tb.bl.contains x
def notSlice : Expr → Bool
  | .Slice .. => false
  | _ => true
/-- range(..) of one or two bounds -/
def rangeArg (tb : Tb) (sc : Scope) : List Expr → Option (List Expr)
  | [.Call (.Name r _) es [] _] => if bltB tb sc r && r == ("range" : Str) && (es.length == 1 || es.length == 2) then some es else none
  | _ => none
def rngSh (f : Str) : Option Sh := if f == ("list" : Str) then some .rngL else if f == ("tuple" : Str) then some .rngT else none
def baseOk : Expr → Bool
  | .Call (.Name _ _) [] [] _ => false
  | _ => true
/-- the shape of an operation, and its parts -/
def shape (tb : Tb) (sc : Scope) : Expr → Option (Sh × List Expr)
  | .BinOp a op b _ => some (.bin op, [a, b])
  | .Compare a [op] [b] _ => if behindInMarks op b then none else some (.cmp op, [a, b])
  | .Compare a [o, p] [b, c] _ => if behindInMarks p c then none else some (.chain o p, [a, b, c])
  | .UnaryOp .USub a _ => some (.un .USub, [a])
  | .Subscript a (.Slice lo hi none _) _ => match lo, hi with
    | none, none => some (.slc false false, [a])
    | some l, none => some (.slc true false, [a, l])
    | none, some h => some (.slc false true, [a, h])
    | some l, some h => some (.slc true true, [a, l, h])
  | .Subscript a (.Slice none none (some (.UnaryOp .USub (.Constant (.int 1) _ _) _)) _) _ => some (.rev, [a])
  | .Subscript a i _ => if notSlice i then some (.idx, [a, i]) else none
  | .Tuple es _ _ => some (.tup, es)
  | .List es _ => some (.lst, es)
  | .Call (.Name f _) es [] _ => if bltB tb sc f then (match rngSh f, rangeArg tb sc es with
      | some s, some es2 => some (s, es2)
      | _, _ => match biOf f with
      | some b => some (.call b, es)
      | none => if f == ("isinstance" : Str) then (match es with
        | [x, .Name t _] => (if bltB tb sc t then (tyOf t).map fun ty => (.isi ty, [x]) else none)
        | _ => none) else none) else none
  | .Call (.Attribute o m apos) es [] cpos => if apos.endLine == cpos.line && baseOk o && decide (es.length < 29) then (meOf m).map fun k => (.meth k, o :: es) else none
  | _ => none
def callName : Expr → Option (Str × List Expr)
  | .Call (.Name f _) es [] _ => some (f, es)
  | _ => none
theorem callName_inv {e : Expr} {f : Str} {es : List Expr} (h : callName e = some (f, es)) : ∃ p pos, e = .Call (.Name f p) es [] pos := by
  unfold callName at h
  split at h
  · cases h; exact ⟨_, _, rfl⟩
  · cases h
/-- what a loop walks, by its text -/
def itShape (tb : Tb) (sc : Scope) (tup : Bool) (k : ItK) (e : Expr) : Option (List Expr) := match k with
  | .seq => some [e]
  | .range => (callName e).bind fun c => if bltB tb sc c.1 && c.1 == ("range" : Str) && (c.2.length == 1 || c.2.length == 2 || c.2.length == 3) then some c.2 else none
  | .zip => (callName e).bind fun c => if tup && (bltB tb sc c.1 && c.1 == ("zip" : Str) && c.2.length == 2) then some c.2 else none
  | .enum => (callName e).bind fun c => if tup && (bltB tb sc c.1 && c.1 == ("enumerate" : Str) && c.2.length == 1) then some c.2 else none
  | _ => none
def isTup : Tg → Bool
  | .tup _ => true
  | _ => false
/-- a name that may be stored: raw is the scope as it is written -/
def stoB (raw sc : Scope) (x : Str) : Bool := (raw.names.lookup x == some .local && sc.names.lookup x == some .local) || (raw.names.lookup x == some .cell && sc.names.lookup x == some .cell)
mutual
def mTg (N : List Str) (raw sc : Scope) : Tg → Expr → Bool
  | .name i, e => match e with
    | .Name x _ => N[i]? == some x && stoB raw sc x
    | _ => false
  | .tup ts, e => match e with
    | .Tuple es _ _ => mTgs N raw sc ts es
    | _ => false
def mTgs (N : List Str) (raw sc : Scope) : List Tg → List Expr → Bool
  | [], [] => true
  | t :: ts, e :: es => mTg N raw sc t e && mTgs N raw sc ts es
  | _, _ => false
end
def muName : Mu → Str
  | .append => "append" | .pop => "pop" | .extend => "extend"
def ownNames (N : List Str) (own : List Nat) : List (Str × Nat) := own.filterMap fun i => (N[i]?).map fun x => (x, i)
def noSet : Expr → Bool
  | .Set .. => false
  | _ => true
mutual
/-- no calls, no changes -/
def pure' : E → Bool
  | .var _ => true
  | .peek _ => true
  | .con _ => true
  | .glob _ _ => true
  | .prim _ es => pures es
  | _ => false
def pures : List E → Bool
  | [] => true
  | e :: es => pure' e && pures es
end
def chainOk : Sh → List E → Bool
  | .chain _ _, [_, _, c] => pure' c
  | .chain _ _, _ => false
  | .slc true true, [_, _, c] => pure' c
  | .slc true true, _ => false
  | .meth .index, [_, e] => pure' e
  | .meth _, _ => false
  | _, _ => true
mutual
def mE (tb : Tb) (N : List Str) : Scope → E → Expr → Bool
  | sc, .var i, py => isName N sc i py
  | sc, .peek i, py => isName N sc i py
  | sc, .con d, py => isCon d py
  | sc, .glob x d, py => isGlob sc x py && (match tb.gl.lookup x with | some d' => D.beq d' d | none => false)
  | sc, .prim s es, py => match shape tb sc py with
    | some (s', pes) => decide (s = s') && (noPeek es || (s != .tup && s != .lst)) && chainOk s es && mEs tb N sc es pes
    | none => false
  | sc, .call f es, py => match py with
    | .Call (.Name x _) args [] _ => f % 2 == 0 && tb.fn[f / 2]? == some x && globB sc x && mEs tb N sc es args
    | _ => false
  | sc, .ife c a b, py => match py with
    | .IfExp c' a' b' _ => mE tb N sc c c' && mE tb N sc a a' && mE tb N sc b b'
    | _ => false
  | sc, .bop k es, py => match py with
    | .BoolOp op vs _ => decide (op = if k then .And else .Or) && !es.isEmpty && noPeek es && mEs tb N sc es vs
    | _ => false
  | sc, .neg e, py => match py with
    | .UnaryOp .Not e' _ => mE tb N sc e e'
    | _ => false
  | sc, .comp own tg k src cnd elt, py => match py with
    | .ListComp elt' [⟨tg', iter', ifs', 0⟩] scope _ => (match itShape tb sc (isTup tg) k iter' with
      | some pes => noSet iter' && noPeek src && noPeek cnd && decide (ownNames N own |>.map (·.2) |> (· = own)) && blkC N sc scope (ownNames N own) && mTg N scope (relS scope sc) tg tg' && mEs tb N sc src pes && mEs tb N (relS scope sc) cnd ifs' && decide (cnd.length ≤ 1) && mE tb N (relS scope sc) elt elt'
      | none => false)
    | _ => false
  | sc, .mu m i es, py => match py with
    | .Call (.Attribute o a apos) args [] cpos => isName N sc i o && a == muName m && noPeek es && apos.endLine == cpos.line && decide (args.length < 29) && mEs tb N sc es args
    | _ => false
def mEs (tb : Tb) (N : List Str) : Scope → List E → List Expr → Bool
  | _, [], [] => true
  | sc, e :: es, p :: ps => mE tb N sc e p && mEs tb N sc es ps
  | _, _, _ => false
end
/-! ### facts of the check -/
theorem biOf_name {x : Str} {b : Bi} (h : biOf x = some b) : biName b = x := by
  have := List.find?_some h
  simpa using this
theorem tyOf_name {x : Str} {b : Ty} (h : tyOf x = some b) : tyS b = x := by
  have := List.find?_some h
  simpa using this
theorem meOf_name {x : Str} {b : Me} (h : meOf x = some b) : meName b = x := by
  have := List.find?_some h
  simpa using this
theorem boot_bi (b : Bi) : bootBuiltins (biName b) = some (biVal b) := by cases b <;> decide +kernel
theorem boot_ty (t : Ty) : bootBuiltins (tyS t) = some (.type (tyN t)) := by cases t <;> decide +kernel
theorem plain_of {x : Str} (h : plainNm x = true) : (x == ("__debug__" : Str)) = false ∧ (x == ("__classdict__" : Str)) = false ∧ x ≠ "__name__" := by
  unfold plainNm at h
  simp only [Bool.and_eq_true, Bool.not_eq_true'] at h
  exact ⟨h.1.1, h.1.2, fun e => by rw [e] at h; simp at h⟩
def noStar : Expr → Bool
  | .Starred .. => false
  | _ => true
theorem mE_noStar {tb : Tb} {N : List Str} {sc : Scope} {e : E} {py : Expr} (h : mE tb N sc e py = true) : noStar py = true := by
  cases py with
  | Starred v p => cases e <;> simp [mE, isName, isCon, isGlob, shape] at h
  | _ => rfl
theorem star_cons {e : Expr} {es : List Expr} {env : PySem.Env} (h : noStar e = true) : starEach (e :: es) env = (false, eval e env) :: starEach es env := by
  cases e <;> first | rfl | cases h
theorem star_pl {pos : Pos} {env : PySem.Env} : ∀ {es : List Expr}, es.all noStar = true → (backTo pos (starEach es env)).any (·.1) = false
  | [], _ => rfl
  | e :: es, h => by
    simp only [List.all_cons, Bool.and_eq_true] at h
    rw [star_cons h.1]
    have := star_pl (pos := pos) (env := env) h.2
    simpa [backTo] using this
theorem mEs_noStar {tb : Tb} {N : List Str} : ∀ {sc : Scope} {es : List E} {ps : List Expr}, mEs tb N sc es ps = true → ps.all noStar = true
  | _, [], [], _ => rfl
  | _, [], _ :: _, h => by simp [mEs] at h
  | _, _ :: _, [], h => by simp [mEs] at h
  | sc, e :: es, p :: ps, h => by
    simp only [mEs, Bool.and_eq_true] at h
    simp only [List.all_cons, Bool.and_eq_true]
    exact ⟨mE_noStar h.1, mEs_noStar h.2⟩
end Mp
set_option Elab.async false
set_option linter.all false
set_option maxRecDepth 100000
set_option maxHeartbeats 2000000
/-! an expression's rule from the evaluator -/
namespace Mp
open PySem L2

/-- what a def promises: by its answer; an odd one tells a list of its own -/
def spF (K : PySem.W.Frag) (cls : Nat → Value) (cf : CallF) (f : Nat) : Sp := fun vs H Q E => ∃ O sls, Sim K O (vs.map some) H sls ∧ (∀ s ∈ sls, kd s = 1 → False) ∧ (∀ s ∈ sls, s ≠ .none) ∧ match cf f sls with
  | .ok d outs => if f % 2 = 0 then ∀ v H' sls', Ext (Mt (vs.map some) (kinds sls)) H H' → kinds sls' = kinds sls → outsOf sls' = outs → Sim K O (vs.map some) H' sls' → Rep K O H' d v → Q v H'
    else ∀ xs a us H' sls', d = .lst xs → H a = none → Ext (Mt (vs.map some) (kinds sls)) H H' → kinds sls' = kinds sls → outsOf sls' = outs → Sim K (fun b => O b ∨ b = a) (vs.map some) H' sls' → H' a = some (.lst us) → Reps K (fun b => O b ∨ b = a) H' xs us → Q (.ref a) H'
  | .exn x outs => ∀ H' sls', Ext (Mt (vs.map some) (kinds sls)) H H' → kinds sls' = kinds sls → outsOf sls' = outs → Sim K O (vs.map some) H' sls' → E (cls x) none H'
  | .stuck => False

structure Glo (tb : Tb) (cls : Nat → Value) (cf : CallF) (n : Nat) (X : Cx) : Prop where
  fns : ∀ (f : Nat) (x : Str), tb.fn[f / 2]? = some x → ∃ a fd ps, X.mg x = some (.ref a) ∧ PySem.W.keepIn X.K (.ref a) = true ∧ Binds X.K fd ps [] ∧ FnOk X.prog X.w X.K X.mg X.base (L2.CX X.prog X.w) n a fd ps (spF X.K cls cf f)
  bl : ∀ x, tb.bl.contains x = true → X.mg x = none
  xs : ∀ (i : Nat) (x : Str), tb.xs[i]? = some x → ∃ C bmB B newId initId, ExcBaseFacts B newId initId bmB ∧ PySem.W.excIn X.K C bmB newId = true ∧ cls i = .ref C ∧ X.mg x = some (.ref C) ∧ PySem.W.keepIn X.K (.ref C) = true ∧ PySem.W.subIn X.K (.ref C) (.type "BaseException") = some true ∧ PySem.W.typeIn X.K (.ref C) = some (.type "type")
  gl : ∀ x d, tb.gl.lookup x = some d → ∃ u v, X.mg x = some u ∧ RelV v u ∧ ∀ O H, Rep X.K O H d v
structure Ctx (tb : Tb) (cls : Nat → Value) (cf : CallF) (n : Nat) (N : List Str) (sc : Scope) (W : WX) (X : Cx) : Prop where
  hN : X.N = N
  nd : N.Nodup
  hsc : X.env.scope = sc
  calm : X.calm = true
  room : Room n X.A
  tk : Takes X W
  po : PassesOwn (model X.prog X.w) X.A X.env X.xe
  G : Glo tb cls cf n X

section
variable {tb : Tb} {cls : Nat → Value} {cf : CallF} {n : Nat} {N : List Str} {sc : Scope} {W : WX} {X : Cx}
theorem gl_of (C : Ctx tb cls cf n N sc W X) {x : Str} (h : globB sc x = true) : Gl X x ∧ plainNm x = true := by
  unfold globB at h
  simp only [Bool.and_eq_true, beq_iff_eq] at h
  exact ⟨by show X.env.scope.names.lookup x = _; rw [C.hsc]; exact h.1, h.2⟩
theorem vis_of (C : Ctx tb cls cf n N sc W X) {x : Str} (h : visB sc x = true) : Vis X.env.scope x := by
  unfold visB at h
  simp only [Bool.or_eq_true, beq_iff_eq] at h
  rw [C.hsc]
  rcases h with (h | h) | h
  · exact .inl h
  · exact .inr (.inl h)
  · exact .inr (.inr h)
theorem pe_name (C : Ctx tb cls cf n N sc W X) {i : Nat} {py : Expr} (h : isName N sc i py = true) : ∃ x pos, py = .Name x pos ∧ PE X py (tVar i) := by
  cases py <;> simp [isName] at h
  rename_i x pos
  obtain ⟨⟨h1, h2⟩, h3⟩ := h
  obtain ⟨p1, p2, p3⟩ := plain_of h3
  exact ⟨x, pos, rfl, pe_var (by rw [C.hN]; exact h1) (vis_of C h2) p1 p2⟩
/-- a test by a value's truth -/
theorem tru {e : E} {py : Expr} (h : PE X py (tE X.K W cls cf e)) (he : ∀ whole, isTrue py X.env whole = (do let v ← whole; standAt py.pos; holding [v] (truthy v))) : PT X py (tT X.K W cls cf e) := by
  refine PT.imp' (pt_truth h he) fun σ H Q ⟨O, env, S, p⟩ => ?_
  unfold truthR at p
  refine ⟨O, env, S, (p.bind (evE_kinds cf e env)).imp fun d e1 H1 _ _ s1 q v hv => ?_⟩
  cases z : truth d with
  | none => simp only [z, ofOpt] at q; exact q.elim
  | some b =>
    simp only [z, ofOpt] at q
    exact ⟨b, truth_v hv z, q.start s1⟩
/-- a test by a bool's rule -/
theorem tru_b {e : E} {σ : St} {H : Hp} {Q : Bool → Hp → Prop} (h : tT X.K W cls cf e σ H Q) : tE X.K W cls cf e σ H fun x H1 => ∀ k, x = .bl k → Q k H1 := by
  obtain ⟨O, env, S, p⟩ := h
  unfold truthR at p
  refine ⟨O, env, S, (p.bind (evE_kinds cf e env)).imp fun d e1 H1 _ _ s1 q v hv k hk => ?_⟩
  subst hk
  cases d with
  | bl b => cases hv; exact q.start s1
  | non => cases hv
  | int i => cases hv
  | str i => cases hv
  | tup i => obtain ⟨_, _, e, _⟩ := hv; cases e
  | lst i => obtain ⟨_, _, e, _⟩ := hv; cases e
  | dct _ _ => exact hv.elim
  | set _ => exact hv.elim
  | scr _ => obtain ⟨_, e, _⟩ := hv; cases e
mutual
theorem pure_ok : ∀ {e : E} {env : Env}, pure' e = true → (∃ d, evE cf e env = .ok d env) ∨ evE cf e env = .stuck
  | .var i, env, _ => by
    unfold evE
    split
    · exact .inl ⟨_, rfl⟩
    · exact .inr rfl
  | .peek _, _, _ => .inr (by unfold evE; rfl)
  | .con d, _, _ => .inl ⟨d, by unfold evE; rfl⟩
  | .glob _ d, _, _ => .inl ⟨d, by unfold evE; rfl⟩
  | .prim s es, env, h => by
    unfold evE
    rcases pures_ok (es := es) (env := env) (by simpa [pure'] using h) with ⟨avs, e⟩ | e
    · rw [e]
      simp only [R.bind_ok]
      cases rds env avs with
      | none => exact .inr rfl
      | some ds =>
        simp only []
        cases pev s ds with
        | none => exact .inr rfl
        | some d => exact .inl ⟨d, rfl⟩
    · rw [e]; exact .inr rfl
  | .call _ _, _, h => by simp [pure'] at h
  | .ife _ _ _, _, h => by simp [pure'] at h
  | .bop _ _, _, h => by simp [pure'] at h
  | .neg _, _, h => by simp [pure'] at h
  | .comp _ _ _ _ _ _, _, h => by simp [pure'] at h
  | .mu _ _ _, _, h => by simp [pure'] at h
theorem pures_ok : ∀ {es : List E} {env : Env}, pures es = true → (∃ avs, evA cf es env = .ok avs env) ∨ evA cf es env = .stuck
  | [], env, _ => .inl ⟨[], by unfold evA; rfl⟩
  | e :: es, env, h => by
    simp only [pures, Bool.and_eq_true] at h
    rw [evA_cons]
    have hv : (∃ av, evV cf e env = .ok av env) ∨ evV cf e env = .stuck := by
      unfold evV
      cases e with
      | peek i =>
        simp only []
        cases rd env (.slot i) with
        | none => exact .inr rfl
        | some d => exact .inl ⟨_, rfl⟩
      | _ =>
        simp only []
        rcases pure_ok h.1 with ⟨d, q⟩ | q
        · rw [q]; exact .inl ⟨_, rfl⟩
        · rw [q]; exact .inr rfl
    rcases hv with ⟨av, q⟩ | q
    · rw [q]
      simp only [R.bind_ok]
      rcases pures_ok (es := es) (env := env) h.2 with ⟨avs, q2⟩ | q2
      · rw [q2]; exact .inl ⟨_, rfl⟩
      · rw [q2]; exact .inr rfl
    · rw [q]; exact .inr rfl
end
theorem pureV_ok {e : E} {env : Env} (h : pure' e = true) : (∃ av, evV cf e env = .ok av env) ∨ evV cf e env = .stuck := by
  unfold evV
  cases e with
  | peek i =>
    simp only []
    cases rd env (.slot i) with
    | none => exact .inr rfl
    | some d => exact .inl ⟨_, rfl⟩
  | _ =>
    simp only []
    rcases pure_ok h with ⟨d, q⟩ | q
    · rw [q]; exact .inl ⟨_, rfl⟩
    · rw [q]; exact .inr rfl
/-- a <= b <= c, c without effects -/
theorem tE_chain {o p : CmpOp} {a b c : E} (hc : pure' c = true) {σ : St} {H : Hp} {Q : VK} (h : tE X.K W cls cf (.prim (.chain o p) [a, b, c]) σ H Q) :
    tChain (fun x y H Q => ∃ O a b, RepR X.K O H a x ∧ RepR X.K O H b y ∧ VB X.K O H Q (cmpEv o a b)) (fun x y H Q => ∃ O a b, RepR X.K O H a x ∧ RepR X.K O H b y ∧ VB X.K O H Q (cmpEv p a b))
      (tV X.K W cls cf a) (tV X.K W cls cf b) (tV X.K W cls cf c) σ H Q := by
  obtain ⟨O, env, S, q⟩ := h
  unfold evE at q
  rw [evA_cons] at q
  have q : Post X.K W cls O σ H env ((evV cf a env).bind fun av e1 => ((evA cf [b, c] e1).bind fun avs e2 => (match rds e2 (av :: avs) with | some ds => ofOpt (pev (.chain o p) ds) e2 | none => R.stuck))) fun d x H' => ∀ v, Rep X.K O H' d v → Q v H' := by
    revert q
    cases evV cf a env with
    | ok av e1 => simp only [R.bind_ok]; cases evA cf [b, c] e1 <;> exact id
    | exn x e1 => exact id
    | stuck => exact id
  refine ⟨O, env, S, (q.bind (evV_kinds a)).imp fun av e1 H1 _ x1 s1 q x hx => ⟨O, e1, s1, ?_⟩⟩
  rw [evA_cons] at q
  have q : Post X.K W cls O σ H1 e1 ((evV cf b e1).bind fun bv e2 => ((evA cf [c] e2).bind fun avs e3 => (match rds e3 (av :: bv :: avs) with | some ds => ofOpt (pev (.chain o p) ds) e3 | none => R.stuck))) fun d x H' => ∀ v, Rep X.K O H' d v → Q v H' := by
    revert q
    cases evV cf b e1 with
    | ok av e1 => simp only [R.bind_ok]; cases evA cf [c] e1 <;> exact id
    | exn x e1 => exact id
    | stuck => exact id
  refine (q.bind (evV_kinds b)).imp fun bv e2 H2 _ x2 s2 q y hy => ?_
  rw [evA_cons] at q
  rcases pureV_ok (cf := cf) (env := e2) hc with ⟨cv, z⟩ | z
  · rw [z] at q
    have e0 : evA cf [] e2 = .ok [] e2 := by unfold evA; rfl
    simp only [R.bind_ok, e0] at q
    cases w : rds e2 [av, bv, cv] with
    | none => rw [w] at q; exact q.elim
    | some ds =>
      rw [w] at q
      have hx2 : AVok X.K O σ H2 av x := av_ext (mt_sub s1 x2) hx
      -- what is read
      have ra : ∃ da, rd e2 av = some da ∧ ∃ db, rd e2 bv = some db ∧ ∃ dc, rd e2 cv = some dc ∧ ds = [da, db, dc] := by
        unfold rds at w
        cases w1 : rd e2 av with
        | none => rw [w1] at w; cases w
        | some da =>
          rw [w1] at w
          unfold rds at w
          cases w2 : rd e2 bv with
          | none => rw [w2] at w; cases w
          | some db =>
            rw [w2] at w
            unfold rds at w
            cases w3 : rd e2 cv with
            | none => rw [w3] at w; cases w
            | some dc =>
              rw [w3] at w
              unfold rds at w
              cases w
              exact ⟨da, rfl, db, rfl, dc, rfl, rfl⟩
      obtain ⟨da, ea, db, eb, dc, ec, rfl⟩ := ra
      have one : ∀ {a' : AV} {d' : D} {v' : V}, rd e2 a' = some d' → AVok X.K O σ H2 a' v' → RepR X.K O H2 d' v' := fun {a' d' v'} e1 e2' => by
        have r := rds_rep s2 (as := [a']) (ds := [d']) (vs := [v']) (by unfold rds; rw [e1]; rfl) ⟨v', [], rfl, e2', rfl⟩
        obtain ⟨v, _, e, r, _⟩ := r
        cases e
        exact r
      refine ⟨O, da, db, one ea hx2, one eb hy, ?_⟩
      have q : Post X.K W cls O σ H2 e2 (ofOpt ((cmpEv o da db).bind fun k => if k then (cmpEv p db dc).map .bl else some (.bl false)) e2) fun d x H' => ∀ v, Rep X.K O H' d v → Q v H' := q
      cases w : cmpEv o da db with
      | none => rw [w] at q; exact q.elim
      | some k =>
        rw [w] at q
        refine ⟨k, rfl, k, rfl, ?_⟩
        cases k with
        | false =>
          rw [if_neg Bool.false_ne_true]
          exact q.start s2 _ rfl
        | true =>
          rw [if_pos rfl]
          refine ⟨O, e2, s2, ?_⟩
          rw [z]
          intro H3 x3 s3 w hw
          have one3 : ∀ {a' : AV} {d' : D} {v' : V}, rd e2 a' = some d' → AVok X.K O σ H3 a' v' → RepR X.K O H3 d' v' := fun {a' d' v'} e1 e2' => by
            have r := rds_rep s3 (as := [a']) (ds := [d']) (vs := [v']) (by unfold rds; rw [e1]; rfl) ⟨v', [], rfl, e2', rfl⟩
            obtain ⟨v, _, e, r, _⟩ := r
            cases e
            exact r
          refine ⟨O, db, dc, one3 eb (av_ext (mt_sub s2 x3) hy), one3 ec hw, ?_⟩
          have q : Post X.K W cls O σ H2 e2 (ofOpt ((cmpEv p db dc).map .bl) e2) fun d x H' => ∀ v, Rep X.K O H' d v → Q v H' := q
          cases w2 : cmpEv p db dc with
          | none => rw [w2] at q; exact q.elim
          | some k2 =>
            rw [w2] at q
            exact ⟨k2, rfl, q H3 x3 s3 _ rfl⟩
  · rw [z] at q; exact q.elim
end
end Mp
set_option Elab.async false
set_option linter.all false
set_option maxRecDepth 100000
set_option maxHeartbeats 4000000
/-! an operation's rule by its shape; a call's -/
namespace Mp
open PySem L2
section
variable {tb : Tb} {cls : Nat → Value} {cf : CallF} {n : Nat} {N : List Str} {sc : Scope} {W : WX} {X : Cx}
/-- the parts' rules -/
inductive PVs (X : Cx) (W : WX) (cls : Nat → Value) (cf : CallF) : List E → List Expr → Prop
  | nil : PVs X W cls cf [] []
  | cons {e : E} {p : Expr} {es : List E} {ps : List Expr} : PE X p (tV X.K W cls cf e) → noStar p = true → PVs X W cls cf es ps → PVs X W cls cf (e :: es) (p :: ps)
theorem PVs.star : ∀ {es : List E} {ps : List Expr}, PVs X W cls cf es ps → ps.all noStar = true
  | _, _, .nil => rfl
  | _, _, .cons _ h r => by simp only [List.all_cons, Bool.and_eq_true]; exact ⟨h, r.star⟩
theorem PVs.pa : ∀ {es : List E} {ps : List Expr}, PVs X W cls cf es ps → PA X ps (tA X.K W cls cf es)
  | _, _, .nil => PA.imp' pa_nil fun σ H Q h => tA_nil h
  | _, _, .cons h s r => PA.imp' (pa_cons h r.pa (star_cons s)) fun σ H Q h => tA_cons h
theorem OpR.pe {op : Operator} {a b : E} {pa pb : Expr} {pos : Pos} (h : OpR X (binaryOp op) (fun x y H Q => rS X.K (pev (.bin op)) [x, y] H Q)) (ha : PE X pa (tV X.K W cls cf a)) (hb : PE X pb (tV X.K W cls cf b)) :
    PE X (.BinOp pa op pb pos) (tE X.K W cls cf (.prim (.bin op) [a, b])) := PE.imp' (pe_op h ha hb) fun σ H Q q => tA2 (tE_prim q)
theorem pt_of_b {py : Expr} {e : E} {t : TE} (h : PT X py (tTest t)) (hb : ∀ σ H Q, tE X.K W cls cf e σ H Q → t σ H Q) (hB : ∀ d env env', evE cf e env = .ok d env' → ∃ k, d = .bl k) : PT X py (tT X.K W cls cf e) := by
  refine PT.imp' h fun σ H Q q => hb _ _ _ ?_
  obtain ⟨O, env, S, p⟩ := q
  unfold truthR at p
  refine ⟨O, env, S, (p.bind (evE_kinds cf e env)).imp fun d e1 H1 ed _ s1 q v hv => ?_⟩
  obtain ⟨k, rfl⟩ := hB _ _ _ ed
  cases hv
  exact ⟨k, rfl, q.start s1⟩
theorem prim_bl {s : Sh} {es : List E} (hs : ∀ ds d, pev s ds = some d → ∃ k, d = .bl k) : ∀ d env env', evE cf (.prim s es) env = .ok d env' → ∃ k, d = .bl k := by
  intro d env env' h
  unfold evE at h
  cases q : evA cf es env with
  | ok avs e1 =>
    rw [q] at h
    simp only [R.bind_ok] at h
    cases r : rds e1 avs with
    | none => rw [r] at h; cases h
    | some ds =>
      rw [r] at h
      cases w : pev s ds with
      | none => simp only [w, ofOpt] at h; cases h
      | some d' => simp only [w, ofOpt] at h; cases h; exact hs _ _ w
  | exn x e1 => rw [q] at h; cases h
  | stuck => rw [q] at h; cases h
theorem map_bl {o : Option Bool} {d : D} (h : o.map D.bl = some d) : ∃ k, d = .bl k := by
  cases o with
  | none => cases h
  | some k => cases h; exact ⟨k, rfl⟩
theorem cmp_bl (op : CmpOp) : ∀ ds d, pev (.cmp op) ds = some d → ∃ k, d = .bl k := by
  intro ds d h
  unfold pev at h
  split at h <;> first | (cases h; done) | skip
  all_goals first | (simp_all; done) | exact map_bl h | skip
theorem chain_bl (o p : CmpOp) : ∀ ds d, pev (.chain o p) ds = some d → ∃ k, d = .bl k := by
  intro ds d h
  match ds, h with
  | [a, b, c], h =>
    have h : ((cmpEv o a b).bind fun k => if k then (cmpEv p b c).map .bl else some (.bl false)) = some d := h
    cases q : cmpEv o a b with
    | none => rw [q] at h; cases h
    | some k =>
      rw [q] at h
      cases k with
      | false => cases h; exact ⟨_, rfl⟩
      | true => exact map_bl h
  | [], h => cases h
  | [_], h => cases h
  | [_, _], h => cases h
  | _ :: _ :: _ :: _ :: _, h => cases h
theorem un_neg_ : UnR X (unaryOp .USub) (fun x H Q => rS X.K (pev (.un .USub)) [x] H Q) := by
  intro pins s σ H x v Q I rx h
  obtain ⟨O, a, ha, ho, q⟩ := rS1 h
  cases a <;> first | exact q.none.elim | skip
  cases ha
  exact un_neg pins s σ H _ v Q I rx ⟨_, rfl, q.flat rfl⟩
theorem pe_tup_ {es : List E} {ps : List Expr} {k : Nat} {pos : Pos} (h : PVs X W cls cf es ps) (hp : noPeek es = true) : PE X (.Tuple ps k pos) (tE X.K W cls cf (.prim .tup es)) := by
  refine PE.imp' (pe_tup h.pa) fun σ H Q q => ?_
  obtain ⟨O, env, S, p⟩ := tE_primP hp q
  refine ⟨O, env, S, p.imp fun avs e1 H1 _ _ s1 q vs hvs => ?_⟩
  obtain ⟨O', ds, r, ho, q⟩ := q vs hvs
  obtain ⟨hl, q⟩ := VQ.of_ite (c := ds.length ≤ 16777216) q
  exact ⟨by rw [reps_len r]; exact hl, fun p hp => q.newT r ho hp⟩
theorem pe_lst_ {es : List E} {ps : List Expr} {pos : Pos} (h : PVs X W cls cf es ps) (hp : noPeek es = true) : PE X (.List ps pos) (tE X.K W cls cf (.prim .lst es)) := by
  refine PE.imp' (pe_lst h.pa) fun σ H Q q => ?_
  obtain ⟨O, env, S, p⟩ := tE_primP hp q
  refine ⟨O, env, S, p.imp fun avs e1 H1 _ _ s1 q vs hvs => ?_⟩
  obtain ⟨O', ds, r, ho, q⟩ := q vs hvs
  obtain ⟨hl, q⟩ := VQ.of_ite (c := ds.length ≤ 16777216) q
  exact ⟨by rw [reps_len r]; exact hl, fun p hp => q.newL r ho hp⟩
/-- three parts, the last one without effects -/
theorem tE_prim3 {s : Sh} {a b c : E} (hc : pure' c = true) {σ : St} {H : Hp} {Q : VK} (h : tE X.K W cls cf (.prim s [a, b, c]) σ H Q) :
    tV X.K W cls cf a σ H fun x H1 => tV X.K W cls cf b σ H1 fun y H2 => (∃ O da db dc d, RepR X.K O H2 da x ∧ RepR X.K O H2 db y ∧ pev s [da, db, dc] = some d) ∧ tV X.K W cls cf c σ H2 fun z H3 => rS X.K (pev s) [x, y, z] H3 Q := by
  have h0 := h
  obtain ⟨O, env, S, q⟩ := h
  unfold evE at q
  rw [evA_cons] at q
  have q : Post X.K W cls O σ H env ((evV cf a env).bind fun av e1 => ((evA cf [b, c] e1).bind fun avs e2 => (match rds e2 (av :: avs) with | some ds => ofOpt (pev s ds) e2 | none => R.stuck))) fun d x H' => ∀ v, Rep X.K O H' d v → Q v H' := by
    revert q
    cases evV cf a env with
    | ok av e1 => simp only [R.bind_ok]; cases evA cf [b, c] e1 <;> exact id
    | exn x e1 => exact id
    | stuck => exact id
  refine ⟨O, env, S, (q.bind (evV_kinds a)).imp fun av e1 H1 _ x1 s1 q x hx => ⟨O, e1, s1, ?_⟩⟩
  rw [evA_cons] at q
  have q : Post X.K W cls O σ H1 e1 ((evV cf b e1).bind fun bv e2 => ((evA cf [c] e2).bind fun avs e3 => (match rds e3 (av :: bv :: avs) with | some ds => ofOpt (pev s ds) e3 | none => R.stuck))) fun d x H' => ∀ v, Rep X.K O H' d v → Q v H' := by
    revert q
    cases evV cf b e1 with
    | ok av e1 => simp only [R.bind_ok]; cases evA cf [c] e1 <;> exact id
    | exn x e1 => exact id
    | stuck => exact id
  refine (q.bind (evV_kinds b)).imp fun bv e2 H2 _ x2 s2 q y hy => ?_
  rw [evA_cons] at q
  rcases pureV_ok (cf := cf) (env := e2) hc with ⟨cv, z⟩ | z
  · rw [z] at q
    have e0 : evA cf [] e2 = .ok [] e2 := by unfold evA; rfl
    simp only [R.bind_ok, e0] at q
    cases w : rds e2 [av, bv, cv] with
    | none => rw [w] at q; exact q.elim
    | some ds =>
      rw [w] at q
      have hx2 : AVok X.K O σ H2 av x := av_ext (mt_sub s1 x2) hx
      cases y' : pev s ds with
      | none => simp only [y', ofOpt] at q; exact q.elim
      | some d =>
        simp only [y', ofOpt] at q
        have two : ∃ da db dc, ds = [da, db, dc] ∧ RepR X.K O H2 da x ∧ RepR X.K O H2 db y := by
          unfold rds at w
          cases w1 : rd e2 av with
          | none => rw [w1] at w; cases w
          | some da =>
            rw [w1] at w
            unfold rds at w
            cases w2 : rd e2 bv with
            | none => rw [w2] at w; cases w
            | some db =>
              rw [w2] at w
              unfold rds at w
              cases w3 : rd e2 cv with
              | none => rw [w3] at w; cases w
              | some dc =>
                rw [w3] at w
                unfold rds at w
                cases w
                obtain ⟨v, _, e, r1, v2, _, e', r2, _⟩ := rds_rep s2 (as := [av, bv]) (ds := [da, db]) (vs := [x, y]) (by unfold rds; rw [w1]; unfold rds; rw [w2]; rfl) ⟨x, _, rfl, hx2, y, [], rfl, hy, rfl⟩
                cases e; cases e'
                exact ⟨da, db, dc, rfl, r1, r2⟩
        obtain ⟨da, db, dc, rfl, r1, r2⟩ := two
        refine ⟨⟨O, da, db, dc, d, r1, r2, y'⟩, O, e2, s2, ?_⟩
        rw [z]
        intro H3 x3 s3 v hv
        refine ⟨O, _, rds_rep s3 w ⟨x, _, rfl, av_ext (mt_sub s2 x3) hx2, y, _, rfl, av_ext (mt_sub s2 x3) hy, v, [], rfl, hv, rfl⟩, s3.trk, d, y', fun v' H' sm r => ?_⟩
        exact q H' (x3.trans (Ext.same sm)) (s3.same sm) v' r
  · rw [z] at q; exact q.elim
/-! ### slices -/
theorem po_v {e : E} {p : Expr} (h : PE X p (tV X.K W cls cf e)) : PO X (some p) (tPart (tV X.K W cls cf e)) := po_some h
theorem slc_int {K : PySem.W.Frag} {O : PA'} {H : Hp} {b : D} {y : V} {Q : VK} {f : D → Option D} (hf : ∀ b d, f b = some d → ∃ i, b = .int i) (hb : RepR K O H b y) (q : VQ K O H Q (f b)) : ∃ i, y = .int i ∧ b = .int i := by
  obtain ⟨d, e, _⟩ := q
  obtain ⟨i, rfl⟩ := hf _ _ e
  cases hb
  exact ⟨i, rfl, rfl⟩
theorem pe_slc00 {a : E} {pa : Expr} {p2 pos : Pos} (ha : PE X pa (tV X.K W cls cf a)) : PE X (.Subscript pa (.Slice none none none p2) pos) (tE X.K W cls cf (.prim (.slc false false) [a])) := by
  refine PE.imp' (pe_slice sl_ ha po_none po_none) fun σ H Q q => tV_mono (tA1 (tE_prim q)) fun x H1 q => ?_
  obtain ⟨O, d, hd, ho, q⟩ := rS1 q
  exact ⟨O, d, hd, ho, q⟩
theorem pe_slc10 {a b : E} {pa pb : Expr} {p2 pos : Pos} (ha : PE X pa (tV X.K W cls cf a)) (hb : PE X pb (tV X.K W cls cf b)) : PE X (.Subscript pa (.Slice (some pb) none none p2) pos) (tE X.K W cls cf (.prim (.slc true false) [a, b])) := by
  refine PE.imp' (pe_slice sl_ ha (po_some hb) po_none) fun σ H Q q => tV_mono (tA2 (tE_prim q)) fun x H1 q => tV_mono q fun y H2 q => ?_
  obtain ⟨O, d, e, hd, he, ho, w⟩ := rS2 q
  clear q
  cases e <;> first | exact w.none.elim | skip
  cases he
  exact ⟨_, rfl, O, d, hd, ho, w⟩
theorem pe_slc01 {a b : E} {pa pb : Expr} {p2 pos : Pos} (ha : PE X pa (tV X.K W cls cf a)) (hb : PE X pb (tV X.K W cls cf b)) : PE X (.Subscript pa (.Slice none (some pb) none p2) pos) (tE X.K W cls cf (.prim (.slc false true) [a, b])) := by
  refine PE.imp' (pe_slice sl_ ha po_none (po_some hb)) fun σ H Q q => tV_mono (tA2 (tE_prim q)) fun x H1 q => tV_mono q fun y H2 q => ?_
  obtain ⟨O, d, e, hd, he, ho, w⟩ := rS2 q
  clear q
  cases e <;> first | exact w.none.elim | skip
  cases he
  exact ⟨_, rfl, O, d, hd, ho, w⟩
theorem pe_slc11 {a b c : E} {pa pb pc : Expr} {p2 pos : Pos} (ha : PE X pa (tV X.K W cls cf a)) (hb : PE X pb (tV X.K W cls cf b)) (hc : PE X pc (tV X.K W cls cf c)) (hp : pure' c = true) :
    PE X (.Subscript pa (.Slice (some pb) (some pc) none p2) pos) (tE X.K W cls cf (.prim (.slc true true) [a, b, c])) := by
  refine PE.imp' (pe_slice sl_ ha (po_some hb) (po_some hc)) fun σ H Q q => tV_mono (tE_prim3 hp q) fun x H1 q => tV_mono q fun y H2 q => ?_
  obtain ⟨⟨O, da, db, dc, d, ha, hb, e⟩, q⟩ := q
  have hi : ∃ i, db = .int i := by
    cases db <;> first | exact ⟨_, rfl⟩ | (exfalso; unfold pev at e; simp at e)
  obtain ⟨i, rfl⟩ := hi
  cases hb
  refine ⟨i, rfl, tV_mono q fun z H3 q => ?_⟩
  obtain ⟨O, d, e, f, hd, he, hf, ho, w⟩ := rS3 q
  clear q
  cases e <;> first | exact w.none.elim | skip
  cases f <;> first | exact w.none.elim | skip
  cases he; cases hf
  exact ⟨_, rfl, O, d, hd, ho, w⟩
/-! ### calls of built-ins -/
theorem pe_bi (C : Ctx tb cls cf n N sc W X) {b : Bi} {f : Str} {es : List E} {ps : List Expr} {p pos : Pos} (hf : biOf f = some b) (hg : bltB tb sc f = true) (h : PVs X W cls cf es ps) : PE X (.Call (.Name f p) ps [] pos) (tE X.K W cls cf (.prim (.call b) es)) := by
  unfold bltB at hg
  simp only [Bool.and_eq_true] at hg
  obtain ⟨g1, g2⟩ := gl_of C hg.1
  have hm := C.G.bl f hg.2
  have hn := (plain_of g2)
  have e1 := biOf_name hf
  subst e1
  have hv := boot_bi b
  cases h with
  | nil =>
    refine ⟨fun pins s σ H Q I q => ?_⟩
    obtain ⟨O, env, S, q⟩ := tE_prim q
    obtain ⟨O', ds, r, _, q⟩ := tA_nil (Q := fun vs H' => rS X.K (pev (.call b)) vs H' Q) ⟨O, env, S, q⟩
    cases ds with
    | nil => cases b <;> exact q.none.elim
    | cons d ds => obtain ⟨_, _, e, _⟩ := r; cases e
  | cons h1 h2 h3 =>
    have pa := (PVs.cons h1 h2 h3).pa
    have hc := call_bi C.calm b
    refine PE.imp' (t := tCB (fun vs H Q => rS X.K (callEv b) vs H Q) (tA X.K W cls cf (_ :: _))) ?_ fun σ H Q q => tE_prim q
    cases b <;> first
      | exact pe_callB hc g1 hm hv pa hn.2.2 hn.1 (star_cons h2) (star_pl h3.star)
      | exact pe_callTy hc g1 hm hv pa hn.2.2 hn.1 (star_cons h2) (star_pl h3.star)
theorem pe_isi (C : Ctx tb cls cf n N sc W X) {t : Ty} {x : Str} {e : E} {pe : Expr} {p p2 pos : Pos} (hx : tyOf x = some t) (hg : bltB tb sc "isinstance" = true) (hgt : bltB tb sc x = true) (h : PE X pe (tV X.K W cls cf e)) (hs : noStar pe = true) :
    PE X (.Call (.Name "isinstance" p) [pe, .Name x p2] [] pos) (tE X.K W cls cf (.prim (.isi t) [e])) := by
  unfold bltB at hg hgt
  simp only [Bool.and_eq_true] at hg hgt
  obtain ⟨g1, g2⟩ := gl_of C hg.1
  obtain ⟨t1, t2⟩ := gl_of C hgt.1
  have hn := plain_of g2
  have hn2 := plain_of t2
  have e1 := tyOf_name hx
  subst e1
  have pt : PE X (.Name (tyS t) p2) (tC (.ty (tyN t))) := pe_bltn t1 (C.G.bl _ hgt.2) (boot_ty t) rfl hn2.2.2 hn2.1
  have pa : PA X [pe, .Name (tyS t) p2] (tCons (tV X.K W cls cf e) (tCons (tC (.ty (tyN t))) tNil)) := pa_cons h (pa_cons pt pa_nil (star_cons rfl)) (star_cons hs)
  refine PE.imp' (pe_callB (isi_ t) g1 (C.G.bl _ hg.2) (by decide +kernel) pa hn.2.2 hn.1 (star_cons hs) (star_pl (by rfl))) fun σ H Q q => ?_
  refine tV_mono (tA1 (tE_prim q)) fun v H1 q => ?_
  obtain ⟨O, d, hd, ho, q⟩ := rS1 q
  exact ⟨O, d, v, rfl, hd, VQ.b q⟩
end
end Mp
set_option Elab.async false
set_option linter.all false
set_option maxRecDepth 100000
set_option maxHeartbeats 2000000
/-! calls of defs: what is handed over, what comes back -/
namespace Mp
open PySem L2
section
variable {K : PySem.W.Frag} {W : WX} {cls : Nat → Value} {O : PA'} {σ : St} {H H' : Hp} {env : Env} {cf : CallF}
theorem hand_at : ∀ {avs : List AV} {sls : List Sl} {vs : List V}, Sim K O σ H env → AVs K O σ H avs vs → hand env avs = some sls → sls.length = vs.length ∧
    ∀ (i : Nat) (s : Sl), sls[i]? = some s → ∃ v, vs[i]? = some v ∧ ((∃ d, s = .val d ∧ Rep K O H d v) ∨ ∃ j d, s = .io d ∧ avs[i]? = some (.slot j) ∧ σ[j]? = some (some v) ∧ (env[j]? = some (.own d) ∨ env[j]? = some (.io d)))
  | [], _, _, S, h, e => by
    cases e; cases h
    exact ⟨rfl, fun i s h => by simp at h⟩
  | .val d :: r, sls, _, S, ⟨v, t, ev, h1, h2⟩, e => by
    subst ev
    unfold hand at e
    cases q : hand env r with
    | none => rw [q] at e; cases e
    | some ss =>
      rw [q] at e
      cases e
      obtain ⟨hl, ih⟩ := hand_at S h2 q
      refine ⟨by simp [hl], fun i s hs => ?_⟩
      cases i with
      | zero => simp at hs; subst hs; exact ⟨v, rfl, .inl ⟨d, rfl, h1⟩⟩
      | succ i =>
        obtain ⟨w, hw, z⟩ := ih i s (by simpa using hs)
        exact ⟨w, by simpa using hw, by simpa using z⟩
  | .slot j :: r, sls, _, S, ⟨v, t, ev, h1, h2⟩, e => by
    subst ev
    have h1 : σ[j]? = some (some v) := h1
    unfold hand at e
    have go : ∀ s0, (∃ ss, hand env r = some ss ∧ sls = s0 :: ss) → ((∃ d, s0 = .val d ∧ Rep K O H d v) ∨ ∃ d, s0 = .io d ∧ (env[j]? = some (.own d) ∨ env[j]? = some (.io d))) → sls.length = (v :: t).length ∧
        ∀ (i : Nat) (s : Sl), sls[i]? = some s → ∃ w, (v :: t)[i]? = some w ∧ ((∃ d, s = .val d ∧ Rep K O H d w) ∨ ∃ j' d, s = .io d ∧ (AV.slot j :: r)[i]? = some (.slot j') ∧ σ[j']? = some (some w) ∧ (env[j']? = some (.own d) ∨ env[j']? = some (.io d))) := fun s0 ⟨ss, q, es⟩ h0 => by
      subst es
      obtain ⟨hl, ih⟩ := hand_at S h2 q
      refine ⟨by simp [hl], fun i s hs => ?_⟩
      cases i with
      | zero =>
        simp at hs; subst hs
        refine ⟨v, rfl, ?_⟩
        rcases h0 with ⟨d, e, r⟩ | ⟨d, e, r⟩
        · exact .inl ⟨d, e, r⟩
        · exact .inr ⟨j, d, e, rfl, h1, r⟩
      | succ i =>
        obtain ⟨w, hw, z⟩ := ih i s (by simpa using hs)
        exact ⟨w, by simpa using hw, by simpa using z⟩
    cases q1 : env[j]? with
    | none => rw [q1] at e; cases e
    | some s =>
      rw [q1] at e
      cases q : hand env r with
      | none => rw [q] at e; cases s <;> cases e
      | some ss =>
        rw [q] at e
        cases s with
        | none => cases e
        | val d =>
          cases e
          obtain ⟨w, hw, rw_⟩ := S.val j d q1
          rw [h1] at hw; cases hw
          exact go (.val d) ⟨ss, q, rfl⟩ (.inl ⟨d, rfl, rw_⟩)
        | own d => cases e; exact go (.io d) ⟨ss, q, rfl⟩ (.inr ⟨d, rfl, .inl q1⟩)
        | io d => cases e; exact go (.io d) ⟨ss, q, rfl⟩ (.inr ⟨d, rfl, .inr q1⟩)
theorem io_mem : ∀ {avs : List AV} {i j : Nat} {d : D}, avs[i]? = some (.slot j) → (env[j]? = some (.own d) ∨ env[j]? = some (.io d)) → j ∈ ioOf env avs
  | [], _, _, _, h, _ => by simp at h
  | .val _ :: r, 0, _, _, h, _ => by simp at h
  | .val _ :: r, i + 1, j, d, h, m => by
    unfold ioOf
    exact io_mem (by simpa using h) m
  | .slot k :: r, 0, j, d, h, m => by
    simp at h; subst h
    unfold ioOf
    rcases m with m | m <;> rw [m] <;> exact List.mem_cons_self
  | .slot k :: r, i + 1, j, d, h, m => by
    have ih := io_mem (avs := r) (i := i) (by simpa using h) m
    unfold ioOf
    split
    · exact List.mem_cons_of_mem _ ih
    · exact List.mem_cons_of_mem _ ih
    · exact ih
theorem io_mut : ∀ {avs : List AV} {j : Nat}, j ∈ ioOf env avs → ∃ d, env[j]? = some (.own d) ∨ env[j]? = some (.io d)
  | [], _, h => by simp [ioOf] at h
  | .val _ :: r, _, h => io_mut (avs := r) h
  | .slot k :: r, j, h => by
    unfold ioOf at h
    split at h
    · rename_i d e
      rcases List.mem_cons.mp h with h | h
      · subst h; exact ⟨d, .inl e⟩
      · exact io_mut h
    · rename_i d e
      rcases List.mem_cons.mp h with h | h
      · subst h; exact ⟨d, .inr e⟩
      · exact io_mut h
    · exact io_mut h
theorem nodupB_of : ∀ {l : List Nat}, nodupB l = true → l.Nodup
  | [], _ => List.nodup_nil
  | x :: r, h => by
    simp only [nodupB, Bool.and_eq_true, Bool.not_eq_true', List.contains_eq_mem, decide_eq_false_iff_not] at h
    exact List.nodup_cons.mpr ⟨h.1, nodupB_of h.2⟩
theorem io_one : ∀ {avs : List AV} {i i' j : Nat} {d : D}, (ioOf env avs).Nodup → avs[i]? = some (.slot j) → avs[i']? = some (.slot j) → (env[j]? = some (.own d) ∨ env[j]? = some (.io d)) → i = i'
  | [], _, _, _, _, _, h, _, _ => by simp at h
  | a :: r, 0, 0, _, _, _, _, _, _ => rfl
  | a :: r, i + 1, 0, j, d, nd, h, h', m => (io_one (avs := a :: r) (i := 0) (i' := i + 1) nd h' h m).symm
  | a :: r, 0, i + 1, j, d, nd, h, h', m => by
    simp at h; subst h
    have m2 := io_mem (avs := r) (i := i) (by simpa using h') m
    unfold ioOf at nd
    rcases m with m | m <;> (rw [m] at nd; exact absurd m2 (List.nodup_cons.mp nd).1)
  | .val _ :: r, i + 1, i' + 1, j, d, nd, h, h', m => by
    have := io_one (avs := r) (i := i) (i' := i') nd (by simpa using h) (by simpa using h') m
    rw [this]
  | .slot k :: r, i + 1, i' + 1, j, d, nd, h, h', m => by
    have nd' : (ioOf env r).Nodup := by
      unfold ioOf at nd
      split at nd
      · exact (List.nodup_cons.mp nd).2
      · exact (List.nodup_cons.mp nd).2
      · exact nd
    have := io_one (avs := r) (i := i) (i' := i') nd' (by simpa using h) (by simpa using h') m
    rw [this]
theorem mtV {vs : List V} {ks : List Nat} {a : Addr} (h : Mt (vs.map some) ks a) : ∃ (i k : Nat), ks[i]? = some k ∧ k ≠ 0 ∧ vs[i]? = some (.ref a) := by
  obtain ⟨i, k, h1, h2, h3⟩ := h
  refine ⟨i, k, h1, h2, ?_⟩
  rw [List.getElem?_map] at h3
  cases q : vs[i]? with
  | none => rw [q] at h3; cases h3
  | some v => rw [q] at h3; simp at h3; rw [h3]
theorem mapS {vs : List V} {i : Nat} {v : V} (h : vs[i]? = some v) : (vs.map some)[i]? = some (some v) := by rw [List.getElem?_map, h]; rfl
theorem mapS' {vs : List V} {i : Nat} {v : V} (h : (vs.map some)[i]? = some (some v)) : vs[i]? = some v := by
  rw [List.getElem?_map] at h
  cases q : vs[i]? with
  | none => rw [q] at h; cases h
  | some w => rw [q] at h; simpa using h
theorem hand_sim {avs : List AV} {sls : List Sl} {vs : List V} (S : Sim K O σ H env) (h : AVs K O σ H avs vs) (e : hand env avs = some sls) (nd : (ioOf env avs).Nodup) :
    Sim K O (vs.map some) H sls ∧ (∀ s ∈ sls, kd s = 1 → False) ∧ ∀ s ∈ sls, s ≠ .none := by
  obtain ⟨hl, at_⟩ := hand_at S h e
  refine ⟨⟨by simp [hl], fun i d q => ?_, fun i d q => ?_, fun i i' a s t e1 e2 k1 k2 e3 e4 => ?_, S.trk⟩, fun s hs k => ?_, fun s hs k => ?_⟩
  · obtain ⟨v, hv, z⟩ := at_ i _ q
    rcases z with ⟨d', e, r⟩ | ⟨j, d', e, _⟩
    · cases e; exact ⟨v, mapS hv, r⟩
    · cases e
  · rcases q with q | q
    · obtain ⟨v, hv, z⟩ := at_ i _ q
      rcases z with ⟨d', e, r⟩ | ⟨j, d', e, _⟩ <;> cases e
    · obtain ⟨v, hv, z⟩ := at_ i _ q
      rcases z with ⟨d', e, r⟩ | ⟨j, d', e, _, hj, m⟩
      · cases e
      · cases e
        obtain ⟨a, ha, oa, c⟩ := S.cel j d m
        rw [hj] at ha; cases ha
        exact ⟨a, mapS hv, oa, c⟩
  · have key : ∀ (i : Nat) (s : Sl), sls[i]? = some s → kd s ≠ 0 → (vs.map some)[i]? = some (some (.ref a)) → ∃ (j : Nat) (d : D), avs[i]? = some (.slot j) ∧ σ[j]? = some (some (.ref a)) ∧ (env[j]? = some (.own d) ∨ env[j]? = some (.io d)) := fun i s q k e3 => by
      obtain ⟨v, hv, z⟩ := at_ i _ q
      have := mapS' e3
      rw [hv] at this; cases this
      rcases z with ⟨d', e, r⟩ | ⟨j, d', e, ea, hj, m⟩
      · subst e; exact absurd rfl k
      · exact ⟨j, d', ea, hj, m⟩
    obtain ⟨j, d, a1, b1, m1⟩ := key i s e1 k1 e3
    obtain ⟨j', d', a2, b2, m2⟩ := key i' t e2 k2 e4
    have ej : j = j' := by
      rcases m1 with m1 | m1 <;> rcases m2 with m2 | m2
      · exact S.inj j j' a _ _ m1 m2 (kd_own _) (kd_own _) b1 b2
      · exact S.inj j j' a _ _ m1 m2 (kd_own _) (kd_io _) b1 b2
      · exact S.inj j j' a _ _ m1 m2 (kd_io _) (kd_own _) b1 b2
      · exact S.inj j j' a _ _ m1 m2 (kd_io _) (kd_io _) b1 b2
    subst ej
    exact io_one nd a1 a2 m1
  · obtain ⟨i, hi⟩ := List.getElem?_of_mem hs
    obtain ⟨v, hv, z⟩ := at_ i _ hi
    rcases z with ⟨d', e, r⟩ | ⟨j, d', e, _⟩ <;> (subst e; simp [kd] at k)
  · obtain ⟨i, hi⟩ := List.getElem?_of_mem hs
    obtain ⟨v, hv, z⟩ := at_ i _ hi
    rcases z with ⟨d', e, r⟩ | ⟨j, d', e, _⟩ <;> (subst e; cases k)
theorem hand_mt {avs : List AV} {sls : List Sl} {vs : List V} (S : Sim K O σ H env) (h : AVs K O σ H avs vs) (e : hand env avs = some sls) {a : Addr} (m : Mt (vs.map some) (kinds sls) a) :
    ∃ (i j : Nat) (d : D), avs[i]? = some (.slot j) ∧ σ[j]? = some (some (.ref a)) ∧ (env[j]? = some (.own d) ∨ env[j]? = some (.io d)) := by
  obtain ⟨hl, at_⟩ := hand_at S h e
  obtain ⟨i, k, h1, h2, h3⟩ := mtV m
  rw [List.getElem?_map] at h1
  cases q : sls[i]? with
  | none => rw [q] at h1; cases h1
  | some s =>
    rw [q] at h1
    simp at h1
    obtain ⟨v, hv, z⟩ := at_ i _ q
    rw [h3] at hv; cases hv
    rcases z with ⟨d', e, r⟩ | ⟨j, d', e, ea, hj, m⟩
    · subst e; exact absurd h1.symm h2
    · exact ⟨i, j, d', ea, hj, m⟩
theorem back_get : ∀ {is : List Nat} {ds : List D} {env env' : Env}, is.Nodup → back env is ds = some env' → ∀ (j : Nat) (s' : Sl), env'[j]? = some s' →
    (j ∉ is ∧ env[j]? = some s') ∨ ∃ (p : Nat) (d : D) (s : Sl), is[p]? = some j ∧ ds[p]? = some d ∧ env[j]? = some s ∧ s' = reset d s
  | [], [], _, _, _, h, j, s', e => by simp [back] at h; subst h; exact .inl ⟨by simp, e⟩
  | [], _ :: _, _, _, _, h, _, _, _ => by simp [back] at h
  | _ :: _, [], _, _, _, h, _, _, _ => by simp [back] at h
  | i :: is, d :: ds, env, env', nd, h, j, s', e => by
    unfold back at h
    obtain ⟨n1, n2⟩ := List.nodup_cons.mp nd
    cases q : env[i]? with
    | none => rw [q] at h; cases h
    | some s =>
      rw [q] at h
      have hi : i < env.length := (List.getElem?_eq_some_iff.mp q).1
      rcases back_get n2 h j s' e with ⟨hj, e2⟩ | ⟨p, d', t, e1, e2, e3, e4⟩
      · by_cases hji : i = j
        · subst hji
          rw [List.getElem?_set_self hi] at e2
          cases e2
          exact .inr ⟨0, d, s, rfl, rfl, q, rfl⟩
        · rw [List.getElem?_set_ne hji] at e2
          exact .inl ⟨by simp only [List.mem_cons, not_or]; exact ⟨fun z => hji z.symm, hj⟩, e2⟩
      · have hji : i ≠ j := fun z => n1 (by subst z; exact List.mem_of_getElem? e1)
        rw [List.getElem?_set_ne hji] at e3
        exact .inr ⟨p + 1, d', t, by simpa using e1, by simpa using e2, e3, e4⟩
theorem outs_at : ∀ {avs : List AV} {sls sls' : List Sl}, hand env avs = some sls → kinds sls' = kinds sls → ∀ (p j : Nat) (d : D), (ioOf env avs)[p]? = some j → (outsOf sls')[p]? = some d → ∃ (i : Nat), avs[i]? = some (.slot j) ∧ sls'[i]? = some (.io d)
  | [], _, _, _, _, p, j, d, h, _ => by simp [ioOf] at h
  | a :: r, sls, sls', e, hk, p, j, d, h1, h2 => by
    have split : ∃ s0 ss, sls = s0 :: ss ∧ hand env r = some ss ∧ ((kd s0 = 0 ∧ ioOf env (a :: r) = ioOf env r) ∨ ∃ k, a = .slot k ∧ kd s0 = 2 ∧ ioOf env (a :: r) = k :: ioOf env r) := by
      cases a with
      | val d =>
        unfold hand at e
        cases q : hand env r with
        | none => rw [q] at e; cases e
        | some ss => rw [q] at e; cases e; exact ⟨_, ss, rfl, rfl, .inl ⟨rfl, rfl⟩⟩
      | slot k =>
        unfold hand at e
        cases q1 : env[k]? with
        | none => rw [q1] at e; cases e
        | some s =>
          rw [q1] at e
          cases q : hand env r with
          | none => rw [q] at e; cases s <;> cases e
          | some ss =>
            rw [q] at e
            cases s with
            | none => cases e
            | val d => cases e; exact ⟨_, ss, rfl, rfl, .inl ⟨rfl, by conv => lhs; unfold ioOf; simp only [q1]⟩⟩
            | own d => cases e; exact ⟨_, ss, rfl, rfl, .inr ⟨k, rfl, rfl, by conv => lhs; unfold ioOf; simp only [q1]⟩⟩
            | io d => cases e; exact ⟨_, ss, rfl, rfl, .inr ⟨k, rfl, rfl, by conv => lhs; unfold ioOf; simp only [q1]⟩⟩
    obtain ⟨s0, ss, rfl, q, z⟩ := split
    cases sls' with
    | nil => cases hk
    | cons t0 ts =>
      have hk1 : kd t0 = kd s0 ∧ kinds ts = kinds ss := by
        have hk' : kd t0 :: kinds ts = kd s0 :: kinds ss := hk
        exact List.cons.inj hk'
      rcases z with ⟨k0, e0⟩ | ⟨k, rfl, k2, e0⟩
      · rw [e0] at h1
        have e1 : outsOf (t0 :: ts) = outsOf ts := by
          unfold outsOf
          rw [List.filterMap_cons]
          cases t0 <;> first | rfl | (rw [k0] at hk1; exact absurd hk1.1 (by simp [kd]))
        rw [e1] at h2
        obtain ⟨i, h3, h4⟩ := outs_at q hk1.2 p j d h1 h2
        exact ⟨i + 1, by simpa using h3, by simpa using h4⟩
      · rw [e0] at h1
        have : ∃ d0, t0 = .io d0 := by
          rw [k2] at hk1
          cases t0 <;> first | exact ⟨_, rfl⟩ | exact absurd hk1.1 (by simp [kd])
        obtain ⟨d0, rfl⟩ := this
        have e1 : outsOf (.io d0 :: ts) = d0 :: outsOf ts := rfl
        rw [e1] at h2
        cases p with
        | zero =>
          simp at h1 h2
          subst h1 h2
          exact ⟨0, rfl, rfl⟩
        | succ p =>
          obtain ⟨i, h3, h4⟩ := outs_at q hk1.2 p j d (by simpa using h1) (by simpa using h2)
          exact ⟨i + 1, by simpa using h3, by simpa using h4⟩
theorem cell_sub {O' : PA'} (sb : ∀ a, H a ≠ none → O' a → O a) {d : D} {a : Addr} (h : Cell K O H d a) : Cell K O' H d a := by
  cases d <;> simp only [Cell] at h ⊢
  obtain ⟨vs, h1, h2⟩ := h
  exact ⟨vs, h1, reps_sub sb h2⟩
theorem back_simO {O' : PA'} {avs : List AV} {sls sls' : List Sl} {vs : List V} {env' : Env} (S : Sim K O σ H env) (o1 : ∀ a, O a → O' a) (o2 : ∀ a, O' a → O a ∨ H a = none) (h : AVs K O σ H avs vs) (e : hand env avs = some sls) (nd : (ioOf env avs).Nodup)
    (x : Ext (Mt (vs.map some) (kinds sls)) H H') (hk : kinds sls' = kinds sls) (S' : Sim K O' (vs.map some) H' sls') (hb : back env (ioOf env avs) (outsOf sls') = some env') :
    Ext (Mt σ (kinds env)) H H' ∧ Sim K O' σ H' env' := by
  have xm : Ext (Mt σ (kinds env)) H H' := x.mono fun a m => by
    obtain ⟨i, j, d, _, hj, m⟩ := hand_mt S h e m
    rcases m with m | m
    · exact mt_of m (kd_own _) hj
    · exact mt_of m (kd_io _) hj
  have xO : Ext O' H H' := xm.mono fun a m => o1 a (S.mtO a m)
  have sb : ∀ a, H a ≠ none → O' a → O a := fun a n z => (o2 a z).resolve_right n
  have kk := back_kinds hb
  refine ⟨xm, ⟨by rw [S.len]; exact (kinds_len kk).symm, fun j d q => ?_, fun j d q => ?_, fun i j a s t e1 e2 k1 k2 e3 e4 => ?_, S'.trk⟩⟩
  · rcases back_get nd hb j _ q with ⟨_, q⟩ | ⟨p, d', s, e1, e2, e3, e4⟩
    · obtain ⟨v, h1, h2⟩ := S.val j d q
      exact ⟨v, h1, rep_ext xO (rep_sub sb h2)⟩
    · obtain ⟨d0, m⟩ := io_mut (List.mem_of_getElem? e1)
      rcases m with m | m <;> (rw [e3] at m; cases m; cases e4)
  · have get : ∀ s', env'[j]? = some s' → (s' = .own d ∨ s' = .io d) → ∃ a, σ[j]? = some (some (.ref a)) ∧ O' a ∧ Cell K O' H' d a := fun s' q es => by
      rcases back_get nd hb j _ q with ⟨nj, q⟩ | ⟨p, d', s, e1, e2, e3, e4⟩
      · obtain ⟨a, h1, h2, h3⟩ := S.cel j d (by rcases es with rfl | rfl; exact .inl q; exact .inr q)
        have na : ¬ Mt (vs.map some) (kinds sls) a := fun m => by
          obtain ⟨i, j', d', ha, hj, m⟩ := hand_mt S h e m
          have ej : j' = j := by
            rcases es with rfl | rfl <;> rcases m with m | m
            · exact S.inj j' j a _ _ m q (kd_own _) (kd_own _) hj h1
            · exact S.inj j' j a _ _ m q (kd_io _) (kd_own _) hj h1
            · exact S.inj j' j a _ _ m q (kd_own _) (kd_io _) hj h1
            · exact S.inj j' j a _ _ m q (kd_io _) (kd_io _) hj h1
          subst ej
          exact nj (io_mem ha m)
        exact ⟨a, h1, o1 a h2, cell_ext xO (fun vs q => x _ _ q na) (cell_sub sb h3)⟩
      · have ed : d' = d := by
          rcases es with rfl | rfl <;> (cases s <;> simp [reset] at e4 <;> first | exact e4.symm | (obtain ⟨d0, m⟩ := io_mut (List.mem_of_getElem? e1); rcases m with m | m <;> (rw [e3] at m; cases m)))
        subst ed
        obtain ⟨i, ha, hi⟩ := outs_at e hk p j d' e1 e2
        obtain ⟨a, h1, h2, h3⟩ := S'.cel i d' (.inr hi)
        have hv := mapS' h1
        obtain ⟨hl, at_⟩ := hand_at S h e
        have hlen : i < sls.length := by
          have := kinds_len hk
          rw [← this]
          exact (List.getElem?_eq_some_iff.mp hi).1
        obtain ⟨v, hv', z⟩ := at_ i _ (List.getElem?_eq_getElem hlen)
        rw [hv] at hv'; cases hv'
        rcases z with ⟨d2, e5, _⟩ | ⟨j2, d2, e5, e6, e7, _⟩
        · exfalso
          obtain ⟨t, ht, kt⟩ := kinds_at hk (List.getElem?_eq_getElem hlen)
          rw [hi] at ht; cases ht
          rw [e5] at kt
          simp [kd] at kt
        · rw [ha] at e6; cases e6
          exact ⟨a, e7, h2, h3⟩
    rcases q with q | q
    · exact get _ q (.inl rfl)
    · exact get _ q (.inr rfl)
  · obtain ⟨s1, q1, r1⟩ := kinds_at kk.symm e1
    obtain ⟨t1, q2, r2⟩ := kinds_at kk.symm e2
    exact S.inj i j a s1 t1 q1 q2 (by rw [r1]; exact k1) (by rw [r2]; exact k2) e3 e4
theorem back_sim {avs : List AV} {sls sls' : List Sl} {vs : List V} {env' : Env} (S : Sim K O σ H env) (h : AVs K O σ H avs vs) (e : hand env avs = some sls) (nd : (ioOf env avs).Nodup)
    (x : Ext (Mt (vs.map some) (kinds sls)) H H') (hk : kinds sls' = kinds sls) (S' : Sim K O (vs.map some) H' sls') (hb : back env (ioOf env avs) (outsOf sls') = some env') :
    Ext (Mt σ (kinds env)) H H' ∧ Sim K O σ H' env' := back_simO S (fun _ z => z) (fun _ z => .inl z) h e nd x hk S' hb
theorem tE_call {f : Nat} {es : List E} {Q : VK} (hf : f % 2 = 0) (h : tE K W cls cf (.call f es) σ H Q) : tA K W cls cf es σ H fun vs H1 => spF K cls cf f vs H1 Q (WE W σ) := by
  obtain ⟨O, env, S, p⟩ := h
  unfold evE at p
  refine ⟨O, env, S, (p.bind (evA_kinds cf es env)).imp fun avs e1 H1 _ _ s1 q vs hvs => ?_⟩
  cases z : hand e1 avs with
  | none => rw [z] at q; exact q.elim
  | some sls =>
    rw [z] at q
    simp only [] at q
    by_cases hn : nodupB (ioOf e1 avs) = true
    · rw [if_pos hn] at q
      have nd := nodupB_of hn
      obtain ⟨s2, o2, n2⟩ := hand_sim s1 hvs z nd
      refine ⟨O, sls, s2, o2, n2, ?_⟩
      cases w : cf f sls with
      | stuck => rw [w] at q; exact q.elim
      | ok d outs =>
        rw [w] at q
        simp only [] at q ⊢
        rw [if_pos hf]
        intro v H' sls' x hk ho S' r
        subst ho
        cases b : back e1 (ioOf e1 avs) (outsOf sls') with
        | none => rw [b] at q; exact q.elim
        | some e2 =>
          rw [b] at q
          obtain ⟨x2, s3⟩ := back_sim s1 hvs z nd x hk S' b
          exact q H' x2 s3 v r
      | exn y outs =>
        rw [w] at q
        simp only [] at q ⊢
        intro H' sls' x hk ho S'
        subst ho
        cases b : back e1 (ioOf e1 avs) (outsOf sls') with
        | none => rw [b] at q; exact q.elim
        | some e2 =>
          rw [b] at q
          obtain ⟨x2, s3⟩ := back_sim s1 hvs z nd x hk S' b
          exact q H' x2 s3
    · rw [if_neg hn] at q; exact q.elim
end
end Mp
set_option Elab.async false
set_option linter.all false
set_option maxRecDepth 100000
set_option maxHeartbeats 2000000
/-! enumerate over a tuple -/
namespace PySem
open Sem (wp)
open AutoSeq1 (wpAny_loadPart')
theorem meets_enumerate_newT {v : Value} {o : Obj} {H : Heap → Prop} (B : Begins v o H) :
    Meets (Builtin.«enumerate.__new__» ⟨[.type "enumerate", v], []⟩) (fun _ R s => H s.heap ∧
      R (.ok (.ret (.ref (s.heap.push o).objs.size))) { s with heap := (s.heap.push o).push { cls := .type "enumerate", data := .fields #[.none, .bool false, .ref s.heap.objs.size, rawInt 0, .none, .none] } }) :=
  .of_wp fun prog w A R s h => by
    obtain ⟨hp, g, d, tk, os⟩ := s; obtain ⟨h1, h⟩ := h
    have hsub := sub_enumerate
    have q1 : ∀ {A' : Around} {E : Value → Shared → Prop} {Q : Value → Shared → Prop}, Q (.ref hp.objs.size) ⟨hp.push o, g, d, tk, os⟩ → wpAny (model prog w) A' (pyIter v) Q E ⟨hp, g, d, tk, os⟩ :=
      fun q => B.iter prog w _ _ ⟨hp, g, d, tk, os⟩ _ h1 q
    wp_walk using q1
    refine wpAny_stack_any fun st => wpAny_pure ?_
    split
    · rename_i c _ _ _ _ _
      cases (c == Value.type "enumerate")
      · wp_walk using q1
        exact ⟨_, rfl, h⟩
      · wp_walk using q1
        exact ⟨_, rfl, h⟩
    · wp_walk using q1
      exact ⟨_, rfl, h⟩
section
variable {prog : Program} {w : World} {A : Around} {E : Value → Shared → Prop} {s : Shared}
theorem call_enumerate_B {v : Value} {o : Obj} {H : Heap → Prop} {Q : Value → Shared → Prop} (B : Begins v o H) (h1 : H s.heap)
    (h : ∀ h', IsEnum h' (s.heap.objs.size + 1) s.heap.objs.size 0 .none → h'.get? s.heap.objs.size = some o → h'.objs.size = s.heap.objs.size + 2 →
      (∀ b o, s.heap.get? b = some o → h'.get? b = some o) → Q (.ref (s.heap.objs.size + 1)) { s with heap := h' }) :
    wpAny (model prog w) A (call (.type "enumerate") [v]) Q E s := by
  refine callType_new F.called_enumerate (by decide) (F.typeCall_enumerate_1 _) (F.newCall_enumerate_1 _) (fun obj => F.args_object_init_2 obj _) F.entry_enumerate_new
    (meets_enumerate_newT B) ⟨h1, ?_⟩
  have hz : (s.heap.push o).objs.size = s.heap.objs.size + 1 := Heap.size_push ..
  show _ ∧ _
  rw [hz]
  have he : IsEnum ((s.heap.push o).push { cls := .type "enumerate", data := .fields #[.none, .bool false, .ref s.heap.objs.size, rawInt 0, .none, .none] }) (s.heap.objs.size + 1) s.heap.objs.size 0 .none := by
    have := Heap.get?_push_size (s.heap.push o) (o := { cls := .type "enumerate", data := .fields #[.none, .bool false, .ref s.heap.objs.size, rawInt 0, .none, .none] }) rfl
    rw [hz] at this; exact this
  refine ⟨⟨_, he, rfl⟩, h _ he (Heap.get?_push_of_some _ (Heap.get?_push_size _ B.free)) (by rw [Heap.size_push, hz]) fun b o x => Heap.get?_push_of_some _ (Heap.get?_push_of_some _ x)⟩
theorem enumT_end {e it l : Addr} {i : Nat} {items : Array Value} {old : Value} {Q : Option Value → Shared → Prop} (hh : A.handled = none)
    (he : IsEnum s.heap e it i old) (hit : s.heap.IsTupleIter it l i) (hl : s.heap.IsTuple l items) (hx : items[i]? = none)
    (hQ : ∀ h', Heap.ExtBut it s.heap h' → Q none { s with heap := h' }) : wpAny (model prog w) A (pyNext (.ref e)) Q E s := by
  have hT : s.TypeIs (.ref e) "enumerate" := ⟨_, he, rfl⟩
  unfold pyNext
  refine wpAny_bind (wpAny_attempt (wpAny_callSpecial?_slot (name := Str.ofString "__next__") hT F.slot_enumerate_next
    (wpAny_call_entry F.slot_enumerate_next hT F.entry_enumerate_next ?_ (F.args_enumerate_next_1 _))))
  show wpAny _ _ (field (.ref e) 2 >>= _) _ _ _
  refine wpAny_bind (wpAny_field he rfl (x := .ref it) rfl ?_)
  refine wpAny_bind (RZ.nextOf_tuple_end hh hit hl hx fun h' x he' hx' => ?_)
  obtain ⟨o, ho, hc⟩ := hx'
  refine wpAny_bind (wpAny_isInstance (T := "StopIteration") (b := true) ⟨o, ho, hc⟩ isSubtype_stop ?_)
  exact wpAny_pure (hQ _ he')
end
end PySem
namespace RZ
open PySem PySem.Spec PyProof.Rows L2
/-- the tuple at a as it stands at each turn, each item in a new pair -/
def IteT (K : PySem.W.Frag) (a : Addr) : It :=
  ⟨fun i H => ∃ (xs : List V) (x : V), SqT K H a xs ∧ xs[i]? = some x, fun i H v H' => ∃ T x, v = .ref T ∧ H T = none ∧ H' = upd H T (.tup [.int (i : Nat), x]) ∧ ∀ xs, SqT K H a xs → xs[i]? = some x, fun i H => ∃ xs : List V, SqT K H a xs ∧ xs.length ≤ i⟩
theorem tupIter_ne {h : Heap} {it a : Addr} {i : Nat} {items : Array Value} (h1 : h.IsTupleIter it a i) (h2 : h.IsTuple a items) : a ≠ it := by
  intro e
  subst e
  obtain ⟨o, e1, c1, _⟩ := h1
  obtain ⟨o', e2, c2, _⟩ := h2
  rw [e1] at e2
  cases e2
  rw [c1] at c2
  injection c2 with c3
  exact absurd c3 (by decide)
theorem enum_tup_ne {h : Heap} {e it a : Addr} {c : Int} {old : Value} {items : Array Value} (h1 : IsEnum h e it c old) (h2 : h.IsTuple a items) : e ≠ a := by
  intro q
  subst q
  obtain ⟨o', e2, c2, _⟩ := h2
  have h1 : h.get? e = _ := h1
  rw [h1] at e2
  cases e2
  have c2 : Value.type "enumerate" = Value.type "tuple" := c2
  injection c2 with c3
  exact absurd c3 (by decide)
theorem turn_enumT {P : Program} {w : World} {K : PySem.W.Frag} {elts : List Expr} {kk : Nat} {tpos : Pos} (a e it : Addr) :
    Turn P w K (.Tuple elts kk tpos) (IteT K a) [e, it] e (fun i h => (∃ old, IsEnum h e it ((i : Nat) : Int) old) ∧ h.IsTupleIter it a i ∧ e ≠ it) where
  mem := by simp
  obj := fun i h st b hb => by
    obtain ⟨⟨old, he⟩, ⟨o, ho, hc, hd⟩, _⟩ := st
    have e' : b = e ∨ b = it := by simpa using hb
    rcases e' with z | z
    · rw [z]; exact ⟨_, he, fun v q => nomatch q⟩
    · rw [z]; exact ⟨o, ho, fun v q => by rw [hd] at q; cases q⟩
  keep := fun i h h' st k => let ⟨⟨old, he⟩, hi, hne⟩ := st; ⟨⟨old, k e (by simp) _ he⟩, hi.at fun o q => k it (by simp) o q, hne⟩
  item := by
    intro X hP hw hK hc i pins s σ H E I hf st hg
    subst hP hw hK
    obtain ⟨⟨old, he⟩, hit, hne⟩ := st
    obtain ⟨xs, x, hq, hx⟩ := hg
    obtain ⟨its, rv, p, hz⟩ := I.tuple hq
    obtain ⟨u, hu, ru⟩ := rv.get hx
    have p : s.heap.IsTuple a its.toArray := p
    have hel : e < s.heap.objs.size := Heap.lt_size he
    have hil : it < s.heap.objs.size := by obtain ⟨_, q, _⟩ := hit; exact Heap.lt_size q
    have hi : i < its.toArray.size := by
      have := (List.getElem?_eq_some_iff.mp hu).1
      simpa using this
    have hea := enum_tup_ne he p
    refine wpAny_pyNext_enum_itemC (Draws.tuple (by first | rfl | exact (I.ok.hd hc)) it a (tupIter_ne hit p) its.toArray) he ⟨hit, p⟩ hi hne (by simp [hne, hea]) fun x' h' tk hx' ho hst' hT hsz hk => ?_
    have hx' : its.toArray[i]? = some x' := hx'
    have ex : x' = u := by
      have : its.toArray[i]? = some u := by simpa using hu
      rw [this] at hx'
      cases hx'
      rfl
    subst ex
    obtain ⟨hit', _⟩ := hst'
    refine ⟨_, rfl, wpAny_letOwnedTupleGo_enum (s := { s with heap := h', toks := tk + 1 }) ho fun h'' he' sb => ?_⟩
    have hT2 : h''.get? s.heap.objs.size = some { cls := .type "tuple", data := .seq #[.int i tk, x'] } := (sb.2 _ (Nat.ne_of_gt hel)).trans hT
    have new : ObjOk X.prog X.w (upd H s.heap.objs.size (.tup [.int (i : Nat), x])) h'' s.heap.objs.size (.tup [.int (i : Nat), x]) :=
      ⟨by show 2 ≤ sizeLine; decide, [.int i tk, x'], .cons ⟨_, rfl⟩ (.cons ru .nil), ⟨_, hT2, rfl, _, rfl⟩⟩
    have I1 : Inv X pins σ (upd H s.heap.objs.size (.tup [.int (i : Nat), x])) { s with heap := h'', toks := tk + 1 } :=
      I.turnedNew (ch := [e, it]) (fun b ob hb q => (sb.2 b (fun z => hb (by simp [z]))).trans (hk b ob (fun z => hb (by simp [z])) (fun z => hb (by simp [z])) q)) hf (Nat.le_refl _) new
    refine ⟨.ref s.heap.objs.size, _, I1, rfl, ⟨_, x, rfl, I.hok.fresh (Nat.le_refl _), rfl, fun ys hy => by rw [I.tuple_inj hy hq]; exact hx⟩, ⟨⟨x', ?_⟩, hit'.at fun o q => (sb.2 it (Ne.symm hne)).trans q, hne⟩, fun b hb => ?_⟩
    · have e1 : ((i + 1 : Nat) : Int) = (i : Int) + 1 := by omega
      rw [e1]; exact he'
    · have hb' : b < s.heap.objs.size := by
        have e' : b = e ∨ b = it := by simpa using hb
        rcases e' with z | z
        · rw [z]; exact hel
        · rw [z]; exact hil
      rw [upd_ne (Nat.ne_of_lt hb')]
      exact (hf b hb).1
  done := by
    intro X hP hw hK hc i pins s σ H E I hf st hg
    subst hP hw hK
    obtain ⟨⟨old, he⟩, hit, hne⟩ := st
    obtain ⟨xs, hq, hx⟩ := hg
    obtain ⟨its, rv, p, hz⟩ := I.tuple hq
    have p : s.heap.IsTuple a its.toArray := p
    obtain ⟨f0, f1, f2, f3, f4, f5⟩ := hf it (by simp)
    have hl := rv.length
    exact enumT_end (I.ok.hd hc) he hit p (by simp; omega) fun h' eb => ⟨rfl, I.turned (t' := s.toks) (fun b o hb q => eb b o hb q) f0 f1 f3 f4 f5⟩
  self := fun A i s Q E st h => let ⟨⟨_, he⟩, _⟩ := st; wpAny_pyIter_enum he h
def iEnumA (K : PySem.W.Frag) (ta : TA) : TI := fun σ H R => ta σ H fun vs H1 => ∃ a xs, vs = [.ref a] ∧ ((SqL K H1 a xs ∧ R (Ite K a) H1) ∨ (SqT K H1 a xs ∧ R (IteT K a) H1))
theorem pi_enumA {X : Cx} {e : Expr} {ta : TA} {p pos tpos : Pos} {elts : List Expr} {kk : Nat} (hg : Gl X "enumerate") (hm : X.mg "enumerate" = none) (ha : PA X [e] ta) (hs : starEach [e] X.env = [(false, eval e X.env)] := by rfl) :
    PI X (.Tuple elts kk tpos) (.Call (.Name "enumerate" p) [e] [] pos) (iEnumA X.K ta) := by
  refine ⟨fun pins s σ H R I h => ?_⟩
  refine Call_ (ld_blt I hg hm boot_enumerate (PyProof.Rows.callWith_type1 (thn (ha.run pos pins s σ H _ I h) fun us s1 ⟨vs, H1, I1, r1, q1⟩ => ?_) hs rfl))
  obtain ⟨a, xs, ex, q1⟩ := q1
  subst ex
  cases r1 with
  | cons r rr =>
    cases rr
    cases r
    have fp : ∀ b, b ∈ [s1.heap.objs.size + 1, s1.heap.objs.size] → FpOk X pins H1 b := fun b hb => by
      have e' : b = s1.heap.objs.size + 1 ∨ b = s1.heap.objs.size := by simpa using hb
      have hle : s1.heap.objs.size ≤ b := by
        rcases e' with z | z
        · rw [z]; exact Nat.le_add_right _ _
        · rw [z]; exact Nat.le_refl _
      exact I1.fpOk hle (I1.hok.fresh hle)
    rcases q1 with ⟨hq, q⟩ | ⟨hq, q⟩
    · obtain ⟨its, rv, p', hz⟩ := I1.list hq
      refine call_enumerate_list p'.isList fun h' he hit hsz hk => wpAny_pyIter_enum he ?_
      have I2 : Inv X pins σ H1 { s1 with heap := h' } := I1.kept (t' := s1.toks) hk
      exact ⟨s1.heap.objs.size + 1, [s1.heap.objs.size + 1, s1.heap.objs.size], _, _, H1, rfl, I2, turn_enum a (s1.heap.objs.size + 1) s1.heap.objs.size, ⟨⟨.none, he⟩, hit, Nat.succ_ne_self _⟩, fp, q⟩
    · obtain ⟨its, rv, p', hz⟩ := I1.tuple hq
      have p' : s1.heap.IsTuple a its.toArray := p'
      refine call_enumerate_B (begins_tuple a its.toArray) p' fun h' he hit hsz hk => wpAny_pyIter_enum he ?_
      have I2 : Inv X pins σ H1 { s1 with heap := h' } := I1.kept (t' := s1.toks) hk
      exact ⟨s1.heap.objs.size + 1, [s1.heap.objs.size + 1, s1.heap.objs.size], _, _, H1, rfl, I2, turn_enumT a (s1.heap.objs.size + 1) s1.heap.objs.size, ⟨⟨.none, he⟩, ⟨_, hit, rfl, rfl⟩, Nat.succ_ne_self _⟩, fp, q⟩
end RZ
set_option Elab.async false
set_option linter.all false
set_option maxRecDepth 100000
set_option maxHeartbeats 2000000
/-! what is walked; targets -/
namespace Mp
open PySem L2 RZ
section
variable {tb : Tb} {cls : Nat → Value} {cf : CallF} {n : Nat} {N : List Str} {sc : Scope} {W : WX} {X : Cx} {K : PySem.W.Frag} {O : PA'} {σ : St} {H H' H1 : Hp} {env : Env}
structure Walks0 (K : PySem.W.Frag) (O : PA') (J : It) (H1 : Hp) (items : List D) : Prop where
  go : ∀ i H, Ext O H1 H → i < items.length → J.go i H
  stop : ∀ i H, Ext O H1 H → items.length ≤ i → J.stop i H
  yld : ∀ i H x H', i < items.length → Ext O H1 H → (∀ a, O a → H a ≠ none) → J.yld i H x H' → Same H H' ∧ ∃ d, items[i]? = some d ∧ Rep K O H' d x
theorem walks_l {a : Addr} {vs : List V} {ds : List D} (h : H1 a = some (.lst vs)) (no : ¬ O a) (r : Reps K O H1 ds vs) : Walks0 K O (Itl K a) H1 ds where
  go := fun i H x hi => by
    have := reps_len r
    exact ⟨vs, vs[i]'(by omega), SqL.of (x _ _ h no), by simp⟩
  stop := fun i H x hi => ⟨vs, SqL.of (x _ _ h no), by rw [reps_len r]; exact hi⟩
  yld := fun i H v H' hi x ho y => by
    obtain ⟨e, y⟩ := y
    subst e
    obtain ⟨d, h1, h2⟩ := reps_get' r (y vs (SqL.of (x _ _ h no)))
    exact ⟨Same.refl _, d, h1, rep_ext x h2⟩
theorem fzT_ext (x : Ext O H H') {a : Addr} {vs : List V} (h : FzT K O H a vs) : FzT K O H' a vs := by
  rcases h with ⟨h, n⟩ | h
  · exact .inl ⟨rd_ext x h n, n⟩
  · exact .inr h
theorem walks_t {a : Addr} {vs : List V} {ds : List D} (h : FzT K O H1 a vs) (r : Reps K O H1 ds vs) : Walks0 K O (Itt K a) H1 ds where
  go := fun i H x hi => by
    have := reps_len r
    exact ⟨vs, vs[i]'(by omega), (fzT_ext x h).sq, by simp⟩
  stop := fun i H x hi => ⟨vs, (fzT_ext x h).sq, by rw [reps_len r]; exact hi⟩
  yld := fun i H v H' hi x ho y => by
    obtain ⟨e, y⟩ := y
    subst e
    obtain ⟨d, h1, h2⟩ := reps_get' r (y vs (fzT_ext x h).sq)
    exact ⟨Same.refl _, d, h1, rep_ext x h2⟩
theorem walks_s {s : List Nat} : Walks0 K O (Its ⟨s.toArray⟩) H1 (s.map fun c => .str [c]) where
  go := fun i H x hi => by
    show i < s.toArray.size
    simpa using hi
  stop := fun i H x hi => by
    show s.toArray.size ≤ i
    simpa using hi
  yld := fun i H v H' hi x ho y => by
    obtain ⟨e, c, y1, y2⟩ := y
    subst e y2
    refine ⟨Same.refl _, .str [c], ?_, rfl⟩
    have y1 : s.toArray[i]? = some c := y1
    rw [List.getElem?_map]
    have : s[i]? = some c := by simpa using y1
    rw [this]; rfl
theorem walks_r {lo : Int} {m : Nat} : Walks0 K O (Itr lo m) H1 (rangeL lo m) where
  go := fun i H x hi => by
    show i < m
    simpa [rangeL] using hi
  stop := fun i H x hi => by
    show m ≤ i
    simpa [rangeL] using hi
  yld := fun i H v H' hi x ho y => by
    obtain ⟨e, y1⟩ := y
    subst e y1
    have hi : i < m := by simpa [rangeL] using hi
    refine ⟨Same.refl _, .int (lo + i), ?_, rfl⟩
    unfold rangeL
    rw [List.getElem?_map, List.getElem?_range hi]
    rfl
theorem walks_d {hi : Int} {m : Nat} : Walks0 K O (Itc hi (-1) m) H1 (downL hi m) where
  go := fun i H x hi => by
    show i < m
    simpa [downL] using hi
  stop := fun i H x hi => by
    show m ≤ i
    simpa [downL] using hi
  yld := fun i H v H' hi' x ho y => by
    obtain ⟨e, y1⟩ := y
    subst e y1
    have hi' : i < m := by simpa [downL] using hi'
    refine ⟨Same.refl _, .int (hi + i * -1), ?_, rfl⟩
    unfold downL
    rw [List.getElem?_map, List.getElem?_range hi']
    rfl
theorem rep_pair {H : Hp} {a b : D} {v w : V} {T : Addr} (ha : Rep K O H a v) (hb : Rep K O H b w) (ho : ∀ a, O a → H a ≠ none) (hT : H T = none) : Rep K O (upd H T (.tup [v, w])) (.tup [a, b]) (.ref T) :=
  ⟨T, [v, w], rfl, .inl ⟨.inl upd_same, fun z => ho T z hT⟩, v, [w], rfl, rep_ext (Ext.new hT) ha, w, [], rfl, rep_ext (Ext.new hT) hb, rfl⟩
theorem zip_get {xs ys : List D} {i : Nat} {a b : D} (h1 : xs[i]? = some a) (h2 : ys[i]? = some b) : ((xs.zip ys).map fun p => D.tup [p.1, p.2])[i]? = some (.tup [a, b]) := by
  rw [List.getElem?_map, (List.getElem?_zip_eq_some (z := (a, b))).mpr ⟨h1, h2⟩]
  rfl
theorem walks_zl {a b : Addr} {vs ws : List V} {ds es : List D} (h : H1 a = some (.lst vs)) (no : ¬ O a) (r : Reps K O H1 ds vs) (h' : H1 b = some (.lst ws)) (no' : ¬ O b) (r' : Reps K O H1 es ws) :
    Walks0 K O (Itz K a b) H1 ((ds.zip es).map fun p => .tup [p.1, p.2]) where
  go := fun i H x hi => by
    simp only [List.length_map, List.length_zip] at hi
    have h1 := reps_len r
    have h2 := reps_len r'
    exact ⟨vs, ws, vs[i]'(by omega), ws[i]'(by omega), SqL.of (x _ _ h no), SqL.of (x _ _ h' no'), by simp, by simp⟩
  stop := fun i H x hi => by
    simp only [List.length_map, List.length_zip] at hi
    exact ⟨vs, ws, SqL.of (x _ _ h no), SqL.of (x _ _ h' no'), by rw [reps_len r, reps_len r']; omega⟩
  yld := fun i H v H' hi x ho y => by
    obtain ⟨T, x1, x2, rfl, hT, rfl, y1, y2⟩ := y
    obtain ⟨d, e1, q1⟩ := reps_get' r (y1 vs (SqL.of (x _ _ h no)))
    obtain ⟨e, e2, q2⟩ := reps_get' r' (y2 ws (SqL.of (x _ _ h' no')))
    exact ⟨same_new hT, .tup [d, e], zip_get e1 e2, rep_pair (rep_ext x q1) (rep_ext x q2) ho hT⟩
theorem walks_zt {a b : Addr} {vs ws : List V} {ds es : List D} (h : FzT K O H1 a vs) (r : Reps K O H1 ds vs) (h' : FzT K O H1 b ws) (r' : Reps K O H1 es ws) :
    Walks0 K O (ItzT K a b) H1 ((ds.zip es).map fun p => .tup [p.1, p.2]) where
  go := fun i H x hi => by
    simp only [List.length_map, List.length_zip] at hi
    have h1 := reps_len r
    have h2 := reps_len r'
    exact ⟨vs, ws, vs[i]'(by omega), ws[i]'(by omega), (fzT_ext x h).sq, (fzT_ext x h').sq, by simp, by simp⟩
  stop := fun i H x hi => by
    simp only [List.length_map, List.length_zip] at hi
    exact ⟨vs, ws, (fzT_ext x h).sq, (fzT_ext x h').sq, by rw [reps_len r, reps_len r']; omega⟩
  yld := fun i H v H' hi x ho y => by
    obtain ⟨T, x1, x2, rfl, hT, rfl, y1, y2⟩ := y
    obtain ⟨d, e1, q1⟩ := reps_get' r (y1 vs (fzT_ext x h).sq)
    obtain ⟨e, e2, q2⟩ := reps_get' r' (y2 ws (fzT_ext x h').sq)
    exact ⟨same_new hT, .tup [d, e], zip_get e1 e2, rep_pair (rep_ext x q1) (rep_ext x q2) ho hT⟩
theorem enum_get : ∀ {xs : List D} {i k : Nat} {a : D}, xs[i]? = some a → (enumL k xs)[i]? = some (.tup [.int ((k + i : Nat) : Int), a])
  | [], _, _, _, h => by simp at h
  | x :: r, 0, k, a, h => by simp at h; subst h; rfl
  | x :: r, i + 1, k, a, h => by
    have := enum_get (xs := r) (i := i) (k := k + 1) (by simpa using h)
    show (enumL (k + 1) r)[i]? = _
    rw [this]
    rw [show k + 1 + i = k + (i + 1) by omega]
theorem enum_len : ∀ {xs : List D} {k : Nat}, (enumL k xs).length = xs.length
  | [], _ => rfl
  | x :: r, k => by show (enumL (k + 1) r).length + 1 = r.length + 1; rw [enum_len]
theorem walks_e {a : Addr} {vs : List V} {ds : List D} (h : H1 a = some (.lst vs)) (no : ¬ O a) (r : Reps K O H1 ds vs) : Walks0 K O (Ite K a) H1 (enumL 0 ds) where
  go := fun i H x hi => by
    rw [enum_len] at hi
    have := reps_len r
    exact ⟨vs, vs[i]'(by omega), SqL.of (x _ _ h no), by simp⟩
  stop := fun i H x hi => ⟨vs, SqL.of (x _ _ h no), by rw [reps_len r]; rw [enum_len] at hi; exact hi⟩
  yld := fun i H v H' hi x ho y => by
    obtain ⟨T, x1, rfl, hT, rfl, y1⟩ := y
    obtain ⟨d, e1, q1⟩ := reps_get' r (y1 vs (SqL.of (x _ _ h no)))
    refine ⟨same_new hT, .tup [.int (i : Nat), d], ?_, rep_pair rfl (rep_ext x q1) ho hT⟩
    rw [enum_get (k := 0) e1]
    simp
theorem walks_et {a : Addr} {vs : List V} {ds : List D} (h : FzT K O H1 a vs) (r : Reps K O H1 ds vs) : Walks0 K O (IteT K a) H1 (enumL 0 ds) where
  go := fun i H x hi => by
    rw [enum_len] at hi
    have := reps_len r
    exact ⟨vs, vs[i]'(by omega), (fzT_ext x h).sq, by simp⟩
  stop := fun i H x hi => ⟨vs, (fzT_ext x h).sq, by rw [reps_len r]; rw [enum_len] at hi; exact hi⟩
  yld := fun i H v H' hi x ho y => by
    obtain ⟨T, x1, rfl, hT, rfl, y1⟩ := y
    obtain ⟨d, e1, q1⟩ := reps_get' r (y1 vs ((fzT_ext x h).sq))
    refine ⟨same_new hT, .tup [.int (i : Nat), d], ?_, rep_pair rfl (rep_ext x q1) ho hT⟩
    rw [enum_get (k := 0) e1]
    simp
/-- for every O' that is no more than O on what stood -/
def WalksD (K : PySem.W.Frag) (O : PA') (J : It) (H1 : Hp) (items : List D) : Prop := ∀ O' : PA', (∀ a, H1 a ≠ none → O' a → O a) → Walks0 K O' J H1 items
theorem fzT_sub {O' : PA'} (sb : ∀ a, H a ≠ none → O' a → O a) {a : Addr} {vs : List V} (h : FzT K O H a vs) : FzT K O' H a vs := by
  rcases h with ⟨h, n⟩ | h
  · exact .inl ⟨h, fun z => n (sb a (rd_some h) z)⟩
  · exact .inr h
theorem wd_l {a : Addr} {vs : List V} {ds : List D} (h : H1 a = some (.lst vs)) (no : ¬ O a) (r : Reps K O H1 ds vs) : WalksD K O (Itl K a) H1 ds := fun O' sb => walks_l h (fun z => no (sb a (by rw [h]; simp) z)) (reps_sub sb r)
theorem wd_t {a : Addr} {vs : List V} {ds : List D} (h : FzT K O H1 a vs) (r : Reps K O H1 ds vs) : WalksD K O (Itt K a) H1 ds := fun O' sb => walks_t (fzT_sub sb h) (reps_sub sb r)
theorem wd_s {s : List Nat} : WalksD K O (Its ⟨s.toArray⟩) H1 (s.map fun c => .str [c]) := fun O' _ => walks_s
theorem wd_r {lo : Int} {m : Nat} : WalksD K O (Itr lo m) H1 (rangeL lo m) := fun O' _ => walks_r
theorem wd_d {hi : Int} {m : Nat} : WalksD K O (Itc hi (-1) m) H1 (downL hi m) := fun O' _ => walks_d
theorem wd_zl {a b : Addr} {vs ws : List V} {ds es : List D} (h : H1 a = some (.lst vs)) (no : ¬ O a) (r : Reps K O H1 ds vs) (h' : H1 b = some (.lst ws)) (no' : ¬ O b) (r' : Reps K O H1 es ws) :
    WalksD K O (Itz K a b) H1 ((ds.zip es).map fun p => .tup [p.1, p.2]) := fun O' sb => walks_zl h (fun z => no (sb a (by rw [h]; simp) z)) (reps_sub sb r) h' (fun z => no' (sb b (by rw [h']; simp) z)) (reps_sub sb r')
theorem wd_zt {a b : Addr} {vs ws : List V} {ds es : List D} (h : FzT K O H1 a vs) (r : Reps K O H1 ds vs) (h' : FzT K O H1 b ws) (r' : Reps K O H1 es ws) :
    WalksD K O (ItzT K a b) H1 ((ds.zip es).map fun p => .tup [p.1, p.2]) := fun O' sb => walks_zt (fzT_sub sb h) (reps_sub sb r) (fzT_sub sb h') (reps_sub sb r')
theorem wd_e {a : Addr} {vs : List V} {ds : List D} (h : H1 a = some (.lst vs)) (no : ¬ O a) (r : Reps K O H1 ds vs) : WalksD K O (Ite K a) H1 (enumL 0 ds) := fun O' sb => walks_e h (fun z => no (sb a (by rw [h]; simp) z)) (reps_sub sb r)
theorem wd_et {a : Addr} {vs : List V} {ds : List D} (h : FzT K O H1 a vs) (r : Reps K O H1 ds vs) : WalksD K O (IteT K a) H1 (enumL 0 ds) := fun O' sb => walks_et (fzT_sub sb h) (reps_sub sb r)
/-! ### the iterable's rule -/
def evIt (cf : CallF) (k : ItK) (src : List E) (env : Env) : R (List D) := (evA cf src env).bind fun avs env1 => match rds env1 avs with
  | some ds => ofOpt (itEv k ds) env1
  | none => .stuck
def tI (K : PySem.W.Frag) (W : WX) (cls : Nat → Value) (cf : CallF) (k : ItK) (src : List E) : TI := fun σ H R => ∃ O env, Sim K O σ H env ∧ Post K W cls O σ H env (evIt cf k src env) fun items _ H' => ∀ J, WalksD K O J H' items → R J H'
theorem PI.imp' {tg iter : Expr} {w w' : TI} (h : PI X tg iter w) (q : ∀ σ H R, w' σ H R → w σ H R) : PI X tg iter w' := ⟨fun pins s σ H Rt I z => h.run pins s σ H Rt I (q σ H Rt z)⟩
/-- the items, once all is read -/
theorem tI_A {k : ItK} {src : List E} (hp : noPeek src = true) {R' : It → Hp → Prop} (h : tI K W cls cf k src σ H R') : tA K W cls cf src σ H fun vs H1 => ∃ O ds items, Reps K O H1 ds vs ∧ itEv k ds = some items ∧ ∀ J, WalksD K O J H1 items → R' J H1 := by
  obtain ⟨O, env, S, p⟩ := h
  unfold evIt at p
  refine ⟨O, env, S, (p.bind (evA_kinds cf src env)).imp fun avs e1 H1 ea _ s1 q vs hvs => ?_⟩
  cases z : rds e1 avs with
  | none => rw [z] at q; exact q.elim
  | some ds =>
    rw [z] at q
    simp only [] at q
    cases y : itEv k ds with
    | none => rw [y] at q; exact q.elim
    | some items =>
      rw [y] at q
      exact ⟨O, ds, items, rds_vals (noPeek_vals hp ea) z hvs, y, q.start s1⟩
theorem rp1 {d : D} {vs : List V} (h : Reps K O H [d] vs) : ∃ v, vs = [v] ∧ Rep K O H d v := by
  obtain ⟨v, _, rfl, a, e⟩ := h
  cases e
  exact ⟨v, rfl, a⟩
theorem rp2 {d e : D} {vs : List V} (h : Reps K O H [d, e] vs) : ∃ v w, vs = [v, w] ∧ Rep K O H d v ∧ Rep K O H e w := by
  obtain ⟨v, _, rfl, a, w, _, rfl, b, e⟩ := h
  cases e
  exact ⟨v, w, rfl, a, b⟩
theorem small_of {i : Int} (h : small62 i = true) : -(2 ^ 62) ≤ i ∧ i < 2 ^ 62 := by
  unfold small62 at h
  simp only [Bool.and_eq_true, decide_eq_true_eq] at h
  omega
theorem star1 {e : Expr} {env : PySem.Env} (h : noStar e = true) : starEach [e] env = [(false, eval e env)] := star_cons h
theorem avs_len : ∀ {as : List AV} {vs : List V}, AVs K O σ H as vs → vs.length = as.length
  | [], _, h => by cases h; rfl
  | a :: r, _, ⟨v, t, e, _, h⟩ => by subst e; simp [avs_len h]
theorem evA_len : ∀ {es : List E} {env : Env} {avs : List AV} {e' : Env}, evA cf es env = .ok avs e' → avs.length = es.length
  | [], _, _, _, h => by unfold evA at h; cases h; rfl
  | e :: es, env, avs, e', h => by
    rw [evA_cons] at h
    cases z : evV cf e env with
    | ok av e1 =>
      rw [z] at h
      simp only [R.bind_ok] at h
      cases z2 : evA cf es e1 with
      | ok avs2 e2 =>
        rw [z2] at h
        cases h
        simp [evA_len z2]
      | exn x e1 => rw [z2] at h; cases h
      | stuck => rw [z2] at h; cases h
    | exn x e1 => rw [z] at h; cases h
    | stuck => rw [z] at h; cases h
theorem rp3 {d e f : D} {vs : List V} (h : Reps K O H [d, e, f] vs) : ∃ v w x, vs = [v, w, x] ∧ Rep K O H d v ∧ Rep K O H e w ∧ Rep K O H f x := by
  obtain ⟨v, _, rfl, a, w, _, rfl, b, x, _, rfl, c, e⟩ := h
  cases e
  exact ⟨v, w, x, rfl, a, b, c⟩
/-- a list, a tuple, a text: known by the evaluator -/
theorem pi_seq {e : E} {tg iter : Expr} (hp : noPeek [e] = true) (h : PE X iter (tV X.K W cls cf e)) : PI X tg iter (tI X.K W cls cf .seq [e]) := by
  refine ⟨fun pins s σ H Rt I z => ?_⟩
  obtain ⟨O, env, S, p⟩ := id z
  unfold evIt at p
  rw [evA_cons] at p
  have e0 : ∀ env, evA cf [] env = .ok [] env := fun env => by unfold evA; rfl
  simp only [e0, R.bind_ok] at p
  cases q : evV cf e env with
  | stuck => rw [q] at p; exact p.elim
  | exn x e1 =>
    -- nothing is walked: any rule does
    refine (pi_list h).run pins s σ H Rt I ⟨O, env, S, ?_⟩
    rw [q] at p ⊢
    exact p
  | ok av e1 =>
    have hv : ∃ d, av = .val d := by
      have := noPeek_vals (cf := cf) hp (env := env) (avs := [av]) (e' := e1) (by rw [evA_cons, q]; simp only [R.bind_ok, e0])
      cases av with
      | val d => exact ⟨d, rfl⟩
      | slot i => exact this.elim
    obtain ⟨d, rfl⟩ := hv
    rw [q] at p
    simp only [R.bind_ok, rds, rd, Option.map_some] at p
    cases d with
    | tup ds =>
      refine (pi_tup h).run pins s σ H Rt I ⟨O, env, S, ?_⟩
      rw [q]
      intro H1 x s1 v hv
      obtain ⟨a, vs, rfl, f, r⟩ := hv
      exact ⟨a, rfl, ⟨vs, f.sq⟩, p H1 x s1 _ (wd_t f r)⟩
    | lst ds =>
      refine (pi_list h).run pins s σ H Rt I ⟨O, env, S, ?_⟩
      rw [q]
      intro H1 x s1 v hv
      obtain ⟨a, vs, rfl, f, no, r⟩ := hv
      exact ⟨a, rfl, ⟨vs, SqL.of f⟩, p H1 x s1 _ (wd_l f no r)⟩
    | str t =>
      refine (pi_str h).run pins s σ H Rt I ⟨O, env, S, ?_⟩
      rw [q]
      intro H1 x s1 v hv
      cases hv
      exact ⟨_, rfl, p H1 x s1 _ wd_s⟩
    | _ => exact p.elim
theorem it_rule (C : Ctx tb cls cf n N sc W X) {k : ItK} {src : List E} {iter tg : Expr} {pes : List Expr} {tp : Bool} (ht : tp = true → ∃ es kk pos, tg = .Tuple es kk pos) (hp : noPeek src = true) (hs : itShape tb sc tp k iter = some pes) (h : PVs X W cls cf src pes) :
    PI X tg iter (tI X.K W cls cf k src) := by
  cases k with
  | seq =>
    simp only [itShape, Option.some.injEq] at hs
    subst hs
    cases h with
    | cons h1 h2 h3 => cases h3; exact pi_seq hp h1
  | range =>
    unfold itShape at hs
    simp only [] at hs
    cases hc : callName iter with
    | none => rw [hc] at hs; cases hs
    | some c =>
      obtain ⟨f, es⟩ := c
      obtain ⟨p, pos, rfl⟩ := callName_inv hc
      rw [hc] at hs
      simp only [Option.bind_some] at hs
      split at hs
      · rename_i hg
        simp only [Bool.and_eq_true, Bool.or_eq_true, beq_iff_eq] at hg
        cases hs
        obtain ⟨⟨hg, rfl⟩, hl⟩ := hg
        unfold bltB at hg
        simp only [Bool.and_eq_true] at hg
        obtain ⟨g1, _⟩ := gl_of C hg.1
        have hm := C.G.bl _ hg.2
        cases h with
        | nil => simp at hl
        | cons h1 h2 h3 =>
          cases h3 with
          | nil =>
            refine PI.imp' (pi_range1 g1 hm (PVs.cons h1 h2 .nil).pa (star1 h2)) fun σ H Rt q => ?_
            obtain ⟨O, env, S, p⟩ := tI_A hp q
            refine ⟨O, env, S, p.imp fun avs e1 H1 ea _ s1 q vs hvs => ?_⟩
            obtain ⟨O', ds, items, r, y, q⟩ := q vs hvs
            have hlen : vs.length = 1 := by rw [avs_len hvs, evA_len ea]; rfl
            unfold itEv rangeEv at y
            simp only [] at y
            split at y
            · rename_i j
              obtain ⟨v, rfl, hv⟩ := rp1 r
              cases hv
              split at y
              · rename_i hj
                cases y
                exact ⟨j, rfl, (small_of hj).1, (small_of hj).2, q _ wd_r⟩
              · cases y
            · obtain ⟨_, _, rfl, _⟩ := rp2 r
              simp at hlen
            · obtain ⟨_, _, _, rfl, _⟩ := rp3 r
              simp at hlen
            · cases y
          | cons h4 h5 h6 =>
            cases h6 with
            | cons h7 h8 h9 =>
              cases h9 with
              | cons _ _ _ => simp at hl
              | nil =>
                refine PI.imp' (pi_range3 g1 hm (PVs.cons h1 h2 (.cons h4 h5 (.cons h7 h8 .nil))).pa (star_cons h2) (star_pl (by simp [h5, h8]))) fun σ H Rt q => ?_
                obtain ⟨O, env, S, p⟩ := tI_A hp q
                refine ⟨O, env, S, p.imp fun avs e1 H1 ea _ s1 q vs hvs => ?_⟩
                obtain ⟨O', ds, items, r, y, q⟩ := q vs hvs
                have hlen : vs.length = 3 := by rw [avs_len hvs, evA_len ea]; rfl
                unfold itEv rangeEv at y
                simp only [] at y
                split at y
                · obtain ⟨_, rfl, _⟩ := rp1 r
                  simp at hlen
                · obtain ⟨_, _, rfl, _⟩ := rp2 r
                  simp at hlen
                · rename_i i j c
                  obtain ⟨v, w, x, rfl, hv, hw, hx⟩ := rp3 r
                  cases hv; cases hw; cases hx
                  split at y
                  · rename_i hj
                    simp only [Bool.and_eq_true, decide_eq_true_eq] at hj
                    obtain ⟨⟨j1, j2⟩, j3⟩ := hj
                    subst j3
                    cases y
                    exact ⟨i, j, -1, _, rfl, RgC.neg (small_of j1).1 (small_of j1).2 (small_of j2).1 (small_of j2).2, q _ wd_d⟩
                  · cases y
                · cases y
            | nil =>
              refine PI.imp' (pi_range2 g1 hm (PVs.cons h1 h2 (.cons h4 h5 .nil)).pa (by rw [star_cons h2, star1 h5]) (star1 h5)) fun σ H Rt q => ?_
              obtain ⟨O, env, S, p⟩ := tI_A hp q
              refine ⟨O, env, S, p.imp fun avs e1 H1 ea _ s1 q vs hvs => ?_⟩
              obtain ⟨O', ds, items, r, y, q⟩ := q vs hvs
              have hlen : vs.length = 2 := by rw [avs_len hvs, evA_len ea]; rfl
              unfold itEv rangeEv at y
              simp only [] at y
              split at y
              · obtain ⟨_, rfl, _⟩ := rp1 r
                simp at hlen
              · rename_i i j
                obtain ⟨v, w, rfl, hv, hw⟩ := rp2 r
                cases hv; cases hw
                split at y
                · rename_i hj
                  simp only [Bool.and_eq_true] at hj
                  cases y
                  exact ⟨i, j, rfl, ⟨(small_of hj.1).1, (small_of hj.1).2, (small_of hj.2).1, (small_of hj.2).2⟩, q _ wd_r⟩
                · cases y
              · obtain ⟨_, _, _, rfl, _⟩ := rp3 r
                simp at hlen
              · cases y
      · cases hs
  | zip =>
    unfold itShape at hs
    simp only [] at hs
    cases hc : callName iter with
    | none => rw [hc] at hs; cases hs
    | some c =>
      obtain ⟨f, es⟩ := c
      obtain ⟨p, pos, rfl⟩ := callName_inv hc
      rw [hc] at hs
      simp only [Option.bind_some] at hs
      split at hs
      · rename_i hg
        simp only [Bool.and_eq_true, Bool.or_eq_true, beq_iff_eq] at hg
        cases hs
        obtain ⟨ht', ⟨hg, rfl⟩, hl⟩ := hg
        obtain ⟨elts, kk, tpos, rfl⟩ := ht ht'
        unfold bltB at hg
        simp only [Bool.and_eq_true] at hg
        obtain ⟨g1, _⟩ := gl_of C hg.1
        have hm := C.G.bl _ hg.2
        cases h with
        | nil => simp at hl
        | cons h1 h2 h3 =>
          cases h3 with
          | nil => simp at hl
          | cons h4 h5 h6 =>
            cases h6 with
            | cons _ _ _ => simp at hl
            | nil =>
              refine PI.imp' (pi_zipA g1 hm (PVs.cons h1 h2 (.cons h4 h5 .nil)).pa (star_cons h2) (star_pl (by simp [h5]))) fun σ H Rt q => ?_
              obtain ⟨O, env, S, p⟩ := tI_A hp q
              refine ⟨O, env, S, p.imp fun avs e1 H1 ea _ s1 q vs hvs => ?_⟩
              obtain ⟨O', ds, items, r, y, q⟩ := q vs hvs
              unfold itEv zipEv at y
              simp only [] at y
              split at y
              · cases y
                obtain ⟨v, w, rfl, ⟨a, us, rfl, f1, r1⟩, b, ws, rfl, f2, r2⟩ := rp2 r
                exact ⟨a, b, us, ws, rfl, .inr ⟨f1.sq, f2.sq, q _ (wd_zt f1 r1 f2 r2)⟩⟩
              · cases y
                obtain ⟨v, w, rfl, ⟨a, us, rfl, f1, n1, r1⟩, b, ws, rfl, f2, n2, r2⟩ := rp2 r
                exact ⟨a, b, us, ws, rfl, .inl ⟨SqL.of f1, SqL.of f2, q _ (wd_zl f1 n1 r1 f2 n2 r2)⟩⟩
              · cases y
      · cases hs
  | enum =>
    unfold itShape at hs
    simp only [] at hs
    cases hc : callName iter with
    | none => rw [hc] at hs; cases hs
    | some c =>
      obtain ⟨f, es⟩ := c
      obtain ⟨p, pos, rfl⟩ := callName_inv hc
      rw [hc] at hs
      simp only [Option.bind_some] at hs
      split at hs
      · rename_i hg
        simp only [Bool.and_eq_true, Bool.or_eq_true, beq_iff_eq] at hg
        cases hs
        obtain ⟨ht', ⟨hg, rfl⟩, hl⟩ := hg
        obtain ⟨elts, kk, tpos, rfl⟩ := ht ht'
        unfold bltB at hg
        simp only [Bool.and_eq_true] at hg
        obtain ⟨g1, _⟩ := gl_of C hg.1
        have hm := C.G.bl _ hg.2
        cases h with
        | nil => simp at hl
        | cons h1 h2 h3 =>
          cases h3 with
          | cons _ _ _ => simp at hl
          | nil =>
            refine PI.imp' (pi_enumA g1 hm (PVs.cons h1 h2 .nil).pa (star1 h2)) fun σ H Rt q => ?_
            obtain ⟨O, env, S, p⟩ := tI_A hp q
            refine ⟨O, env, S, p.imp fun avs e1 H1 ea _ s1 q vs hvs => ?_⟩
            obtain ⟨O', ds, items, r, y, q⟩ := q vs hvs
            unfold itEv enumEv at y
            simp only [] at y
            split at y
            · cases y
              obtain ⟨v, rfl, a, us, rfl, f1, n1, r1⟩ := rp1 r
              exact ⟨a, us, rfl, .inl ⟨SqL.of f1, q _ (wd_e f1 n1 r1)⟩⟩
            · cases y
              obtain ⟨v, rfl, a, us, rfl, f1, r1⟩ := rp1 r
              exact ⟨a, us, rfl, .inr ⟨f1.sq, q _ (wd_et f1 r1)⟩⟩
            · cases y
      · cases hs
  | rev => cases hs
  | items => cases hs
end
end Mp
set_option Elab.async false
set_option linter.all false
set_option maxRecDepth 100000
set_option maxHeartbeats 2000000
/-! targets, comprehensions -/
namespace Mp
open PySem L2
mutual
def tgS : Tg → List Nat
  | .name i => [i]
  | .tup ts => tgsS ts
def tgsS : List Tg → List Nat
  | [] => []
  | t :: ts => tgS t ++ tgsS ts
end
/-- slots but those are as they were -/
def Out (σ σ' : St) (js : List Nat) : Prop := σ'.length = σ.length ∧ ∀ j, j ∉ js → σ'[j]? = σ[j]?
section
variable {tb : Tb} {cls : Nat → Value} {cf : CallF} {n : Nat} {N : List Str} {sc raw : Scope} {W : WX} {X : Cx} {K : PySem.W.Frag} {O : PA'} {σ : St} {H H' H1 : Hp} {env : Env}
theorem Sim.put {env' : Env} {i : Nat} {d : D} {v : V} (S : Sim K O σ H env) (h : put env i (.val d) = some env') (r : Rep K O H d v) : Sim K O (σ.set i (some v)) H env' ∧ Out σ (σ.set i (some v)) [i] := by
  unfold Mp.put at h
  cases e : env[i]? with
  | none => rw [e] at h; cases h
  | some s =>
    rw [e] at h
    have h' : env' = env.set i (.val d) := by cases s <;> simp at h <;> exact h.symm
    subst h'
    have hi : i < env.length := (List.getElem?_eq_some_iff.mp e).1
    have hs : i < σ.length := by rw [S.len]; exact hi
    have get : ∀ {j : Nat} {t : Sl}, (env.set i (.val d))[j]? = some t → kd t ≠ 0 → j ≠ i ∧ env[j]? = some t := fun {j t} q k => by
      by_cases hj : i = j
      · subst hj
        rw [List.getElem?_set_self hi] at q
        cases q
        exact absurd rfl k
      · rw [List.getElem?_set_ne hj] at q
        exact ⟨fun z => hj z.symm, q⟩
    refine ⟨⟨by simp [S.len], fun j d' q => ?_, fun j d' q => ?_, fun j l a s t e1 e2 k1 k2 e3 e4 => ?_, S.trk⟩, by simp, fun j hj => ?_⟩
    · by_cases hj : i = j
      · subst hj
        rw [List.getElem?_set_self hi] at q
        cases q
        exact ⟨v, by rw [List.getElem?_set_self hs], r⟩
      · rw [List.getElem?_set_ne hj] at q ⊢
        exact S.val j d' q
    · have q' : j ≠ i ∧ (env[j]? = some (.own d') ∨ env[j]? = some (.io d')) := by
        rcases q with q | q
        · exact ⟨(get q (kd_own _)).1, .inl (get q (kd_own _)).2⟩
        · exact ⟨(get q (kd_io _)).1, .inr (get q (kd_io _)).2⟩
      rw [List.getElem?_set_ne (Ne.symm q'.1)]
      exact S.cel j d' q'.2
    · obtain ⟨n1, q1⟩ := get e1 k1
      obtain ⟨n2, q2⟩ := get e2 k2
      rw [List.getElem?_set_ne (Ne.symm n1)] at e3
      rw [List.getElem?_set_ne (Ne.symm n2)] at e4
      exact S.inj j l a s t q1 q2 k1 k2 e3 e4
    · rw [List.getElem?_set_ne (fun z => hj (by rw [z]; exact List.mem_singleton.mpr rfl))]
def tG (K : PySem.W.Frag) (t : Tg) : TG := fun v σ H Q => ∃ O env d env', Sim K O σ H env ∧ Rep K O H d v ∧ asg env t d = some env' ∧ ∀ σ', Sim K O σ' H env' → Out σ σ' (tgS t) → Q σ' H
def tGs (K : PySem.W.Frag) (ts : List Tg) : TGs := fun vs σ H Q => ∃ O env ds env', Sim K O σ H env ∧ Reps K O H ds vs ∧ asgs env ts ds = some env' ∧ ∀ σ', Sim K O σ' H env' → Out σ σ' (tgsS ts) → Q σ' H
theorem PG.imp' {e : Expr} {t t' : TG} (h : PG X e t) (q : ∀ v σ H Q, t' v σ H Q → t v σ H Q) : PG X e t' := ⟨fun pins s σ H v u Q I r z => h.run pins s σ H v u Q I r (q v σ H Q z)⟩
theorem PGs.imp' {e : List Expr} {t t' : TGs} (h : PGs X e t) (q : ∀ v σ H Q, t' v σ H Q → t v σ H Q) : PGs X e t' := ⟨fun pins s σ H v u Q I r z => h.run pins s σ H v u Q I r (q v σ H Q z)⟩
/-- the block's own names may be stored: raw is the scope as written -/
structure Sto (X : Cx) (N : List Str) (raw sc : Scope) : Prop where
  hN : X.N = N
  nd : N.Nodup
  hsc : X.env.scope = sc
  calm : X.calm = true
  fn : ∀ x, raw.names.lookup x = some .cell → X.fn x = true
theorem asgE_cons {e : Expr} {es : List Expr} {env : PySem.Env} (h : noStar e = true) : assignEach (e :: es) env = (false, assign e env) :: assignEach es env := by
  cases e <;> first | rfl | cases h
theorem mTg_noStar {t : Tg} {e : Expr} (h : mTg N raw sc t e = true) : noStar e = true := by
  cases e with
  | Starred _ _ => cases t <;> simp [mTg] at h
  | _ => rfl
theorem mTgs_len : ∀ {ts : List Tg} {es : List Expr}, mTgs N raw sc ts es = true → ts.length = es.length ∧ es.all noStar = true
  | [], [], _ => ⟨rfl, rfl⟩
  | [], _ :: _, h => by simp [mTgs] at h
  | _ :: _, [], h => by simp [mTgs] at h
  | t :: ts, e :: es, h => by
    simp only [mTgs, Bool.and_eq_true] at h
    obtain ⟨h1, h2⟩ := mTgs_len h.2
    exact ⟨by simp [h1], by simp only [List.all_cons, Bool.and_eq_true]; exact ⟨mTg_noStar h.1, h2⟩⟩
theorem asgE_len {env : PySem.Env} : ∀ {es : List Expr}, es.all noStar = true → (assignEach es env).length = es.length ∧ (assignEach es env).findIdx? (·.1) = none
  | [], _ => ⟨rfl, rfl⟩
  | e :: es, h => by
    simp only [List.all_cons, Bool.and_eq_true] at h
    obtain ⟨h1, h2⟩ := asgE_len (env := env) h.2
    rw [asgE_cons h.1]
    refine ⟨by simp [h1], ?_⟩
    rw [List.findIdx?_cons, h2]
    rfl
theorem asgs_len : ∀ {ts : List Tg} {ds : List D} {env env' : Env}, asgs env ts ds = some env' → ts.length = ds.length
  | [], [], _, _, _ => rfl
  | [], _ :: _, _, _, h => by simp [asgs] at h
  | _ :: _, [], _, _, h => by simp [asgs] at h
  | t :: ts, d :: ds, env, env', h => by
    unfold asgs at h
    cases q : asg env t d with
    | none => rw [q] at h; cases h
    | some e => rw [q] at h; simp [asgs_len h]
mutual
theorem pg_ (C : Sto X N raw sc) : ∀ {t : Tg} {e : Expr}, mTg N raw sc t e = true → PG X e (tG X.K t)
  | .name i, e, h => by
    cases e with
    | Name x pos =>
      have h : N[i]? = some x ∧ stoB raw sc x = true := by simpa [mTg] using h
      obtain ⟨h1, h2⟩ := h
      unfold stoB at h2
      simp only [Bool.or_eq_true, Bool.and_eq_true, beq_iff_eq] at h2
      refine PG.imp' (pg_name (by rw [C.hN]; exact C.nd) (by rw [C.hN]; exact h1) (by rw [C.hsc]; exact h2.imp (·.2) (·.2)) (h2.elim (fun z => .inr (by rw [C.hsc]; exact z.2)) fun z => .inl (C.fn x z.1))) fun v σ H Q ⟨O, env, d, env', S, r, a, q⟩ => ?_
      obtain ⟨s, o⟩ := S.put (by simpa [asg] using a) r
      exact q _ s o
    | _ => simp [mTg] at h
  | .tup ts, e, h => by
    cases e with
    | Tuple es k pos =>
      have h : mTgs N raw sc ts es = true := by simpa [mTg] using h
      obtain ⟨l1, l2⟩ := mTgs_len h
      obtain ⟨l3, l4⟩ := asgE_len (env := X.env) l2
      refine PG.imp' (pg_tup C.calm (pgs_ C h) l3 l4) fun v σ H Q ⟨O, env, d, env', S, r, a, q⟩ => ?_
      cases d with
      | tup ds =>
        obtain ⟨p, vs, rfl, f, r⟩ := r
        have a : asgs env ts ds = some env' := by simpa [asg] using a
        exact ⟨p, vs, rfl, f.sq, by rw [reps_len r, ← asgs_len a, l1], O, env, ds, env', S, r, a, q⟩
      | _ => simp [asg] at a
    | _ => simp [mTg] at h
theorem pgs_ (C : Sto X N raw sc) : ∀ {ts : List Tg} {es : List Expr}, mTgs N raw sc ts es = true → PGs X es (tGs X.K ts)
  | [], [], _ => PGs.imp' pgs_nil fun v σ H Q ⟨O, env, ds, env', S, r, a, q⟩ => by
    cases ds with
    | nil =>
      cases r
      simp [asgs] at a
      subst a
      exact ⟨rfl, q σ S ⟨rfl, fun _ _ => rfl⟩⟩
    | cons _ _ => simp [asgs] at a
  | [], _ :: _, h => by simp [mTgs] at h
  | _ :: _, [], h => by simp [mTgs] at h
  | t :: ts, e :: es, h => by
    simp only [mTgs, Bool.and_eq_true] at h
    refine PGs.imp' (pgs_cons (pg_ C h.1) (pgs_ C h.2) (by rw [asgE_cons (mTg_noStar h.1)]; rfl)) fun vs σ H Q ⟨O, env, ds, env', S, r, a, q⟩ => ?_
    cases ds with
    | nil => simp [asgs] at a
    | cons d ds =>
      obtain ⟨v, vr, rfl, r1, r2⟩ := r
      unfold asgs at a
      cases z : asg env t d with
      | none => rw [z] at a; cases a
      | some e1 =>
        rw [z] at a
        refine ⟨v, vr, rfl, O, env, d, e1, S, r1, z, fun σ1 s1 o1 => ⟨O, e1, ds, env', s1, r2, a, fun σ2 s2 o2 => q σ2 s2 ⟨o2.1.trans o1.1, fun j hj => ?_⟩⟩⟩
        have hj' : j ∉ tgS t ∧ j ∉ tgsS ts := by
          unfold tgsS at hj
          simpa using hj
        exact (o2.2 j hj'.2).trans (o1.2 j hj'.1)
end
mutual
theorem tgIn_sub : ∀ {t : Tg} {own : List Nat}, tgIn own t = true → ∀ j ∈ tgS t, j ∈ own
  | .name i, own, h, j, hj => by
    have : j = i := by simpa [tgS] using hj
    subst this
    simpa [tgIn] using h
  | .tup ts, own, h, j, hj => tgsIn_sub (by simpa [tgIn] using h) j (by simpa [tgS] using hj)
theorem tgsIn_sub : ∀ {ts : List Tg} {own : List Nat}, tgsIn own ts = true → ∀ j ∈ tgsS ts, j ∈ own
  | [], _, _, j, hj => by simp [tgsS] at hj
  | t :: ts, own, h, j, hj => by
    simp only [tgsIn, Bool.and_eq_true] at h
    unfold tgsS at hj
    rcases List.mem_append.mp hj with hj | hj
    · exact tgIn_sub h.1 j hj
    · exact tgsIn_sub h.2 j hj
end
theorem lwipe_len (σ : St) (own : List Nat) : (L2.wipe σ own).length = σ.length := L2.wipe_length σ own
theorem lwipe_out {σ : St} {j : Nat} : ∀ {own : List Nat}, j ∉ own → (L2.wipe σ own)[j]? = σ[j]?
  | [], _ => rfl
  | v :: vs, h => by
    have h' : j ≠ v ∧ j ∉ vs := by simpa using h
    unfold L2.wipe
    rw [List.getElem?_set_ne (Ne.symm h'.1)]
    exact lwipe_out h'.2
theorem lwipe_in {σ : St} {j : Nat} (hj : j < σ.length) : ∀ {own : List Nat}, j ∈ own → (L2.wipe σ own)[j]? = some none
  | v :: vs, h => by
    unfold L2.wipe
    by_cases e : v = j
    · subst e
      rw [List.getElem?_set_self (by rw [lwipe_len]; exact hj)]
    · rw [List.getElem?_set_ne e]
      exact lwipe_in hj ((List.mem_cons.mp h).resolve_left fun q => e q.symm)
theorem lwipe_eq {σ σ' : St} {own js : List Nat} (o : Out σ σ' js) (h : ∀ j ∈ js, j ∈ own) : L2.wipe σ' own = L2.wipe σ own := by
  apply List.ext_getElem?
  intro j
  by_cases hj : j ∈ own
  · by_cases hl : j < σ.length
    · rw [lwipe_in hl hj, lwipe_in (by rw [o.1]; exact hl) hj]
    · rw [List.getElem?_eq_none (by rw [lwipe_len, o.1]; omega), List.getElem?_eq_none (by rw [lwipe_len]; omega)]
  · rw [lwipe_out hj, lwipe_out hj, o.2 j fun z => hj (h j z)]
theorem lwipe_idem (σ : St) (own : List Nat) : L2.wipe (L2.wipe σ own) own = L2.wipe σ own := by
  apply List.ext_getElem?
  intro j
  by_cases hj : j ∈ own
  · by_cases hl : j < σ.length
    · rw [lwipe_in hl hj, lwipe_in (by rw [lwipe_len]; exact hl) hj]
    · rw [List.getElem?_eq_none (by rw [lwipe_len, lwipe_len]; omega), List.getElem?_eq_none (by rw [lwipe_len]; omega)]
  · rw [lwipe_out hj]
theorem Sim.wiped {own : List Nat} (S : Sim K O σ H env) (p : Plain own env) : Sim K O (L2.wipe σ own) H (wipe env own) := by
  have get : ∀ {j : Nat} {t : Sl}, (wipe env own)[j]? = some t → t ≠ .none → j ∉ own ∧ env[j]? = some t := fun {j t} q k => by
    by_cases hj : j ∈ own
    · obtain ⟨s, e, _⟩ := p j hj
      rw [wipe_at (List.getElem?_eq_some_iff.mp e).1 hj] at q
      cases q
      exact absurd rfl k
    · rw [wipe_get hj] at q
      exact ⟨hj, q⟩
  have nn : ∀ {t : Sl}, kd t ≠ 0 → t ≠ .none := fun {t} k e => by subst e; exact k rfl
  refine ⟨by rw [lwipe_len, wipe_len, S.len], fun j d q => ?_, fun j d q => ?_, fun i j a s t e1 e2 k1 k2 e3 e4 => ?_, S.trk⟩
  · obtain ⟨hj, q⟩ := get q (by simp)
    rw [lwipe_out hj]
    exact S.val j d q
  · rcases q with q | q
    · obtain ⟨hj, q⟩ := get q (by simp)
      rw [lwipe_out hj]
      exact S.cel j d (.inl q)
    · obtain ⟨hj, q⟩ := get q (by simp)
      rw [lwipe_out hj]
      exact S.cel j d (.inr q)
  · obtain ⟨h1, q1⟩ := get e1 (nn k1)
    obtain ⟨h2, q2⟩ := get e2 (nn k2)
    rw [lwipe_out h1] at e3
    rw [lwipe_out h2] at e4
    exact S.inj i j a s t q1 q2 k1 k2 e3 e4
end
end Mp
set_option Elab.async false
set_option linter.all false
set_option maxRecDepth 100000
set_option maxHeartbeats 2000000
/-! a comprehension's reading from the evaluator -/
namespace Mp
open PySem L2
section
variable {tb : Tb} {cls : Nat → Value} {cf : CallF} {n : Nat} {N : List Str} {sc raw : Scope} {W : WX} {X : Cx} {K : PySem.W.Frag} {O : PA'} {σ : St} {H H' H1 : Hp} {env : Env}
def tC (K : PySem.W.Frag) (W : WX) (cls : Nat → Value) (cf : CallF) (cnd : List E) : TT := fun σ H Q => ∃ O env, Sim K O σ H env ∧ Post K W cls O σ H env (evC cf cnd env) fun b _ H' => Q b H'
/-- W of a block: nothing is let out -/
abbrev W0 : WX := fun _ _ _ _ => False
def compStep (cf : CallF) (own : List Nat) (tg : Tg) (cnd : List E) (elt : E) (d : D) (e : Env) : R (Option D) := match asg (wipe e own) tg d with
  | some e1 => (evC cf cnd e1).bind fun b e2 => if b then (evE cf elt e2).bind fun y e3 => .ok (some y) e3 else .ok none e2
  | none => .stuck
theorem evE_comp {own : List Nat} {tg : Tg} {k : ItK} {src cnd : List E} {elt : E} : evE cf (.comp own tg k src cnd elt) env = (evIt cf k src env).bind fun items env1 =>
    if (plainAt env1 own && tgIn own tg) = true then (noExn (compGo (compStep cf own tg cnd elt) items [] env1)).bind fun ys env2 => .ok (.lst ys) (unwipe env1 env2 own) else .stuck := by
  conv => lhs; unfold evE
  unfold evIt
  cases evA cf src env with
  | ok avs e1 =>
    simp only [R.bind_ok]
    cases rds e1 avs with
    | none => rfl
    | some ds =>
      simp only []
      cases itEv k ds with
      | none =>
        cases (plainAt e1 own && tgIn own tg) <;> rfl
      | some items =>
        cases q : (plainAt e1 own && tgIn own tg)
        · simp only [ofOpt, R.bind_ok, q]; rfl
        · simp only [ofOpt, R.bind_ok, q]; rfl
  | exn x e => rfl
  | stuck => rfl
theorem mt_out {σ' : St} {own js : List Nat} (o : Out (L2.wipe σ own) σ' js) (h : ∀ j ∈ js, j ∈ own) {e : Env} (p : Plain own e) {a : Addr} (m : Mt σ' (kinds e) a) : Mt σ (kinds e) a := by
  obtain ⟨i, k, h1, h2, h3⟩ := m
  have hi : i ∉ own := fun z => by
    obtain ⟨s, e1, k1⟩ := p i z
    rw [kinds_get e1] at h1
    cases h1
    exact h2 k1
  rw [o.2 i fun z => hi (h i z), lwipe_out hi] at h3
  exact ⟨i, k, h1, h2, h3⟩
theorem evIt_kinds (k : ItK) (src : List E) : KOk (kinds env) (evIt cf k src env) := by
  unfold evIt
  refine (evA_kinds cf src env).bind fun avs e1 _ h1 => ?_
  cases rds e1 avs with
  | none => trivial
  | some ds => exact .ofOpt h1
/-- a new list of ours comes: at an address of its own -/
def PostF (K : PySem.W.Frag) (W : WX) (cls : Nat → Value) (O : PA') (σ : St) (H : Hp) (env : Env) (r : R D) (Q : VK) : Prop := match r with
  | .ok d e => (∃ xs, d = .lst xs) ∧ ∀ xs a vs H', d = .lst xs → H a = none → Ext (Mt σ (kinds env)) H H' → Sim K (fun b => O b ∨ b = a) σ H' e → H' a = some (.lst vs) → Reps K (fun b => O b ∨ b = a) H' xs vs → Q (.ref a) H'
  | .exn x e => ∀ H', Ext (Mt σ (kinds env)) H H' → Sim K O σ H' e → W (cls x) none σ H'
  | .stuck => False
def tF (K : PySem.W.Frag) (W : WX) (cls : Nat → Value) (cf : CallF) (e : E) : TE := fun σ H Q => ∃ O env, Sim K O σ H env ∧ PostF K W cls O σ H env (evE cf e env) Q
theorem new_back (S : Sim K O σ H env) {env1 : Env} (x : Ext (Mt σ (kinds env)) H H1) (S1 : Sim K O σ H1 env1) {a : Addr} (h : H1 a = none) : H a = none := by
  cases e : H a with
  | none => rfl
  | some o =>
    exfalso
    by_cases m : Mt σ (kinds env) a
    · exact S1.trk a (S.mtO a m) h
    · rw [x a o e m] at h; cases h
theorem PostF.bind {α : Type} {r : R α} {f : α → Env → R D} {Q : VK} (S : Sim K O σ H env) (hk : KOk (kinds env) r) (h : PostF K W cls O σ H env (r.bind f) Q) :
    Post K W cls O σ H env r fun a e H' => PostF K W cls O σ H' e (f a e) Q := by
  cases r with
  | ok a e =>
    intro H1 x1 s1
    have hk : kinds e = kinds env := hk
    have h : PostF K W cls O σ H env (f a e) Q := h
    cases q : f a e with
    | ok b e2 =>
      rw [q] at h
      refine ⟨h.1, fun xs c vs H2 ed ha x2 s2 ec r => ?_⟩
      rw [hk] at x2
      exact h.2 xs c vs H2 ed (new_back S x1 s1 ha) (x1.trans x2) s2 ec r
    | exn y e2 =>
      rw [q] at h
      intro H2 x2 s2
      rw [hk] at x2
      exact h H2 (x1.trans x2) s2
    | stuck => rw [q] at h; exact h
  | exn x e => exact h
  | stuck => exact h
theorem tF_of {e : E} {Q : VK} (hL : ∀ d env env', evE cf e env = .ok d env' → ∃ xs, d = .lst xs) (h : tE K W cls cf e σ H Q) : tF K W cls cf e σ H Q := by
  obtain ⟨O, env, S, p⟩ := h
  refine ⟨O, env, S, ?_⟩
  have hk := evE_kinds cf e env
  cases q : evE cf e env with
  | stuck => rw [q] at p; exact p
  | exn x e1 => rw [q] at p; exact p
  | ok d e1 =>
    rw [q] at p hk
    refine ⟨hL _ _ _ q, fun xs a vs H' ed ha x s ea r => ?_⟩
    subst ed
    have no : ¬ O a := fun z => S.trk a z ha
    have k : kinds e1 = kinds env := hk
    refine p H' x (s.less (fun _ z => .inl z) fun b m => S.mtO b (by rw [k] at m; exact m)) (.ref a) ⟨a, vs, rfl, ea, no, reps_sub (fun _ _ z => .inl z) r⟩
theorem comp_lst {own : List Nat} {tg : Tg} {k : ItK} {src cnd : List E} {elt : E} : ∀ d env env', evE cf (.comp own tg k src cnd elt) env = .ok d env' → ∃ xs, d = .lst xs := by
  intro d env env' h
  rw [evE_comp] at h
  revert h
  cases evIt cf k src env with
  | stuck => intro h; cases h
  | exn x e => intro h; cases h
  | ok items e1 =>
    simp only [R.bind_ok]
    split
    · cases compGo (compStep cf own tg cnd elt) items [] e1 with
      | stuck => intro h; cases h
      | exn x e => intro h; cases h
      | ok ys e2 => intro h; cases h; exact ⟨_, rfl⟩
    · intro h; cases h
theorem tF_comp {own : List Nat} {tg : Tg} {k : ItK} {src cnd : List E} {elt : E} {Q : VK} (h : tF K W cls cf (.comp own tg k src cnd elt) σ H Q) :
    tLc (tI K W cls cf k src) (tG K tg) (tC K W0 cls cf cnd) (tE K W0 cls cf elt) own σ H Q := by
  obtain ⟨O, env, S, p⟩ := h
  rw [evE_comp] at p
  refine ⟨O, env, S, (p.bind S (evIt_kinds k src)).imp fun items env1 H1 ei x0 S1 q J hJ => ?_⟩
  have k1 : kinds env1 = kinds env := by
    have := evIt_kinds (cf := cf) (env := env) k src
    rw [ei] at this
    exact this
  by_cases hp : (plainAt env1 own && tgIn own tg) = true
  · rw [if_pos hp] at q
    simp only [Bool.and_eq_true] at hp
    have p1 := plainAt_of hp.1
    have hsub := tgIn_sub hp.2
    cases hgo : compGo (compStep cf own tg cnd elt) items [] env1 with
    | stuck => rw [hgo] at q; exact q.elim
    | exn x e => rw [hgo] at q; exact q.elim
    | ok ys env2 =>
      rw [hgo] at q
      have q : PostF K W cls O σ H1 env1 (R.ok (D.lst ys) (unwipe env1 env2 own)) Q := q
      intro D hD
      have hDm : ¬ Mt σ (kinds env1) D := fun m => S1.trk D (S1.mtO D m) hD
      -- O with the new list
      let O' : PA' := fun a => O a ∨ a = D
      have nO : ¬ O D := fun z => S1.trk D z hD
      have sb : ∀ {H : Hp} a, H a ≠ none → O a → O' a := fun _ _ z => .inl z
      have S1' : Sim K O' σ (upd H1 D (.lst [])) env1 := S1.more hD
      have hJ := hJ O' fun a n z => z.elim id fun e => absurd (e ▸ hD) n
      refine ⟨fun i m H => m = items.length - i ∧ i ≤ items.length ∧ ∃ acc vacc ei, H D = some (.lst vacc) ∧ Reps K O' H acc vacc ∧ Sim K O' (L2.wipe σ own) H (wipe ei own) ∧ kinds ei = kinds env1 ∧ Ext (Mt σ (kinds env1)) H1 H ∧
        compGo (compStep cf own tg cnd elt) (items.drop i) acc ei = .ok ys env2, ⟨items.length, by simp, Nat.zero_le _, [], [], env1, upd_same, rfl, S1'.wiped p1, rfl, Ext.new hD, by simpa using hgo⟩, ?_⟩
      rintro i m H ⟨rfl, hi, acc, vacc, ei, eD, racc, Si, ki, xi, go⟩
      have pe : Plain own ei := p1.of ki
      have xO : Ext O' H1 H := xi.mono fun a z => .inl (S1.mtO a z)
      have xOO : Ext O H1 H := xi.mono S1.mtO
      have trkO : ∀ a, O a → H a ≠ none := fun a z => Si.trk a (.inl z)
      by_cases hlt : i < items.length
      · have hd : items.drop i = items[i] :: items.drop (i + 1) := (List.drop_eq_getElem_cons hlt)
        rw [hd] at go
        unfold compGo at go
        refine .inr ⟨hJ.go i H xO hlt, fun H' => ∃ acc vacc ei, H' D = some (.lst vacc) ∧ Reps K O' H' acc vacc ∧ Sim K O' (L2.wipe σ own) H' (wipe ei own) ∧ kinds ei = kinds env1 ∧ Ext (Mt σ (kinds env1)) H1 H' ∧
          compGo (compStep cf own tg cnd elt) (items.drop (i + 1)) acc ei = .ok ys env2, fun H' ⟨acc, vacc, ei, z⟩ => ⟨items.length - (i + 1), by omega, rfl, hlt, acc, vacc, ei, z⟩, fun x H' hy => ?_⟩
        obtain ⟨sm, d, e1, rd⟩ := hJ.yld i H x H' hlt xO Si.trk hy
        have e1' : items[i] = d := by
          rw [List.getElem?_eq_getElem hlt] at e1
          exact Option.some.inj e1
        rw [e1'] at go
        cases hst : compStep cf own tg cnd elt d ei with
        | stuck => rw [hst] at go; cases go
        | exn x e => rw [hst] at go; cases go
        | ok o e3 =>
          rw [hst] at go
          unfold compStep at hst
          cases ha : asg (wipe ei own) tg d with
          | none => rw [ha] at hst; cases hst
          | some e1 =>
            rw [ha] at hst
            simp only [] at hst
            have S' := Si.same sm
            have kw := wipe_kinds pe
            have k1' : kinds e1 = kinds env1 := (asg_kinds hp.2 (pe.of kw) ha).trans (kw.trans ki)
            have pe1 : Plain own e1 := p1.of k1'
            refine ⟨O', wipe ei own, d, e1, S', rd, ha, fun σ2 s2 o2 => ⟨by rw [lwipe_eq o2 hsub, lwipe_idem], O', e1, s2, ?_⟩⟩
            have wEq : L2.wipe σ2 own = L2.wipe σ own := by rw [lwipe_eq o2 hsub, lwipe_idem]
            have x1 : Ext (Mt σ (kinds env1)) H1 H' := xi.trans (Ext.same sm)
            have mtE : ∀ {e : Env}, kinds e = kinds env1 → ∀ a, Mt σ2 (kinds e) a → Mt σ (kinds env1) a := fun {e} ke a m => by
              have := mt_out o2 hsub (p1.of ke) m
              rw [ke] at this
              exact this
            -- the end of a turn
            have fin : ∀ {H4 : Hp} {e4 : Env}, kinds e4 = kinds env1 → Ext (Mt σ (kinds env1)) H' H4 → Sim K O' σ2 H4 e4 →
                H4 D = some (.lst vacc) ∧ Reps K O' H4 acc vacc ∧ Sim K O' (L2.wipe σ own) H4 (wipe e4 own) ∧ Ext (Mt σ (kinds env1)) H1 H4 := fun {H4 e4} ke x4 s4 => by
              refine ⟨x4 _ _ (sm _ _ eD) hDm, reps_ext (x4.mono fun a z => .inl (S1.mtO a z)) (reps_ext (Ext.same sm) racc), ?_, x1.trans x4⟩
              rw [← wEq]
              exact s4.wiped (p1.of ke)
            cases hc : evC cf cnd e1 with
            | stuck => rw [hc] at hst; cases hst
            | exn y e => rw [hc] at hst; cases hst
            | ok b e2 =>
              rw [hc] at hst
              simp only [R.bind_ok] at hst
              have kc : kinds e2 = kinds env1 := by
                have := evC_kinds cf cnd e1
                rw [hc] at this
                exact (show kinds e2 = kinds e1 from this).trans k1'
              intro H3 x3 s3
              have x3' : Ext (Mt σ (kinds env1)) H' H3 := x3.mono (mtE k1')
              cases b with
              | false =>
                rw [if_neg Bool.false_ne_true] at hst
                show if false = true then _ else _
                rw [if_neg Bool.false_ne_true]
                cases hst
                obtain ⟨f1, f2, f3, f4⟩ := fin kc x3' s3
                exact ⟨acc, vacc, e3, f1, f2, f3, kc, f4, go⟩
              | true =>
                rw [if_pos rfl] at hst
                show if true = true then _ else _
                rw [if_pos rfl]
                refine ⟨O', e2, s3, ?_⟩
                cases hy2 : evE cf elt e2 with
                | stuck => rw [hy2] at hst; cases hst
                | exn y e => rw [hy2] at hst; cases hst
                | ok yd e4 =>
                  rw [hy2] at hst
                  cases hst
                  have k4 : kinds e3 = kinds env1 := by
                    have := evE_kinds cf elt e2
                    rw [hy2] at this
                    exact (show kinds e3 = kinds e2 from this).trans kc
                  intro H4 x4 s4 v hv
                  have x4' : Ext (Mt σ (kinds env1)) H' H4 := x3'.trans (x4.mono (mtE kc))
                  obtain ⟨f1, f2, f3, f4⟩ := fin k4 x4' s4
                  have hlen : acc.length < 16777216 := by
                    simp only [R.bind_ok] at go
                    by_cases z : acc.length < 16777216
                    · exact z
                    · rw [if_neg z] at go; cases go
                  simp only [R.bind_ok] at go
                  rw [if_pos hlen] at go
                  have xD : Ext O' H4 (upd H4 D (.lst (vacc ++ [v]))) := Ext.upd (.inr rfl)
                  refine ⟨vacc, f1, by rw [reps_len f2]; exact hlen, acc ++ [yd], vacc ++ [v], e3, upd_same, reps_append (reps_ext xD f2) (reps_one (rep_ext xD hv)), ?_, k4, fun b o e nb => by rw [upd_ne (ne_of_none e hD)]; exact f4 b o e nb, go⟩
                  · refine f3.updO (.inr rfl) fun m => ?_
                    have m' : Mt σ (kinds e3) D := by
                      have kw3 := wipe_kinds (p1.of k4)
                      rw [kw3] at m
                      rw [← wEq] at m
                      obtain ⟨i, k, m1, m2, m3⟩ := m
                      have hi : i ∉ own := fun z => by
                        obtain ⟨s, e1, k1⟩ := (p1.of k4) i z
                        rw [kinds_get e1] at m1
                        cases m1
                        exact m2 k1
                      rw [lwipe_out hi] at m3
                      rw [k4]
                      exact mtE k4 D ⟨i, k, m1, m2, m3⟩
                    rw [k4] at m'
                    exact hDm m'
      · have ei' : i = items.length := by omega
        subst ei'
        rw [List.drop_length] at go
        unfold compGo at go
        cases go
        refine .inl ⟨hJ.stop _ H xO (Nat.le_refl _), ?_⟩
        -- the list is told
        have hlen := kinds_len ki
        refine q.2 ys D vacc H rfl hD xi ?_ eD racc
        have at_ : ∀ {j : Nat} {t : Sl}, (unwipe env1 env2 own)[j]? = some t → (j ∈ own ∧ env1[j]? = some t) ∨ (j ∉ own ∧ (wipe env2 own)[j]? = some t) := fun {j t} z => by
          by_cases hj : j ∈ own
          · obtain ⟨s, e1, _⟩ := p1 j hj
            rw [unwipe_at hlen e1 hj] at z
            exact .inl ⟨hj, by rw [e1]; exact z⟩
          · rw [unwipe_get hj] at z
            exact .inr ⟨hj, by rw [wipe_get hj]; exact z⟩
        refine ⟨by rw [S1.len, unwipe_len, hlen], fun j d z => ?_, fun j d z => ?_, fun i j a s t e1 e2 k1 k2 e3 e4 => ?_, Si.trk⟩
        · rcases at_ z with ⟨hj, z⟩ | ⟨hj, z⟩
          · obtain ⟨v, h1, h2⟩ := S1.val j d z
            exact ⟨v, h1, rep_ext xO (rep_sub (fun a n z => z.elim id fun e => absurd (e ▸ hD) n) h2)⟩
          · obtain ⟨v, h1, h2⟩ := Si.val j d z
            rw [lwipe_out hj] at h1
            exact ⟨v, h1, h2⟩
        · have go : ∀ t, (unwipe env1 env2 own)[j]? = some t → (t = .own d ∨ t = .io d) → ∃ a, σ[j]? = some (some (.ref a)) ∧ O' a ∧ Cell K O' H d a := fun t z et => by
            rcases at_ z with ⟨hj, z⟩ | ⟨hj, z⟩
            · obtain ⟨s, e1, k1⟩ := p1 j hj
              rw [e1] at z
              cases z
              rcases et with rfl | rfl <;> exact absurd k1 (by simp [kd])
            · obtain ⟨a, h1, h2, h3⟩ := Si.cel j d (by rcases et with rfl | rfl; exact .inl z; exact .inr z)
              rw [lwipe_out hj] at h1
              exact ⟨a, h1, h2, h3⟩
          rcases z with z | z
          · exact go _ z (.inl rfl)
          · exact go _ z (.inr rfl)
        · have ku := unwipe_kinds p1 ki
          obtain ⟨s1, q1, r1⟩ := kinds_at ku.symm e1
          obtain ⟨t1, q2, r2⟩ := kinds_at ku.symm e2
          exact S1.inj i j a s1 t1 q1 q2 (by rw [r1]; exact k1) (by rw [r2]; exact k2) e3 e4
  · rw [if_neg hp] at q; exact q.elim
theorem tE_comp {own : List Nat} {tg : Tg} {k : ItK} {src cnd : List E} {elt : E} {Q : VK} (h : tE K W cls cf (.comp own tg k src cnd elt) σ H Q) :
    tLc (tI K W cls cf k src) (tG K tg) (tC K W0 cls cf cnd) (tE K W0 cls cf elt) own σ H Q := tF_comp (tF_of comp_lst h)
end
end Mp
set_option Elab.async false
set_option linter.all false
set_option maxRecDepth 100000
set_option maxHeartbeats 4000000
/-! every expression that is checked has its rule -/
namespace Mp
open PySem L2
section
variable {tb : Tb} {cls : Nat → Value} {cf : CallF} {n : Nat} {N : List Str} {sc : Scope} {W : WX} {X : Cx}
theorem pe_callS0 {X : Cx} {CX : CXT} {k : Nat} {f : Addr} {fd : FuncData} {ps : List Str} {sp : Sp} {E : St → XK} {x : Str} {p pos : Pos} (F : FnOk X.prog X.w X.K X.mg X.base CX k f fd ps sp) (hr : Room k X.A) (hg : Gl X x) (hm : X.mg x = some (.ref f)) (hk : PySem.W.keepIn X.K (.ref f) = true) (hb : Binds X.K fd ps [])
    (hx : ∀ σ, PassesAt CX X σ (E σ)) (hdb : (x == ("__debug__" : Str)) = false) : PE X (.Call (.Name x p) [] [] pos) (tCallS sp E tNil) := by
  refine ⟨fun pins s σ H Q I h => ?_⟩
  refine wpAny_Call_Name_kw (ld_glob I hg hm ?_ hdb)
  exact PySem.W.callWith_K0 I.kIn hk (run_fnS (us := []) F hr hb (hx σ) I .nil h)
theorem few_ok {cpos : Pos} {env : PySem.Env} {e : Expr} {es : List Expr} (h : (e :: es).all noStar = true) (hl : (e :: es).length < 29) :
    ((backTo cpos (starEach (e :: es) env)).all (fun x => !x.1) && (backToKw cpos (keywordEach [] env)).all (fun x => x.1.isSome)
      && decide ((e :: es).length + ([] : List Keyword).length + (if ([] : List Keyword).isEmpty then 0 else 1) < 30)) = true := by
  have h1 : ∀ {es : List Expr}, es.all noStar = true → (backTo cpos (starEach es env)).all (fun x => !x.1) = true := fun {es} h => by
    induction es with
    | nil => rfl
    | cons e es ih =>
      simp only [List.all_cons, Bool.and_eq_true] at h
      rw [star_cons h.1]
      have := ih h.2
      simpa [backTo] using this
  have h2 : (backToKw cpos (keywordEach [] env)).all (fun x => x.1.isSome) = true := rfl
  have h3 : decide ((e :: es).length + ([] : List Keyword).length + (if ([] : List Keyword).isEmpty then 0 else 1) < 30) = true := by
    simp only [List.length_nil, List.isEmpty_nil, if_true, decide_eq_true_eq]
    omega
  rw [h1 h, h2, h3]
  rfl
theorem base_ok {o : Expr} {m : Str} {env : PySem.Env} (h : baseOk o = true) : attributeBase o m env (eval o env) = eval o env := by
  cases o with
  | Call f args kws pos =>
    cases f <;> first | rfl | skip
    cases args <;> first | rfl | skip
    cases kws <;> first | rfl | (simp [baseOk] at h)
  | _ => rfl
/-! ### s.index(c) -/
theorem idx_at {c : Nat} : ∀ {s : List Nat} {k : Nat}, idxOf c s = some k → s[k]? = some c ∧ ∀ j, j < k → s[j]? ≠ some c
  | [], _, h => by simp [idxOf] at h
  | x :: r, k, h => by
    unfold idxOf at h
    by_cases e : x = c
    · rw [if_pos e] at h
      cases h
      exact ⟨by simp [e], fun j hj => by omega⟩
    · rw [if_neg e] at h
      cases q : idxOf c r with
      | none => rw [q] at h; cases h
      | some m =>
        rw [q] at h
        simp only [Option.map_some, Option.some.injEq] at h
        subst h
        obtain ⟨h1, h2⟩ := idx_at q
        refine ⟨by simpa using h1, fun j hj => ?_⟩
        cases j with
        | zero => simpa using e
        | succ j => simpa using h2 j (by omega)
theorem index0_one {s : List Nat} {c k : Nat} (h : idxOf c s = some k) : Txt.index0 ⟨s.toArray⟩ ⟨#[c]⟩ = some k := by
  obtain ⟨h1, h2⟩ := idx_at h
  have at1 : ∀ i, PySem.StrLaws.At ⟨s.toArray⟩ ⟨#[c]⟩ (⟨s.toArray⟩ : Str).length i ↔ s[i]? = some c := fun i => by
    unfold PySem.StrLaws.At
    rw [PySem.StrLaws.subAt_one]
  unfold Txt.index0
  rcases PySem.StrLaws.occ_head ⟨s.toArray⟩ ⟨#[c]⟩ 1 (Nat.le_refl 1) with ⟨_, q⟩ | ⟨i, r, e, q1, q2⟩
  · exact absurd ((at1 k).mpr h1) (q k)
  · rw [e]
    have e1 := (at1 i).mp q1
    have : i = k := by
      rcases Nat.lt_trichotomy i k with l | l | l
      · exact absurd e1 (h2 i l)
      · exact l
      · exact absurd ((at1 k).mpr h1) (q2 k l)
    rw [this]
    rfl
/-- two parts, the last one without effects -/
theorem tE_prim2 {s : Sh} {a b : E} (hc : pure' b = true) {σ : St} {H : Hp} {Q : VK} (h : tE X.K W cls cf (.prim s [a, b]) σ H Q) :
    tV X.K W cls cf a σ H fun x H1 => (∃ O da db d, RepR X.K O H1 da x ∧ pev s [da, db] = some d) ∧ tV X.K W cls cf b σ H1 fun y H2 => rS X.K (pev s) [x, y] H2 Q := by
  obtain ⟨O, env, S, q⟩ := h
  unfold evE at q
  rw [evA_cons] at q
  have q : Post X.K W cls O σ H env ((evV cf a env).bind fun av e1 => ((evA cf [b] e1).bind fun avs e2 => (match rds e2 (av :: avs) with | some ds => ofOpt (pev s ds) e2 | none => R.stuck))) fun d x H' => ∀ v, Rep X.K O H' d v → Q v H' := by
    revert q
    cases evV cf a env with
    | ok av e1 => simp only [R.bind_ok]; cases evA cf [b] e1 <;> exact id
    | exn x e1 => exact id
    | stuck => exact id
  refine ⟨O, env, S, (q.bind (evV_kinds a)).imp fun av e2 H2 _ x2 s2 q x hx => ?_⟩
  rw [evA_cons] at q
  rcases pureV_ok (cf := cf) (env := e2) hc with ⟨cv, z⟩ | z
  · rw [z] at q
    have e0 : evA cf [] e2 = .ok [] e2 := by unfold evA; rfl
    simp only [R.bind_ok, e0] at q
    cases w : rds e2 [av, cv] with
    | none => rw [w] at q; exact q.elim
    | some ds =>
      rw [w] at q
      cases y' : pev s ds with
      | none => simp only [y', ofOpt] at q; exact q.elim
      | some d =>
        simp only [y', ofOpt] at q
        have two : ∃ da dc, ds = [da, dc] ∧ RepR X.K O H2 da x := by
          unfold rds at w
          cases w1 : rd e2 av with
          | none => rw [w1] at w; cases w
          | some da =>
            rw [w1] at w
            unfold rds at w
            cases w3 : rd e2 cv with
            | none => rw [w3] at w; cases w
            | some dc =>
              rw [w3] at w
              unfold rds at w
              cases w
              obtain ⟨v, _, e, r1, _⟩ := rds_rep s2 (as := [av]) (ds := [da]) (vs := [x]) (by unfold rds; rw [w1]; rfl) ⟨x, _, rfl, hx, rfl⟩
              cases e
              exact ⟨da, dc, rfl, r1⟩
        obtain ⟨da, dc, rfl, r1⟩ := two
        refine ⟨⟨O, da, dc, d, r1, y'⟩, O, e2, s2, ?_⟩
        rw [z]
        intro H3 x3 s3 v hv
        refine ⟨O, _, rds_rep s3 w ⟨x, _, rfl, av_ext (mt_sub s2 x3) hx, v, [], rfl, hv, rfl⟩, s3.trk, d, y', fun v' H' sm r => ?_⟩
        exact q H' (x3.trans (Ext.same sm)) (s3.same sm) v' r
  · rw [z] at q; exact q.elim
theorem meth_index (C : Ctx tb cls cf n N sc W X) {o e : E} {po pe : Expr} {apos cpos : Pos} (ho : PE X po (tV X.K W cls cf o)) (he : PE X pe (tV X.K W cls cf e)) (hb : baseOk po = true) (hs : noStar pe = true) (hl : (apos.endLine == cpos.line) = true) (hpu : pure' e = true) :
    PE X (.Call (.Attribute po "index" apos) [pe] [] cpos) (tE X.K W cls cf (.prim (.meth .index) [o, e])) := by
  have pa : PA X [pe] (tCons (tV X.K W cls cf e) tNil) := pa_cons he pa_nil (star_cons hs)
  refine PE.imp' (pe_bmS PySem.F.plainAttrs_str PySem.F.slot_str_index PySem.F.type_str_index (mt_indexX C.calm C.tk) ho pa (base_ok hb) (few_ok (by simp [hs]) (by simp)) hl (star_cons hs) (star_pl rfl)) fun σ H Q q => ?_
  refine tV_mono (tE_prim2 hpu q) fun x H1 ⟨⟨O, da, db, d, hd, e⟩, q⟩ => ?_
  have ht : ∃ t, x = .str t := by
    have e : methEv .index [da, db] = some d := e
    unfold methEv at e
    split at e
    · rename_i e1
      cases e1
      cases hd
      exact ⟨_, rfl⟩
    · cases e
  obtain ⟨t, ht⟩ := ht
  subst ht
  refine ⟨rfl, tV_mono q fun y H2 q => ?_⟩
  obtain ⟨O, a, b, ha, hb', ho', w⟩ := rS2 q
  have w : VQ X.K O H2 Q (methEv .index [a, b]) := w
  unfold methEv at w
  split at w
  · rename_i m ds s c e1
    cases e1
    cases ha; cases hb'
    obtain ⟨k, e, w⟩ := w.mapI
    exact ⟨_, _, rfl, rfl, fun k' e' => by
      rw [index0_one e] at e'
      cases e'
      exact w.flat rfl, fun e' => by rw [index0_one e] at e'; cases e'⟩
  · exact w.none.elim
end
end Mp
set_option Elab.async false
set_option linter.all false
set_option maxRecDepth 100000
set_option maxHeartbeats 8000000
/-! the theorem for expressions -/
namespace Mp
open PySem L2
section
variable {tb : Tb} {cls : Nat → Value} {cf : CallF} {n : Nat} {N : List Str} {sc : Scope} {W : WX} {X : Cx}
/-! ### and, or -/
def tL (K : PySem.W.Frag) (W : WX) (cls : Nat → Value) (cf : CallF) (k : Bool) (es : List E) : TE := fun σ H Q => ∃ O env, Sim K O σ H env ∧ Post K W cls O σ H env (evL cf k es env) fun d _ H' => ∀ v, Rep K O H' d v → Q v H'
def tLT (K : PySem.W.Frag) (W : WX) (cls : Nat → Value) (cf : CallF) (k : Bool) (es : List E) : TT := fun σ H Q => ∃ O env, Sim K O σ H env ∧ Post K W cls O σ H env (truthR (evL cf k es env)) fun b _ H' => Q b H'
theorem evL_cons {k : Bool} {e e2 : E} {es : List E} {env : Env} : evL cf k (e :: e2 :: es) env = (evE cf e env).bind fun d env1 => match truth d with
    | some b => if b = k then evL cf k (e2 :: es) env1 else .ok d env1
    | none => .stuck := by
  (conv => lhs; unfold evL)
  first | done | rfl
theorem evL_one {k : Bool} {e : E} {env : Env} : evL cf k [e] env = evE cf e env := by
  unfold evL
  cases evE cf e env <;> rfl
def bopOf (k : Bool) : BoolOp := if k then .And else .Or
theorem pe_bop {k : Bool} : ∀ {es : List E} {ps : List Expr} {pos : Pos}, es ≠ [] → (∀ (i : Nat) e p, es[i]? = some e → ps[i]? = some p → PE X p (tE X.K W cls cf e) ∧ PT X p (tT X.K W cls cf e)) → es.length = ps.length →
    PE X (.BoolOp (bopOf k) ps pos) (tL X.K W cls cf k es) ∧ PW X (.BoolOp (bopOf k) ps pos) (tLT X.K W cls cf k es)
  | [], _, _, h, _, _ => absurd rfl h
  | [e], [p], pos, _, h, _ => by
    obtain ⟨h1, h2⟩ := h 0 e p rfl rfl
    refine ⟨PE.imp' (pe_one h1) fun σ H Q ⟨O, env, S, q⟩ => ⟨O, env, S, by rw [evL_one] at q; exact q⟩, ?_⟩
    cases k with
    | true => exact PW.imp' (pw_and1 h2) fun σ H Q ⟨O, env, S, q⟩ => ⟨O, env, S, by rw [evL_one] at q; exact q⟩
    | false => exact PW.imp' (pw_or1 h2) fun σ H Q ⟨O, env, S, q⟩ => ⟨O, env, S, by rw [evL_one] at q; exact q⟩
  | [e], [], _, _, _, hl => by simp at hl
  | [e], _ :: _ :: _, _, _, _, hl => by simp at hl
  | e :: e2 :: es, [], _, _, _, hl => by simp at hl
  | e :: e2 :: es, [_], _, _, _, hl => by simp at hl
  | e :: e2 :: es, p :: p2 :: ps, pos, _, h, hl => by
    obtain ⟨h1, h2⟩ := h 0 e p rfl rfl
    obtain ⟨r1, r2⟩ := pe_bop (k := k) (es := e2 :: es) (ps := p2 :: ps) (pos := pos) (by simp) (fun i e p a b => h (i + 1) e p (by simpa using a) (by simpa using b)) (by simpa using hl)
    have val : ∀ {σ H Q}, tL X.K W cls cf k (e :: e2 :: es) σ H Q → tE X.K W cls cf e σ H fun x H1 => ∃ b, TruV X.K x H1 b ∧ if b = k then tL X.K W cls cf k (e2 :: es) σ H1 Q else Q x H1 := fun {σ H Q} ⟨O, env, S, q⟩ => by
      rw [evL_cons] at q
      refine ⟨O, env, S, (q.bind (evE_kinds cf e env)).imp fun d e1 H1 _ _ s1 q v hv => ?_⟩
      cases z : truth d with
      | none => rw [z] at q; exact q.elim
      | some b =>
        rw [z] at q
        simp only [] at q
        refine ⟨b, truth_v hv z, ?_⟩
        by_cases hb : b = k
        · rw [if_pos hb] at q ⊢
          exact ⟨O, e1, s1, q⟩
        · rw [if_neg hb] at q ⊢
          exact q.start s1 v hv
    have tst : ∀ {σ H Q}, tLT X.K W cls cf k (e :: e2 :: es) σ H Q → tT X.K W cls cf e σ H fun b H1 => if b = k then tLT X.K W cls cf k (e2 :: es) σ H1 Q else Q (!k) H1 := fun {σ H Q} ⟨O, env, S, q⟩ => by
      unfold truthR at q
      rw [evL_cons] at q
      have q : Post X.K W cls O σ H env ((evE cf e env).bind fun d e1 => (match truth d with | some b => if b = k then evL cf k (e2 :: es) e1 else .ok d e1 | none => R.stuck).bind fun d e => ofOpt (truth d) e) fun b _ H' => Q b H' := by
        revert q
        cases evE cf e env <;> exact id
      refine ⟨O, env, S, ?_⟩
      have p := q.bind (evE_kinds cf e env)
      unfold truthR
      cases ee : evE cf e env with
      | stuck => rw [ee] at p; exact p.elim
      | exn x e1 => rw [ee] at p; exact p
      | ok d e1 =>
        rw [ee] at p
        simp only [R.bind_ok]
        cases z : truth d with
        | none =>
          rw [ee] at q
          simp only [R.bind_ok, z, R.bind_stuck] at q
          exact q.elim
        | some b =>
          intro H1 x1 s1
          have q := p H1 x1 s1
          simp only [z] at q
          by_cases hb : b = k
          · rw [if_pos hb] at q ⊢
            exact ⟨O, e1, s1, q⟩
          · rw [if_neg hb] at q ⊢
            simp only [R.bind_ok, z, ofOpt] at q
            have := q.start s1
            have e3 : b = !k := (show ∀ b k : Bool, ¬ b = k → b = !k by decide) b k hb
            rw [← e3]
            exact this
    cases k with
    | true =>
      refine ⟨PE.imp' (pe_andT h1 r1) fun σ H Q q => val q, PW.imp' (pw_and h2 r2) fun σ H Q q => ?_⟩
      obtain ⟨O, env, S, q⟩ := tst q
      exact ⟨O, env, S, q⟩
    | false =>
      refine ⟨PE.imp' (pe_orT h1 r1) fun σ H Q q => ?_, PW.imp' (pw_or h2 r2) fun σ H Q q => ?_⟩
      · obtain ⟨O, env, S, q⟩ := val q
        refine ⟨O, env, S, q.imp fun d e1 H1 _ _ _ q v hv => ?_⟩
        obtain ⟨b, h1, h2⟩ := q v hv
        refine ⟨b, h1, ?_⟩
        cases b <;> simpa using h2
      · obtain ⟨O, env, S, q⟩ := tst q
        refine ⟨O, env, S, q.imp fun b e1 H1 _ _ _ q => ?_⟩
        cases b <;> simpa using q
/-! ### x.append(e) and its like -/
theorem mu_lst {m : Mu} {c : D} {ds : List D} {r : D × D} (e : muEv m c ds = some r) : ∃ xs c', c = .lst xs ∧ r.2 = .lst c' := by
  unfold muEv at e
  split at e <;> first | (cases e; done) | skip
  · split at e <;> cases e; exact ⟨_, _, rfl, rfl⟩
  · rename_i xs
    cases q : xs[xs.length - 1]? with
    | none => rw [q] at e; cases e
    | some y => rw [q] at e; cases e; exact ⟨_, _, rfl, rfl⟩
  · rename_i xs i
    split at e
    · cases q : ixN xs.length i with
      | none => rw [q] at e; cases e
      | some k =>
        rw [q] at e
        simp only [Option.bind_some] at e
        cases q2 : xs[k]? with
        | none => rw [q2] at e; cases e
        | some y => rw [q2] at e; cases e; exact ⟨_, _, rfl, rfl⟩
    · cases e
  · split at e <;> cases e; exact ⟨_, _, rfl, rfl⟩
theorem okMut_of {env : Env} {i : Nat} (h : okMut env i = true) : ∃ xs, env[i]? = some (.own (.lst xs)) ∨ env[i]? = some (.io (.lst xs)) := by
  unfold okMut at h
  split at h
  · rename_i xs e; exact ⟨xs, .inl e⟩
  · rename_i xs e; exact ⟨xs, .inr e⟩
  · cases h
theorem mu_start {σ : St} {H : Hp} {K : PySem.W.Frag} {m : Mu} {i : Nat} {es : List E} (hp : noPeek es = true) {Q : VK} (h : tE K W cls cf (.mu m i es) σ H Q) :
    ∃ a vs, σ[i]? = some (some (.ref a)) ∧ H a = some (.lst vs) ∧ tA K W cls cf es σ H fun ws H1 => ∃ O ds xs us r c', H1 a = some (.lst us) ∧ Reps K O H1 xs us ∧ Reps K O H1 ds ws ∧ O a ∧ muEv m (.lst xs) ds = some (r, .lst c') ∧
      ∀ v us', Reps K O H1 c' us' → Rep K O (upd H1 a (.lst us')) r v → Q v (upd H1 a (.lst us')) := by
  obtain ⟨O, env, S, p⟩ := h
  unfold evE at p
  by_cases hm : okMut env i = true
  · rw [if_pos hm] at p
    obtain ⟨xs0, h0⟩ := okMut_of hm
    obtain ⟨a, ha, oa, vs, hv, _⟩ := S.cel i (.lst xs0) h0
    refine ⟨a, vs, ha, hv, O, env, S, (p.bind (evA_kinds cf es env)).imp fun avs e1 H1 ea x1 s1 q ws hws => ?_⟩
    have hk : kinds e1 = kinds env := by
      have := evA_kinds cf es env
      rw [ea] at this
      exact this
    cases z : rds e1 avs with
    | none => rw [z] at q; exact q.elim
    | some ds =>
      rw [z] at q
      simp only [] at q
      cases z2 : e1[i]? with
      | none => rw [z2] at q; exact q.elim
      | some s =>
        rw [z2] at q
        simp only [] at q
        have ks : kd s ≠ 0 := by
          rcases h0 with h0 | h0
          · obtain ⟨t, ht, kt⟩ := kinds_at hk h0
            rw [z2] at ht; cases ht
            rw [kt]; exact kd_own _
          · obtain ⟨t, ht, kt⟩ := kinds_at hk h0
            rw [z2] at ht; cases ht
            rw [kt]; exact kd_io _
        have cell : ∃ c, rd e1 (.slot i) = some c ∧ isMut s = true ∧ ∃ b, σ[i]? = some (some (.ref b)) ∧ Cell K O H1 c b := by
          cases s with
          | none => exact absurd rfl ks
          | val d => exact absurd rfl ks
          | own d =>
            obtain ⟨b, h1, _, h2⟩ := s1.cel i d (.inl z2)
            exact ⟨d, by simp [rd, z2], rfl, b, h1, h2⟩
          | io d =>
            obtain ⟨b, h1, _, h2⟩ := s1.cel i d (.inr z2)
            exact ⟨d, by simp [rd, z2], rfl, b, h1, h2⟩
        obtain ⟨c, hc, hm2, b, hb, hcell⟩ := cell
        rw [ha] at hb; cases hb
        rw [hm2, hc] at q
        simp only [] at q
        cases z3 : muEv m c ds with
        | none => rw [z3] at q; exact q.elim
        | some rc =>
          obtain ⟨r, c2⟩ := rc
          obtain ⟨xs, c', rfl, e2⟩ := mu_lst z3
          have e2 : c2 = .lst c' := e2
          subst e2
          rw [z3] at q
          simp only [] at q
          obtain ⟨us, hu, ru⟩ := hcell
          refine ⟨O, ds, xs, us, r, c', hu, ru, rds_vals (noPeek_vals hp ea) z hws, oa, z3, fun v us' r1 r2 => ?_⟩
          refine q _ (Ext.upd (mt_of z2 ks ha)) (s1.turn z2 ks ha r1) v r2
  · rw [if_neg hm] at p; exact p.elim
theorem pe_mu (C : Ctx tb cls cf n N sc W X) {m : Mu} {i : Nat} {es : List E} {o : Expr} {ps : List Expr} {apos cpos : Pos} (ho : isName N sc i o = true) (hp : noPeek es = true) (hl : (apos.endLine == cpos.line) = true) (hlen : ps.length < 29)
    (h : PVs X W cls cf es ps) : PE X (.Call (.Attribute o (muName m) apos) ps [] cpos) (tE X.K W cls cf (.mu m i es)) := by
  obtain ⟨x, pos, rfl, po⟩ := pe_name C ho
  have hb : ∀ {m : Str}, attributeBase (.Name x pos) m X.env (eval (.Name x pos) X.env) = eval (.Name x pos) X.env := base_ok rfl
  cases m with
  | append =>
    cases h with
    | nil =>
      refine ⟨fun pins s σ H Q I q => ?_⟩
      obtain ⟨a, vs, _, _, q⟩ := mu_start hp q
      obtain ⟨O, ds, xs, us, r, c', _, _, rd, _, e, _⟩ := tA_nil q
      cases ds with
      | nil => cases e
      | cons d ds => obtain ⟨_, _, e, _⟩ := rd; cases e
    | cons h1 h2 h3 =>
      refine PE.imp' (pe_bm PySem.F.plainAttrs_list PySem.F.slot_list_append PySem.F.type_list_append mt_append po (PVs.cons h1 h2 h3).pa hb (few_ok (PVs.cons h1 h2 h3).star (by simpa using hlen)) hl (star_cons h2) (star_pl h3.star)) fun σ H Q q => ?_
      obtain ⟨a, vs, h1, h2, q⟩ := mu_start hp q
      refine ⟨.ref a, h1, .inl ⟨rfl, _, SqL.of h2⟩, ?_⟩
      obtain ⟨O, env, S, q⟩ := q
      refine ⟨O, env, S, q.imp fun avs e1 H1 _ _ _ q ws hws => ?_⟩
      obtain ⟨O', ds, xs, us, r, c', hu, ru, rd, oa, e, q⟩ := q ws hws
      unfold muEv at e
      split at e <;> first | (cases e; done) | skip
      all_goals first | (rename_i e0 _ _; cases e0; done) | (rename_i e0 _; cases e0; done) | skip
      rename_i ys d _ e1
      cases e1
      obtain ⟨w, rfl, hw⟩ := rp1 rd
      split at e
      · rename_i hlen
        cases e
        exact ⟨a, us, w, rfl, rfl, hu, by rw [reps_len ru]; exact hlen, q .non _ (reps_append ru (reps_one hw)) rfl⟩
      · cases e
  | pop =>
    cases h with
    | nil =>
      refine PE.imp' (pe_bm0 PySem.F.plainAttrs_list PySem.F.slot_list_pop PySem.F.type_list_pop mt_pop po hb hl) fun σ H Q q => ?_
      obtain ⟨a, vs, h1, h2, q⟩ := mu_start hp q
      refine ⟨.ref a, h1, .inl ⟨rfl, _, SqL.of h2⟩, ?_⟩
      obtain ⟨O', ds, xs, us, r, c', hu, ru, rd, oa, e, q⟩ := tA_nil q
      have ed : ds = [] := by cases ds with
        | nil => rfl
        | cons d ds => obtain ⟨_, _, e, _⟩ := rd; cases e
      subst ed
      unfold muEv at e
      simp only [] at e
      cases q2 : xs[xs.length - 1]? with
      | none => rw [q2] at e; cases e
      | some y =>
        rw [q2] at e
        cases e
        obtain ⟨w, hw, rw_⟩ := reps_get ru q2
        refine ⟨a, us, w, rfl, rfl, hu, by rw [reps_len ru]; exact hw, ?_⟩
        have rdl : Reps X.K O' H xs.dropLast us.dropLast := by
          rw [List.dropLast_eq_take, List.dropLast_eq_take, reps_len ru]
          exact reps_take _ ru
        exact q w _ rdl (rep_ext (Ext.upd oa) rw_)
    | cons h1 h2 h3 =>
      refine PE.imp' (pe_bm PySem.F.plainAttrs_list PySem.F.slot_list_pop PySem.F.type_list_pop mt_popAt po (PVs.cons h1 h2 h3).pa hb (few_ok (PVs.cons h1 h2 h3).star (by simpa using hlen)) hl (star_cons h2) (star_pl h3.star)) fun σ H Q q => ?_
      obtain ⟨a, vs, h1', h2', q⟩ := mu_start hp q
      refine ⟨.ref a, h1', .inl ⟨rfl, _, SqL.of h2'⟩, ?_⟩
      obtain ⟨O, env, S, q⟩ := q
      refine ⟨O, env, S, q.imp fun avs e1 H1 ea _ _ q ws hws => ?_⟩
      obtain ⟨O', ds, xs, us, r, c', hu, ru, rd, oa, e, q⟩ := q ws hws
      unfold muEv at e
      split at e <;> first | (cases e; done) | skip
      all_goals first | (rename_i e0 _ _; cases e0; done) | (rename_i e0 _; cases e0; done) | skip
      · -- no argument: not this call
        exfalso
        have := avs_len hws
        rw [evA_len ea] at this
        cases rd
        simp at this
      · rename_i ys i _ e1
        cases e1
        obtain ⟨w, rfl, hw⟩ := rp1 rd
        cases hw
        split at e
        · rename_i hs
          cases q1 : ixN xs.length i with
          | none => rw [q1] at e; cases e
          | some k =>
            rw [q1] at e
            simp only [Option.bind_some] at e
            cases q2 : xs[k]? with
            | none => rw [q2] at e; cases e
            | some y =>
              rw [q2] at e
              cases e
              obtain ⟨w, hw, rw_⟩ := reps_get ru q2
              have hsx := (ixN_seq (show L2.ixN xs.length i = some k from q1)).1
              have hb2 := small_of hs
              exact ⟨a, us, i, k, w, rfl, rfl, hu, by omega, by omega, by rw [reps_len ru]; exact hsx, hw, q w _ (reps_erase k ru) (rep_ext (Ext.upd oa) rw_)⟩
        · cases e
  | extend =>
    cases h with
    | nil =>
      refine ⟨fun pins s σ H Q I q => ?_⟩
      obtain ⟨a, vs, _, _, q⟩ := mu_start hp q
      obtain ⟨O, ds, xs, us, r, c', _, _, rd, _, e, _⟩ := tA_nil q
      cases ds with
      | nil => cases e
      | cons d ds => obtain ⟨_, _, e, _⟩ := rd; cases e
    | cons h1 h2 h3 =>
      refine PE.imp' (pe_bm PySem.F.plainAttrs_list PySem.F.slot_list_extend PySem.F.type_list_extend mt_extend po (PVs.cons h1 h2 h3).pa hb (few_ok (PVs.cons h1 h2 h3).star (by simpa using hlen)) hl (star_cons h2) (star_pl h3.star)) fun σ H Q q => ?_
      obtain ⟨a, vs, h1, h2, q⟩ := mu_start hp q
      refine ⟨.ref a, h1, .inl ⟨rfl, _, SqL.of h2⟩, ?_⟩
      obtain ⟨O, env, S, q⟩ := q
      refine ⟨O, env, S, q.imp fun avs e1 H1 _ _ _ q ws hws => ?_⟩
      obtain ⟨O', ds, xs, us, r, c', hu, ru, rd, oa, e, q⟩ := q ws hws
      unfold muEv at e
      split at e <;> first | (cases e; done) | skip
      all_goals first | (rename_i e0 _ _; cases e0; done) | (rename_i e0 _; cases e0; done) | skip
      rename_i ys zs _ e1
      cases e1
      obtain ⟨w, rfl, b, ws, rfl, f, nb, rz⟩ := rp1 rd
      split at e
      · rename_i hlen
        cases e
        exact ⟨a, b, us, ws, rfl, rfl, hu, f, by rw [reps_len ru, reps_len rz]; exact hlen, q .non _ (reps_append ru rz) rfl⟩
      · cases e
end
end Mp
set_option Elab.async false
set_option linter.all false
set_option maxRecDepth 100000
set_option maxHeartbeats 8000000
/-! the theorem for expressions: all cases -/
namespace Mp
open PySem L2
section
variable {tb : Tb} {cls : Nat → Value} {cf : CallF} {n : Nat} {N : List Str}
theorem tE_peek {K : PySem.W.Frag} {W : WX} {i : Nat} {σ : St} {H : Hp} {Q : VK} (h : tE K W cls cf (.peek i) σ H Q) : False := by
  obtain ⟨O, env, S, q⟩ := h
  unfold evE at q
  exact q
theorem tE_con {K : PySem.W.Frag} {W : WX} {d : D} {σ : St} {H : Hp} {Q : VK} (h : tE K W cls cf (.con d) σ H Q) : ∃ O, ∀ v, Rep K O H d v → Q v H := by
  obtain ⟨O, env, S, q⟩ := h
  unfold evE at q
  exact ⟨O, q.start S⟩
theorem tE_glob {K : PySem.W.Frag} {W : WX} {x : Str} {d : D} {σ : St} {H : Hp} {Q : VK} (h : tE K W cls cf (.glob x d) σ H Q) : ∃ O, ∀ v, Rep K O H d v → Q v H := by
  obtain ⟨O, env, S, q⟩ := h
  unfold evE at q
  exact ⟨O, q.start S⟩
section
variable {sc : Scope} {W : WX} {X : Cx}
theorem pv_of {e : E} {py : Expr} (C : Ctx tb cls cf n N sc W X) (h : mE tb N sc e py = true) (he : PE X py (tE X.K W cls cf e)) : PE X py (tV X.K W cls cf e) := by
  cases e with
  | peek i =>
    obtain ⟨x, pos, rfl, p⟩ := pe_name (i := i) C (by unfold mE at h; exact h)
    exact PE.imp' p fun σ H Q q => tV_peek q
  | _ => exact PE.imp' he fun σ H Q q => tV_val (fun i z => by cases z) q
theorem isCon_pe {d : D} {py : Expr} (C : Ctx tb cls cf n N sc W X) (h : isCon d py = true) : PE X py (tE X.K W cls cf (.con d)) ∧ ∃ c k pos, py = .Constant c k pos := by
  cases py <;> simp [isCon] at h
  rename_i c k pos
  refine ⟨?_, c, k, pos, rfl⟩
  cases c <;> cases d <;> simp at h
  · exact PE.imp' pe_non fun σ H Q q => by obtain ⟨O, q⟩ := tE_con q; exact q _ rfl
  · subst h; exact PE.imp' pe_bl fun σ H Q q => by obtain ⟨O, q⟩ := tE_con q; exact q _ rfl
  · subst h; exact PE.imp' pe_int fun σ H Q q => by obtain ⟨O, q⟩ := tE_con q; exact q _ rfl
  · subst h; exact PE.imp' pe_str fun σ H Q q => by obtain ⟨O, q⟩ := tE_con q; exact q _ rfl
theorem isGlob_pe {x : Str} {d : D} {py : Expr} (C : Ctx tb cls cf n N sc W X) (h : isGlob sc x py = true) (hd : tb.gl.lookup x = some d) : PE X py (tE X.K W cls cf (.glob x d)) ∧ ∃ y pos, py = .Name y pos := by
  cases py <;> simp [isGlob] at h
  rename_i y pos
  obtain ⟨e, h⟩ := h
  subst e
  refine ⟨?_, y, pos, rfl⟩
  obtain ⟨u, v, hm, r, rep⟩ := C.G.gl y d hd
  obtain ⟨g1, g2⟩ := gl_of C h
  exact PE.imp' (pe_glob g1 hm r (plain_of g2).1) fun σ H Q q => by obtain ⟨O, q⟩ := tE_glob q; exact q _ (rep _ _)
theorem call_pe (C : Ctx tb cls cf n N sc W X) {f : Nat} {x : Str} {es : List E} {ps : List Expr} {p pos : Pos} (h2 : f % 2 = 0) (hf : tb.fn[f / 2]? = some x) (hg : globB sc x = true) (h : PVs X W cls cf es ps) : PE X (.Call (.Name x p) ps [] pos) (tE X.K W cls cf (.call f es)) := by
  obtain ⟨a, fd, pss, hm, hk, hb, F⟩ := C.G.fns f x hf
  obtain ⟨g1, g2⟩ := gl_of C hg
  cases h with
  | nil => exact PE.imp' (pe_callS0 (E := WE W) F C.room g1 hm hk hb (fun σ => passAt C.tk σ) (plain_of g2).1) fun σ H Q q => tA_nil (tE_call h2 q)
  | cons h1 s2 h3 => exact PE.imp' (pe_callS (E := WE W) F C.room g1 hm hk hb (fun σ => passAt C.tk σ) (PVs.cons h1 s2 h3).pa (plain_of g2).1 (star_cons s2) (star_pl h3.star)) fun σ H Q q => tE_call h2 q
theorem ite_pe {c a b : E} {pc pa pb : Expr} {pos : Pos} (hc : PT X pc (tT X.K W cls cf c)) (ha : PE X pa (tE X.K W cls cf a) ∧ PT X pa (tT X.K W cls cf a)) (hb : PE X pb (tE X.K W cls cf b) ∧ PT X pb (tT X.K W cls cf b)) :
    PE X (.IfExp pc pa pb pos) (tE X.K W cls cf (.ife c a b)) ∧ PT X (.IfExp pc pa pb pos) (tT X.K W cls cf (.ife c a b)) := by
  have pt_ifExp : ∀ {tc ta tb : TT}, PT X pc tc → PT X pa ta → PT X pb tb → PT X (.IfExp pc pa pb pos) (fun σ H Q => tc σ H fun c H1 => if c = true then ta σ H1 Q else tb σ H1 Q) := fun {tc ta tb} h1 h2 h3 =>
    ⟨fun pins s σ H Q I h => PyProof.Rows.isTrue_IfExp (thn (h1.run pins s σ H _ I h) fun c s1 ⟨H1, I1, q⟩ => by
      cases c with
      | true => exact h2.run pins s1 σ H1 Q I1 q
      | false => exact h3.run pins s1 σ H1 Q I1 q)⟩
  constructor
  · refine PE.imp' (pe_ifExp hc ha.1 hb.1) fun σ H Q ⟨O, env, S, q⟩ => ?_
    unfold evE at q
    refine ⟨O, env, S, ?_⟩
    unfold truthR
    have p := q.bind (evE_kinds cf c env)
    cases z : evE cf c env with
    | stuck => rw [z] at p; exact p.elim
    | exn x e1 => rw [z] at p; exact p
    | ok d e1 =>
      rw [z] at p q
      simp only [R.bind_ok] at q ⊢
      cases w : truth d with
      | none => rw [w] at q; exact q.elim
      | some k =>
        intro H1 x1 s1
        have q := p H1 x1 s1
        dsimp only at q
        rw [w] at q
        cases k with
        | true => exact iteT ⟨O, e1, s1, q⟩
        | false => exact iteF ⟨O, e1, s1, q⟩
  · refine PT.imp' (pt_ifExp hc ha.2 hb.2) fun σ H Q ⟨O, env, S, q⟩ => ?_
    unfold truthR at q
    unfold evE at q
    have q : Post X.K W cls O σ H env ((evE cf c env).bind fun d e1 => (match truth d with | some true => evE cf a e1 | some false => evE cf b e1 | none => R.stuck).bind fun d e => ofOpt (truth d) e) fun b _ H' => Q b H' := by
      revert q
      cases evE cf c env <;> exact id
    refine ⟨O, env, S, ?_⟩
    unfold truthR
    have p := q.bind (evE_kinds cf c env)
    cases z : evE cf c env with
    | stuck => rw [z] at p; exact p.elim
    | exn x e1 => rw [z] at p; exact p
    | ok d e1 =>
      rw [z] at p q
      simp only [R.bind_ok] at q ⊢
      cases w : truth d with
      | none => rw [w] at q; exact q.elim
      | some k =>
        intro H1 x1 s1
        have q := p H1 x1 s1
        dsimp only at q
        rw [w] at q
        cases k with
        | true => exact iteT ⟨O, e1, s1, q⟩
        | false => exact iteF ⟨O, e1, s1, q⟩
theorem neg_pe {e : E} {p : Expr} {pos : Pos} (h : PE X p (tE X.K W cls cf e) ∧ PT X p (tT X.K W cls cf e)) : PE X (.UnaryOp .Not p pos) (tE X.K W cls cf (.neg e)) ∧ PT X (.UnaryOp .Not p pos) (tT X.K W cls cf (.neg e)) := by
  constructor
  · refine PE.imp' (pe_notT h.1) fun σ H Q ⟨O, env, S, q⟩ => ?_
    unfold evE at q
    refine ⟨O, env, S, (q.bind (evE_kinds cf e env)).imp fun d e1 H1 _ _ s1 q v hv => ?_⟩
    cases w : truth d with
    | none => rw [w] at q; exact q.elim
    | some k =>
      rw [w] at q
      exact ⟨k, truth_v hv w, q.start s1 _ rfl⟩
  · refine PT.imp' (pt_not h.2) fun σ H Q ⟨O, env, S, q⟩ => ?_
    unfold truthR evE at q
    refine ⟨O, env, S, ?_⟩
    unfold truthR
    cases z : evE cf e env with
    | stuck => rw [z] at q; exact q.elim
    | exn x e1 => rw [z] at q; exact q
    | ok d e1 =>
      rw [z] at q
      simp only [R.bind_ok] at q ⊢
      cases w : truth d with
      | none => rw [w] at q; exact q.elim
      | some k => rw [w] at q; exact q
/-- the block's context -/
theorem Ctx.blk (C : Ctx tb cls cf n N sc W X) (s : Shared) (H : Hp) (scope : Scope) (Ca : Addr) (cl : List (Str × Addr)) (fp : List Addr) : Ctx tb cls cf n N (relS scope sc) W0 (X.blk s H scope (compEnvC scope cl Ca X.env) fp) where
  hN := C.hN
  nd := C.nd
  hsc := by rw [← C.hsc]; rfl
  calm := C.calm
  room := C.room
  tk := takes0
  po := PassesOwn.never
  G := ⟨C.G.fns, C.G.bl, C.G.xs, C.G.gl⟩
theorem Ctx.sto (C : Ctx tb cls cf n N sc W X) (s : Shared) (H : Hp) (scope : Scope) (Ca : Addr) (cl : List (Str × Addr)) (fp : List Addr) : Sto (X.blk s H scope (compEnvC scope cl Ca X.env) fp) N scope (relS scope sc) where
  hN := C.hN
  nd := C.nd
  hsc := by rw [← C.hsc]; rfl
  calm := C.calm
  fn := fun x h => by show (scope.names.lookup x == some NameKind.cell) = true; rw [h]; rfl
theorem folded_ok {iter : Expr} {env : PySem.Env} (h : noSet iter = true) : ∀ x, foldedSetIterable iter env x = pure x := by
  intro x
  cases iter <;> first | rfl | cases h
/-- a comprehension's parts are as they should be -/
structure LcOk (N : List Str) (W : WX) (cls : Nat → Value) (cf : CallF) (X : Cx) (own : List Nat) (tg : Tg) (k : ItK) (src cnd : List E) (elt : E) (tg' iter' elt' : Expr) (ifs' : List Expr) (scope : Scope) : Prop where
  hc : X.calm = true
  hN : X.N.Nodup
  hi : PI X tg' iter' (tI X.K W cls cf k src)
  blk : BlkOk X.N X.env.scope scope (ownNames N own)
  hg : ∀ (s : Shared) (H : Hp) (Ca : Addr) (cl : List (Str × Addr)) (fp : List Addr), PG (X.blk s H scope (compEnvC scope cl Ca X.env) fp) tg' (tG X.K tg)
  ht : ∀ (s : Shared) (H : Hp) (Ca : Addr) (cl : List (Str × Addr)) (fp : List Addr), PTs (X.blk s H scope (compEnvC scope cl Ca X.env) fp) ifs' (tC X.K W0 cls cf cnd)
  he : ∀ (s : Shared) (H : Hp) (Ca : Addr) (cl : List (Str × Addr)) (fp : List Addr), PE (X.blk s H scope (compEnvC scope cl Ca X.env) fp) elt' (tE X.K W0 cls cf elt)
  fs : ∀ x, foldedSetIterable iter' X.env x = pure x
  ho : (ownNames N own).map (·.2) = own
theorem comp_ok (C : Ctx tb cls cf n N sc W X) {own : List Nat} {tg : Tg} {k : ItK} {src cnd : List E} {elt : E} {tg' iter' elt' : Expr} {ifs' pes : List Expr} {scope : Scope}
    (hi : itShape tb sc (isTup tg) k iter' = some pes) (hn : noSet iter' = true) (hp : noPeek src = true) (hpc : noPeek cnd = true) (ho : (ownNames N own).map (·.2) = own) (hb : blkC N sc scope (ownNames N own) = true) (ht : mTg N scope (relS scope sc) tg tg' = true) (hl : cnd.length ≤ 1)
    (hs : PVs X W cls cf src pes) (hc : ∀ (X' : Cx), Ctx tb cls cf n N (relS scope sc) W0 X' → ∀ (i : Nat) e p, cnd[i]? = some e → ifs'[i]? = some p → PE X' p (tE X'.K W0 cls cf e) ∧ PT X' p (tT X'.K W0 cls cf e)) (hcl : cnd.length = ifs'.length)
    (he : ∀ (X' : Cx), Ctx tb cls cf n N (relS scope sc) W0 X' → PE X' elt' (tE X'.K W0 cls cf elt)) : LcOk N W cls cf X own tg k src cnd elt tg' iter' elt' ifs' scope := by
  have tt : isTup tg = true → ∃ es kk pos, tg' = .Tuple es kk pos := fun h => by
    cases tg with
    | name i => cases h
    | tup ts => cases tg' <;> first | exact ⟨_, _, _, rfl⟩ | (simp [mTg] at ht)
  have hpi := it_rule (tg := tg') C tt hp hi hs
  have hpts : ∀ (s : Shared) (H : Hp) (Ca : Addr) (cl : List (Str × Addr)) (fp : List Addr), PTs (X.blk s H scope (compEnvC scope cl Ca X.env) fp) ifs' (tC X.K W0 cls cf cnd) := fun s H Ca cl fp => by
    have C' := C.blk s H scope Ca cl fp
    match cnd, ifs', hl, hcl, hc with
    | [], [], _, _, _ =>
      refine ⟨fun pins s σ H Q I ⟨O, env, S, q⟩ => pts_nil.run pins s σ H Q I ?_⟩
      unfold evC at q
      exact q.start S
    | [e], [p], _, _, hc =>
      obtain ⟨_, h2⟩ := hc _ C' 0 e p rfl rfl
      refine ⟨fun pins s σ H Q I ⟨O, env, S, q⟩ => (pts_one h2).run pins s σ H Q I ⟨O, env, S, ?_⟩⟩
      unfold evC at q
      unfold truthR
      cases z : evE cf e env with
      | stuck => rw [z] at q; exact q
      | exn x e1 => rw [z] at q; exact q
      | ok d e1 =>
        rw [z] at q
        simp only [R.bind_ok] at q ⊢
        cases w : truth d with
        | none => rw [w] at q; exact q.elim
        | some k => rw [w] at q; exact q
    | [], _ :: _, _, hcl, _ => simp at hcl
    | [_], [], _, hcl, _ => simp at hcl
    | [_], _ :: _ :: _, _, hcl, _ => simp at hcl
    | _ :: _ :: _, _, hl, _, _ => simp at hl
  have hN : X.N.Nodup := by rw [C.hN]; exact C.nd
  have hblk : BlkOk X.N X.env.scope scope (ownNames N own) := by rw [C.hN, C.hsc]; exact blkOk_by hb
  exact ⟨C.calm, hN, hpi, hblk, fun s H Ca cl fp => pg_ (C.sto s H scope Ca cl fp) ht, hpts, fun s H Ca cl fp => he _ (C.blk s H scope Ca cl fp), folded_ok hn, ho⟩
theorem LcOk.pe {own : List Nat} {tg : Tg} {k : ItK} {src cnd : List E} {elt : E} {tg' iter' elt' : Expr} {ifs' : List Expr} {scope : Scope} {pos : Pos} (L : LcOk N W cls cf X own tg k src cnd elt tg' iter' elt' ifs' scope) :
    PE X (.ListComp elt' [⟨tg', iter', ifs', 0⟩] scope pos) (tF X.K W cls cf (.comp own tg k src cnd elt)) := by
  refine PE.imp' (pe_lc (wi := tI X.K W cls cf k src) (g := tG X.K tg) (tt := tC X.K W0 cls cf cnd) (te := tE X.K W0 cls cf elt) L.hc L.hN L.hi L.blk L.hg L.ht L.he L.fs) fun σ H Q q => ?_
  rw [L.ho]
  exact tF_comp q
end
end
end Mp
set_option Elab.async false
set_option linter.all false
set_option maxRecDepth 100000
set_option maxHeartbeats 8000000
/-! the theorem for expressions -/
namespace Mp
open PySem L2
section
variable {tb : Tb} {cls : Nat → Value} {cf : CallF} {n : Nat} {N : List Str}
theorem mEs_len {sc : Scope} : ∀ {es : List E} {ps : List Expr}, mEs tb N sc es ps = true → es.length = ps.length
  | [], [], _ => rfl
  | [], _ :: _, h => by simp [mEs] at h
  | _ :: _, [], h => by simp [mEs] at h
  | e :: es, p :: ps, h => by
    simp only [mEs, Bool.and_eq_true] at h
    simp [mEs_len h.2]
theorem plainIx_of {i : Expr} (h : notSlice i = true) : PlainIx i := by
  intro o v
  cases i <;> first | rfl | cases h
theorem pe_rev {W : WX} {X : Cx} {a : E} {pa : Expr} {k : Nat} {p1 p2 p3 pos : Pos} (ha : PE X pa (tV X.K W cls cf a)) : PE X (.Subscript pa (.Slice none none (some (.UnaryOp .USub (.Constant (.int 1) k p1) p2)) p3) pos) (tE X.K W cls cf (.prim .rev [a])) := by
  refine ⟨fun pins s σ H Q I h => ?_⟩
  have h := tA1 (tE_prim h)
  refine PyProof.Rows.Subscript_ (thn (ha.run pins s σ H _ I h) fun v s1 ⟨x, H1, I1, r1, q1⟩ => ?_)
  obtain ⟨O, d, hd, ho, q⟩ := rS1 q1
  have hst : PO X (some (.UnaryOp .USub (.Constant (.int 1) k p1) p2)) (tPart (tUn (rU fun i => .int (-i)) (L2.tC (.int 1)))) := po_some (pe_un un_neg pe_int)
  refine PySem.wpAny_Slice (thn (po_none.run pins s1 σ H1 (fun o H2 => o = none ∧ H2 = H1) I1 ⟨rfl, rfl⟩) fun vl s2 ⟨l, H2, I2, pl, el, e2⟩ => ?_)
  subst el e2
  refine thn (po_none.run pins s2 σ H2 (fun o H3 => o = none ∧ H3 = H2) I2 ⟨rfl, rfl⟩) fun vu s3 ⟨u, H3, I3, pu, eu, e3⟩ => ?_
  subst eu e3
  refine thn (hst.run pins s3 σ H3 (fun o H4 => o = some (-1) ∧ H4 = H3) I3 ⟨1, rfl, -1, rfl, rfl, rfl⟩) fun vs s4 ⟨o, H4, I4, ps, eo, e4⟩ => ?_
  subst eo e4
  have I5 : Inv X pins σ H4 { s4 with heap := s4.heap.push { cls := .type "slice", data := .fields #[vl, vu, vs] } } := I4.kept (t' := s4.toks) fun b ob q => Heap.get?_push_of_some _ q
  cases pl
  cases pu
  cases d with
  | tup xs =>
    obtain ⟨b, ys, rfl, f1, rr⟩ := hd
    cases r1
    obtain ⟨its, r, ht, hz⟩ := I5.tuple f1.sq
    have hlen := r.length
    show wpAny (model X.prog X.w) X.A (PyProof.Rows.subscriptTail pa (.Slice none none (some (.UnaryOp .USub (.Constant (.int 1) k p1) p2)) p3) (.ref b) (.ref s4.heap.objs.size)) (EP X pins σ Q) X.xe { s4 with heap := s4.heap.push { cls := .type "slice", data := .fields #[.none, .none, vs] } }
    refine PyProof.Rows.tail_any (ops := [.ref b, .ref s4.heap.objs.size]) ht.typeIs (PyProof.Rows.slot_tuple_getitem.lookup) ?_ (by with_unfolding_all rfl)
    refine item_rev ht (Heap.IsSliceOf.new _ .none .none vs) ps ?_ (by rw [List.size_toArray]; omega)
    refine ⟨.ref _, _, I5.laid (t' := s4.toks) (o := .tup ys.reverse) (fun b ob q => Heap.get?_push_of_some _ q) (Nat.le_refl _) ?_, rfl, VQ.newT q (reps_reverse rr) ho (I5.hok.fresh (Nat.le_refl _))⟩
    exact ⟨by rw [List.length_reverse]; exact hz, _, r.reverse, PyProof.Rows.IsTup.new _ _⟩
  | lst xs =>
    obtain ⟨b, ys, rfl, f1, rr⟩ := hd
    cases r1
    obtain ⟨its, r, ht, hz⟩ := I5.list (SqL.of f1)
    have hlen := r.length
    show wpAny (model X.prog X.w) X.A (PyProof.Rows.subscriptTail pa (.Slice none none (some (.UnaryOp .USub (.Constant (.int 1) k p1) p2)) p3) (.ref b) (.ref s4.heap.objs.size)) (EP X pins σ Q) X.xe { s4 with heap := s4.heap.push { cls := .type "slice", data := .fields #[.none, .none, vs] } }
    refine PyProof.Rows.tail_any (ops := [.ref b, .ref s4.heap.objs.size]) ht.isList.typeIs (PySem.slot_list_getitem.lookup) ?_ (by with_unfolding_all rfl)
    refine wpAny_getItem_list_slice ht.isList (Heap.IsSliceOf.new _ .none .none vs) .none .none ps (by decide) ?_ (by rw [List.size_toArray]; omega)
    rw [PySem.W.krv_pick]
    refine ⟨.ref _, _, I5.laid (t' := s4.toks) (o := .lst ys.reverse) (fun b ob q => Heap.get?_push_of_some _ q) (Nat.le_refl _) ?_, rfl, VQ.newL q (reps_reverse rr) ho (I5.hok.fresh (Nat.le_refl _))⟩
    exact ⟨by rw [List.length_reverse]; exact hz, _, 0, r.reverse, Heap.get?_push_size _ rfl⟩
  | _ => exact q.none.elim
/-! ### list(range(..)), tuple(range(..)) -/
theorem rng_reps {K : PySem.W.Frag} {O : PA'} {H : Hp} (a b : Int) : Reps K O H (rangeL a (b - a).toNat) (rgV a b) := by
  unfold rangeL rgV
  generalize List.range (b - a).toNat = l
  induction l with
  | nil => rfl
  | cons x l ih => exact ⟨_, _, rfl, rfl, ih⟩
theorem rangeArg_inv {sc : Scope} {es es2 : List Expr} (h : rangeArg tb sc es = some es2) : ∃ p pos, es = [.Call (.Name "range" p) es2 [] pos] ∧ bltB tb sc "range" = true ∧ (es2.length = 1 ∨ es2.length = 2) := by
  unfold rangeArg at h
  split at h
  · split at h
    · rename_i hg
      simp only [Bool.and_eq_true, Bool.or_eq_true, beq_iff_eq] at hg
      cases h
      obtain ⟨⟨h1, rfl⟩, h2⟩ := hg
      exact ⟨_, _, rfl, h1, h2⟩
    · cases h
  · cases h
/-- what a range of that many bounds tells, by the parts' values -/
def tRgA (ta : TA) : St → Hp → (Int → Int → Hp → Prop) → Prop := fun σ H Q => ta σ H fun vs H1 => (∃ n, vs = [.int n] ∧ Q 0 n H1) ∨ ∃ i j, vs = [.int i, .int j] ∧ Q i j H1
theorem prg_ {sc : Scope} {W : WX} {X : Cx} (C : Ctx tb cls cf n N sc W X) {es : List E} {ps : List Expr} {p pos : Pos} (hg : bltB tb sc "range" = true) (hl : ps.length = 1 ∨ ps.length = 2) (h : PVs X W cls cf es ps) :
    PRg X (.Call (.Name "range" p) ps [] pos) (tRgA (tA X.K W cls cf es)) := by
  unfold bltB at hg
  simp only [Bool.and_eq_true] at hg
  obtain ⟨g1, _⟩ := gl_of C hg.1
  have hm := C.G.bl _ hg.2
  cases h with
  | nil => simp at hl
  | cons h1 s1 r =>
    cases r with
    | nil =>
      intro pins s σ H Q I q
      refine prg_1 g1 hm h1 (star1 s1) pins s σ H Q I ?_
      obtain ⟨O, env, S, p⟩ := id q
      refine tV_mono (tA1 q) fun x H1 q => ?_
      rcases q with ⟨n, e, q⟩ | ⟨i, j, e, q⟩
      · cases e; exact ⟨n, rfl, q⟩
      · cases e
    | cons h2 s2 r =>
      cases r with
      | cons _ _ _ => simp at hl
      | nil =>
        intro pins s σ H Q I q
        refine prg_2 g1 hm h1 h2 (star_cons s1) (star1 s2) (star_pl (by simp [s2])) pins s σ H Q I ?_
        refine tV_mono (tA2 q) fun x H1 q1 => tV_mono q1 fun y H2 q2 => ?_
        rcases q2 with ⟨n, e, q3⟩ | ⟨i, j, e, q3⟩
        · cases e
        · cases e; exact ⟨_, _, rfl, rfl, q3⟩
theorem rngEv_ok {K : PySem.W.Frag} {O : PA'} {H : Hp} {ds xs : List D} {vs : List V} (r : RepRs K O H ds vs) (h : rngEv ds = some xs) :
    (∃ n, vs = [.int n] ∧ RgOk 0 n ∧ xs = rangeL 0 (n - 0).toNat) ∨ ∃ i j, vs = [.int i, .int j] ∧ RgOk i j ∧ xs = rangeL i (j - i).toNat := by
  unfold rngEv at h
  split at h
  · split at h
    · rename_i hj
      simp only [Bool.and_eq_true, decide_eq_true_eq] at hj
      cases h
      obtain ⟨v, rfl, hv⟩ := rr1 r
      cases hv
      refine .inl ⟨_, rfl, ⟨by omega, by omega, (small_of hj.1).1, (small_of hj.1).2, ?_⟩, by rw [Int.sub_zero]⟩
      have := hj.2
      rw [Int.sub_zero]; omega
    · cases h
  · split at h
    · rename_i hj
      simp only [Bool.and_eq_true, decide_eq_true_eq] at hj
      cases h
      obtain ⟨v, w, rfl, hv, hw⟩ := rr2 r
      cases hv; cases hw
      refine .inr ⟨_, _, rfl, ⟨(small_of hj.1.1).1, (small_of hj.1.1).2, (small_of hj.1.2).1, (small_of hj.1.2).2, ?_⟩, rfl⟩
      have := hj.2
      omega
    · cases h
  · cases h
theorem pe_rngL {sc : Scope} {W : WX} {X : Cx} (C : Ctx tb cls cf n N sc W X) {es : List E} {ps : List Expr} {p p2 pos pos2 : Pos} (hg : bltB tb sc "range" = true) (hf : bltB tb sc "list" = true) (hl : ps.length = 1 ∨ ps.length = 2) (h : PVs X W cls cf es ps) :
    PE X (.Call (.Name "list" p2) [.Call (.Name "range" p) ps [] pos] [] pos2) (tE X.K W cls cf (.prim .rngL es)) := by
  unfold bltB at hf
  simp only [Bool.and_eq_true] at hf
  refine PE.imp' (pe_listRg C.calm (gl_of C hf.1).1 (C.G.bl _ hf.2) (prg_ C hg hl h) (by rfl)) fun σ H Q q => ?_
  obtain ⟨O, env, S, p⟩ := tE_prim q
  refine ⟨O, env, S, p.imp fun avs e1 H1 _ _ _ q vs hvs => ?_⟩
  obtain ⟨O, ds, r, ho, d, e, q⟩ := q vs hvs
  have e : (rngEv ds).map D.lst = some d := e
  cases z : rngEv ds with
  | none => rw [z] at e; cases e
  | some xs =>
    rw [z] at e
    cases e
    rcases rngEv_ok r z with ⟨n, e2, ok, rfl⟩ | ⟨i, j, e2, ok, rfl⟩
    · exact .inl ⟨n, e2, ok, fun l hl => VQ.newL (O := O) ⟨_, rfl, q⟩ (rng_reps 0 n) ho hl⟩
    · exact .inr ⟨i, j, e2, ok, fun l hl => VQ.newL (O := O) ⟨_, rfl, q⟩ (rng_reps i j) ho hl⟩
theorem pe_rngT {sc : Scope} {W : WX} {X : Cx} (C : Ctx tb cls cf n N sc W X) {es : List E} {ps : List Expr} {p p2 pos pos2 : Pos} (hg : bltB tb sc "range" = true) (hf : bltB tb sc "tuple" = true) (hl : ps.length = 1 ∨ ps.length = 2) (h : PVs X W cls cf es ps) :
    PE X (.Call (.Name "tuple" p2) [.Call (.Name "range" p) ps [] pos] [] pos2) (tE X.K W cls cf (.prim .rngT es)) := by
  unfold bltB at hf
  simp only [Bool.and_eq_true] at hf
  refine PE.imp' (pe_tupRg C.calm (gl_of C hf.1).1 (C.G.bl _ hf.2) (prg_ C hg hl h) (by rfl)) fun σ H Q q => ?_
  obtain ⟨O, env, S, p⟩ := tE_prim q
  refine ⟨O, env, S, p.imp fun avs e1 H1 _ _ _ q vs hvs => ?_⟩
  obtain ⟨O, ds, r, ho, d, e, q⟩ := q vs hvs
  have e : (rngEv ds).map D.tup = some d := e
  cases z : rngEv ds with
  | none => rw [z] at e; cases e
  | some xs =>
    rw [z] at e
    cases e
    rcases rngEv_ok r z with ⟨n, e2, ok, rfl⟩ | ⟨i, j, e2, ok, rfl⟩
    · exact .inl ⟨n, e2, ok, fun l hl => VQ.newT (O := O) ⟨_, rfl, q⟩ (rng_reps 0 n) ho hl⟩
    · exact .inr ⟨i, j, e2, ok, fun l hl => VQ.newT (O := O) ⟨_, rfl, q⟩ (rng_reps i j) ho hl⟩
theorem both {W : WX} {X : Cx} {e : E} {py : Expr} (h : PE X py (tE X.K W cls cf e)) (he : ∀ whole, isTrue py X.env whole = (do let v ← whole; standAt py.pos; holding [v] (truthy v))) : PE X py (tE X.K W cls cf e) ∧ PT X py (tT X.K W cls cf e) := ⟨h, tru h he⟩
/-- an operation's parts known, its rule -/
theorem prim_pe {sc : Scope} {W : WX} {X : Cx} (C : Ctx tb cls cf n N sc W X) {s : Sh} {es : List E} {py : Expr} {pes : List Expr} (hs : shape tb sc py = some (s, pes)) (hp : (noPeek es || (s != .tup && s != .lst)) = true) (hc : chainOk s es = true) (h : PVs X W cls cf es pes) :
    PE X py (tE X.K W cls cf (.prim s es)) ∧ PT X py (tT X.K W cls cf (.prim s es)) := by
  have hu := C.room.units
  have hu0 := C.room.units
  unfold shape at hs
  split at hs
  · -- a + b
    cases hs
    cases h with
    | cons h1 s1 r =>
      cases r with
      | cons h2 s2 r =>
        cases r
        exact both (OpR.pe (op_bin _) h1 h2) (by intro _; rfl)
  · -- a < b
    split at hs
    · cases hs
    · rename_i hb
      cases hs
      replace hb := Bool.eq_false_iff.mpr hb
      cases h with
      | cons h1 s1 r =>
        cases r with
        | cons h2 s2 r =>
          cases r
          refine ⟨PE.imp' (pe_cmpR (op_cmp' hu _) h1 h2 hb) fun σ H Q q => tA2 (tE_prim q), ?_⟩
          exact pt_of_b (pt_cmpR (op_cmp' hu _) h1 h2 hb) (fun σ H Q q => tA2 (tE_prim q)) (prim_bl (cmp_bl _))
  · -- a <= b <= c
    split at hs
    · cases hs
    · rename_i hb
      cases hs
      replace hb := Bool.eq_false_iff.mpr hb
      cases h with
      | cons h1 s1 r =>
        cases r with
        | cons h2 s2 r =>
          cases r with
          | cons h3 s3 r =>
            cases r
            refine ⟨PE.imp' (pe_chain (op_cmp_ hu _) (op_cmp_ hu _) h1 h2 h3 hb) fun σ H Q q => tE_chain (by exact hc) q, ?_⟩
            exact pt_of_b (pt_chain (op_cmp_ hu _) (op_cmp_ hu _) h1 h2 h3 hb) (fun σ H Q q => tE_chain (by exact hc) q) (prim_bl (chain_bl _ _))
  · -- -a
    cases hs
    cases h with
    | cons h1 s1 r =>
      cases r
      exact both (PE.imp' (pe_un un_neg_ h1) fun σ H Q q => tA1 (tE_prim q)) (by intro _; rfl)
  · -- a[i:j]
    split at hs
    · cases hs
      cases h with
      | cons h1 s1 r =>
        cases r
        exact both (pe_slc00 h1) (by intro _; rfl)
    · cases hs
      cases h with
      | cons h1 s1 r =>
        cases r with
        | cons h2 s2 r =>
          cases r
          exact both (pe_slc10 h1 h2) (by intro _; rfl)
    · cases hs
      cases h with
      | cons h1 s1 r =>
        cases r with
        | cons h2 s2 r =>
          cases r
          exact both (pe_slc01 h1 h2) (by intro _; rfl)
    · cases hs
      cases h with
      | cons h1 s1 r =>
        cases r with
        | cons h2 s2 r =>
          cases r with
          | cons h3 s3 r =>
            cases r
            exact both (pe_slc11 h1 h2 h3 hc) (by intro _; rfl)
  · -- a[::-1]
    cases hs
    cases h with
    | cons h1 s1 r =>
      cases r
      exact both (pe_rev h1) (by intro _; rfl)
  · -- a[i]
    split at hs
    · rename_i hn
      cases hs
      cases h with
      | cons h1 s1 r =>
        cases r with
        | cons h2 s2 r =>
          cases r
          exact both (PE.imp' (pe_ix ix_ h1 h2 (plainIx_of hn)) fun σ H Q q => tA2 (tE_prim q)) (by intro _; rfl)
    · cases hs
  · cases hs
    exact both (pe_tup_ (pos := _) (k := _) h (by simpa using hp)) (by intro _; rfl)
  · cases hs
    exact both (pe_lst_ (pos := _) h (by simpa using hp)) (by intro _; rfl)
  · split at hs
    · rename_i hg
      split at hs
      · rename_i s' es2 hz ha
        cases hs
        obtain ⟨p, pos, rfl, g2, hl⟩ := rangeArg_inv ha
        unfold rngSh at hz
        split at hz
        · rename_i hf
          cases hz
          have hf := beq_iff_eq.mp hf
          subst hf
          exact both (pe_rngL (p2 := _) (pos2 := _) C g2 hg hl h) (by intro _; rfl)
        · split at hz
          · rename_i hf
            cases hz
            have hf := beq_iff_eq.mp hf
            subst hf
            exact both (pe_rngT (p2 := _) (pos2 := _) C g2 hg hl h) (by intro _; rfl)
          · cases hz
      · split at hs
        · rename_i b hb
          cases hs
          exact both (pe_bi (p := _) (pos := _) C hb hg h) (by intro _; rfl)
        · split at hs
          · rename_i he
            have he := beq_iff_eq.mp he
            subst he
            split at hs
            · split at hs
              · rename_i hgt
                cases hx : tyOf _ with
                | none => rw [hx] at hs; cases hs
                | some ty =>
                  rw [hx] at hs
                  cases hs
                  cases h with
                  | cons h1 s1 r =>
                    cases r
                    exact both (pe_isi (p := _) (pos := _) C hx hg hgt h1 s1) (by intro _; rfl)
              · cases hs
            · cases hs
          · cases hs
    · cases hs
  · split at hs
    · rename_i o m apos args cpos hg
      simp only [Bool.and_eq_true, decide_eq_true_eq] at hg
      cases hx : meOf m with
      | none => rw [hx] at hs; cases hs
      | some k =>
        rw [hx] at hs
        cases hs
        have hm := meOf_name hx
        cases k with
        | index =>
          cases h with
          | cons h1 s1 r =>
            cases r with
            | nil => cases hc
            | cons h2 s2 r =>
              cases r with
              | cons _ _ _ => cases hc
              | nil =>
                subst hm
                exact both (meth_index (apos := apos) (cpos := cpos) C h1 h2 hg.1.2 s2 hg.1.1 hc) (by intro _; rfl)
        | _ => exfalso; revert hc; cases h with | cons _ _ r => cases r <;> exact Bool.false_ne_true
    · cases hs
  · cases hs
mutual
theorem sE : ∀ (e : E) {sc : Scope} {W : WX} {X : Cx}, Ctx tb cls cf n N sc W X → ∀ {py : Expr}, mE tb N sc e py = true → PE X py (tE X.K W cls cf e) ∧ PT X py (tT X.K W cls cf e)
  | .var i, sc, W, X, C, py, h => by
    unfold mE at h
    obtain ⟨x, pos, rfl, p⟩ := pe_name C h
    exact both (PE.imp' p fun σ H Q q => tE_var q) (by intro _; rfl)
  | .peek i, sc, W, X, C, py, h => by
    refine ⟨⟨fun pins s σ H Q I q => (tE_peek q).elim⟩, ⟨fun pins s σ H Q I q => ?_⟩⟩
    obtain ⟨O, env, S, q⟩ := q
    unfold truthR evE at q
    exact q.elim
  | .con d, sc, W, X, C, py, h => by
    unfold mE at h
    obtain ⟨p, c, k, pos, rfl⟩ := isCon_pe C h
    exact both p (by intro _; rfl)
  | .glob x d, sc, W, X, C, py, h => by
    unfold mE at h
    simp only [Bool.and_eq_true] at h
    cases z : tb.gl.lookup x with
    | none => rw [z] at h; exact absurd h.2 Bool.false_ne_true
    | some d' =>
      rw [z] at h
      have := D.beq_eq h.2
      subst this
      obtain ⟨p, y, pos, rfl⟩ := isGlob_pe C h.1 z
      exact both p (by intro _; rfl)
  | .prim s es, sc, W, X, C, py, h => by
    unfold mE at h
    cases z : shape tb sc py with
    | none => rw [z] at h; cases h
    | some r =>
      obtain ⟨s', pes⟩ := r
      rw [z] at h
      simp only [Bool.and_eq_true, decide_eq_true_eq] at h
      obtain ⟨⟨⟨e, hp⟩, hc⟩, h⟩ := h
      subst e
      exact prim_pe C z hp hc (sEs es C h)
  | .call f es, sc, W, X, C, py, h => by
    unfold mE at h
    split at h
    · simp only [Bool.and_eq_true, beq_iff_eq] at h
      exact both (call_pe C h.1.1.1 h.1.1.2 h.1.2 (sEs es C h.2)) (by intro _; rfl)
    · cases h
  | .ife c a b, sc, W, X, C, py, h => by
    unfold mE at h
    split at h
    · simp only [Bool.and_eq_true] at h
      exact ite_pe (sE c C h.1.1).2 (sE a C h.1.2) (sE b C h.2)
    · cases h
  | .bop k es, sc, W, X, C, py, h => by
    unfold mE at h
    split at h
    · rename_i op vs pos
      simp only [Bool.and_eq_true, decide_eq_true_eq, Bool.not_eq_true'] at h
      obtain ⟨⟨⟨e, hn⟩, hp⟩, h⟩ := h
      have := pe_bop (k := k) (pos := pos) (W := W) (fun z => by rw [z] at hn; cases hn) (fun i e p h1 h2 => sEi es C h i e p h1 h2) (mEs_len h)
      rw [e]
      exact ⟨PE.imp' this.1 fun σ H Q ⟨O, env, S, q⟩ => ⟨O, env, S, by unfold evE at q; exact q⟩, PT.imp' this.2.pt fun σ H Q ⟨O, env, S, q⟩ => ⟨O, env, S, by unfold truthR evE at q; exact q⟩⟩
    · cases h
  | .neg e, sc, W, X, C, py, h => by
    unfold mE at h
    split at h
    · exact neg_pe (sE e C h)
    · cases h
  | .comp own tg k src cnd elt, sc, W, X, C, py, h => by
    unfold mE at h
    split at h
    · split at h
      · rename_i hi
        simp only [Bool.and_eq_true, decide_eq_true_eq] at h
        obtain ⟨⟨⟨⟨⟨⟨⟨⟨⟨hn, hp⟩, hpc⟩, ho⟩, hb⟩, ht⟩, hs⟩, hc⟩, hl⟩, he⟩ := h
        exact both (PE.imp' (comp_ok C hi hn hp hpc ho hb ht hl (sEs src C hs) (fun X' C' i e p h1 h2 => sEi cnd C' hc i e p h1 h2) (mEs_len hc) (fun X' C' => (sE elt C' he).1)).pe fun σ H Q q => tF_of comp_lst q) (by intro _; rfl)
      · cases h
    · cases h
  | .mu m i es, sc, W, X, C, py, h => by
    unfold mE at h
    split at h
    · simp only [Bool.and_eq_true, decide_eq_true_eq, beq_iff_eq] at h
      obtain ⟨⟨⟨⟨⟨ho, e⟩, hp⟩, hl⟩, hlen⟩, h⟩ := h
      subst e
      exact both (pe_mu C ho hp (by simpa using hl) hlen (sEs es C h)) (by intro _; rfl)
    · cases h
theorem sEs : ∀ (es : List E) {sc : Scope} {W : WX} {X : Cx}, Ctx tb cls cf n N sc W X → ∀ {ps : List Expr}, mEs tb N sc es ps = true → PVs X W cls cf es ps
  | [], _, _, _, _, [], _ => .nil
  | [], _, _, _, _, _ :: _, h => by simp [mEs] at h
  | _ :: _, _, _, _, _, [], h => by simp [mEs] at h
  | e :: es, sc, W, X, C, p :: ps, h => by
    simp only [mEs, Bool.and_eq_true] at h
    exact .cons (pv_of C h.1 (sE e C h.1).1) (mE_noStar h.1) (sEs es C h.2)
theorem sEi : ∀ (es : List E) {sc : Scope} {W : WX} {X : Cx}, Ctx tb cls cf n N sc W X → ∀ {ps : List Expr}, mEs tb N sc es ps = true → ∀ (i : Nat) (e : E) (p : Expr), es[i]? = some e → ps[i]? = some p → PE X p (tE X.K W cls cf e) ∧ PT X p (tT X.K W cls cf e)
  | [], _, _, _, _, _, _, _, _, _, h, _ => by simp at h
  | _ :: _, _, _, _, _, [], h, _, _, _, _, _ => by simp [mEs] at h
  | e :: es, sc, W, X, C, p :: ps, h, 0, e', p', h1, h2 => by
    simp only [mEs, Bool.and_eq_true] at h
    simp at h1 h2
    subst h1 h2
    exact sE e C h.1
  | e :: es, sc, W, X, C, p :: ps, h, i + 1, e', p', h1, h2 => by
    simp only [mEs, Bool.and_eq_true] at h
    exact sEi es C h.2 i e' p' (by simpa using h1) (by simpa using h2)
end
end
end Mp
set_option Elab.async false
set_option linter.all false
set_option maxRecDepth 100000
set_option maxHeartbeats 2000000
/-! from one state to a later one of the same frame -/
namespace Mp
open PySem L2
def Own (σ : St) (env : Env) (a : Addr) : Prop := ∃ (i : Nat) (d : D), env[i]? = some (.own d) ∧ σ[i]? = some (some (.ref a))
structure Fr (K : PySem.W.Frag) (O0 : PA') (σ0 : St) (H0 : Hp) (env0 : Env) (O : PA') (σ : St) (H : Hp) (env : Env) : Prop where
  s : Sim K O σ H env
  ext : Ext (Mt σ0 (kinds env0)) H0 H
  dom : ∀ a, H0 a ≠ none → H a ≠ none
  o : ∀ a, O a → O0 a ∨ H0 a = none
  sub : ∀ a, O0 a → O a ∨ Own σ0 env0 a
  ow : ∀ a, Own σ env a → Own σ0 env0 a ∨ H0 a = none
  io1 : ∀ (i : Nat) (d : D), env0[i]? = some (.io d) → (∃ d', env[i]? = some (.io d')) ∧ σ[i]? = σ0[i]?
  io2 : ∀ (i : Nat) (d : D), env[i]? = some (.io d) → ∃ d', env0[i]? = some (.io d')
section
variable {K : PySem.W.Frag} {O O0 O1 O2 : PA'} {σ σ0 σ1 σ2 : St} {H H0 H1 H2 : Hp} {env env0 env1 env2 : Env}
theorem mt_cases {a : Addr} (m : Mt σ (kinds env) a) : Own σ env a ∨ ∃ (i : Nat) (d : D), env[i]? = some (.io d) ∧ σ[i]? = some (some (.ref a)) := by
  obtain ⟨i, k, h1, h2, h3⟩ := m
  rw [List.getElem?_map] at h1
  cases e : env[i]? with
  | none => rw [e] at h1; cases h1
  | some s =>
    rw [e] at h1
    simp only [Option.map_some, Option.some.injEq] at h1
    subst h1
    cases s with
    | none => exact absurd rfl h2
    | val d => exact absurd rfl h2
    | own d => exact .inl ⟨i, d, e, h3⟩
    | io d => exact .inr ⟨i, d, e, h3⟩
theorem Own.mt {a : Addr} (h : Own σ env a) : Mt σ (kinds env) a := by
  obtain ⟨i, d, e, h⟩ := h
  exact mt_of e (kd_own _) h
theorem Fr.mt (F : Fr K O0 σ0 H0 env0 O σ H env) {a : Addr} (m : Mt σ (kinds env) a) : Mt σ0 (kinds env0) a ∨ H0 a = none := by
  rcases mt_cases m with m | ⟨i, d, e, h⟩
  · exact (F.ow a m).imp Own.mt id
  · obtain ⟨d', e'⟩ := F.io2 i d e
    obtain ⟨_, q⟩ := F.io1 i d' e'
    rw [q] at h
    exact .inl (mt_of e' (kd_io _) h)
theorem Fr.refl (S : Sim K O σ H env) : Fr K O σ H env O σ H env :=
  ⟨S, Ext.refl, fun _ n => n, fun _ => .inl, fun _ => .inl, fun _ => .inl, fun i d e => ⟨⟨d, e⟩, rfl⟩, fun i d e => ⟨d, e⟩⟩
theorem Fr.trans (S0 : Sim K O0 σ0 H0 env0) (A : Fr K O0 σ0 H0 env0 O1 σ1 H1 env1) (B : Fr K O1 σ1 H1 env1 O2 σ2 H2 env2) : Fr K O0 σ0 H0 env0 O2 σ2 H2 env2 where
  s := B.s
  ext := fun b o e n => B.ext b o (A.ext b o e n) fun m => (A.mt m).elim n fun z => by rw [z] at e; cases e
  dom := fun a n => B.dom a (A.dom a n)
  o := fun a h => (B.o a h).elim (A.o a) fun z => .inr (Classical.byContradiction fun n => A.dom a n z)
  sub := fun a h => (A.sub a h).elim (fun z => (B.sub a z).imp id fun w => (A.ow a w).resolve_right (S0.trk a h)) .inr
  ow := fun a h => (B.ow a h).elim (A.ow a) fun z => .inr (Classical.byContradiction fun n => A.dom a n z)
  io1 := fun i d e => by
    obtain ⟨⟨d1, e1⟩, q1⟩ := A.io1 i d e
    obtain ⟨e2, q2⟩ := B.io1 i d1 e1
    exact ⟨e2, q2.trans q1⟩
  io2 := fun i d e => by
    obtain ⟨d1, e1⟩ := B.io2 i d e
    exact A.io2 i d1 e1
/-- by an expression -/
theorem kind_own {e : Env} {i : Nat} {s : Sl} (h : e[i]? = some s) (k : kd s = 1) : ∃ d, e[i]? = some (.own d) := by
  cases s <;> simp [kd] at k
  exact ⟨_, h⟩
theorem kind_io {e : Env} {i : Nat} {s : Sl} (h : e[i]? = some s) (k : kd s = 2) : ∃ d, e[i]? = some (.io d) := by
  cases s <;> simp [kd] at k
  exact ⟨_, h⟩
theorem Fr.step (S : Sim K O σ H env) (x : Ext (Mt σ (kinds env)) H H1) (S1 : Sim K O σ H1 env1) (hk : kinds env1 = kinds env) : Fr K O σ H env O σ H1 env1 where
  s := S1
  ext := x
  dom := fun a n => by
    by_cases m : Mt σ (kinds env) a
    · exact S1.trk a (S.mtO a m)
    · cases e : H a with
      | none => exact absurd e n
      | some o => rw [x a o e m]; simp
  o := fun _ => .inl
  sub := fun _ => .inl
  ow := fun a ⟨i, d, e, h⟩ => by
    obtain ⟨t, e', k⟩ := kinds_at hk.symm e
    obtain ⟨d', e2⟩ := kind_own e' k
    exact .inl ⟨i, d', e2, h⟩
  io1 := fun i d e => by
    obtain ⟨t, e', k⟩ := kinds_at hk e
    exact ⟨kind_io e' k, rfl⟩
  io2 := fun i d e => by
    obtain ⟨t, e', k⟩ := kinds_at hk.symm e
    exact kind_io e' k
theorem put_at {i : Nat} {s : Sl} (h : put env i s = some env1) (k : kd s ≠ 2) : env1 = env.set i s ∧ i < env.length ∧ (∀ d, env[i]? ≠ some (.io d)) ∧ ∀ (j : Nat) (t : Sl), env1[j]? = some t → (j = i ∧ t = s) ∨ (j ≠ i ∧ env[j]? = some t) := by
  unfold put at h
  cases e : env[i]? with
  | none => rw [e] at h; cases h
  | some t =>
    rw [e] at h
    have hi : i < env.length := (List.getElem?_eq_some_iff.mp e).1
    have h' : env1 = env.set i s := by cases t <;> simp at h <;> exact h.symm
    refine ⟨h', hi, fun d z => ?_, fun j u q => ?_⟩
    · cases z
      simp at h
    · subst h'
      by_cases hj : i = j
      · subst hj
        rw [List.getElem?_set_self hi] at q
        cases q
        exact .inl ⟨rfl, rfl⟩
      · rw [List.getElem?_set_ne hj] at q
        exact .inr ⟨fun z => hj z.symm, q⟩
mutual
/-- what an assignment leaves -/
theorem asg_at : ∀ {t : Tg} {d : D} {env env1 : Env}, asg env t d = some env1 → (∀ (j : Nat) (u : Sl), env1[j]? = some u → (env[j]? = some u ∧ j ∉ tgS t) ∨ kd u = 0) ∧ ∀ (j : Nat) (d : D), env[j]? = some (.io d) → env1[j]? = some (.io d) ∧ j ∉ tgS t
  | .name i, d, env, env1, h => by
    obtain ⟨e, hi, ni, at_⟩ := put_at (s := .val d) (by simpa [asg] using h) (by simp [kd])
    refine ⟨fun j u q => ?_, fun j d' q => ?_⟩
    · rcases at_ j u q with ⟨_, rfl⟩ | ⟨n, q⟩
      · exact .inr rfl
      · exact .inl ⟨q, by simp [tgS]; exact n⟩
    · have hj : i ≠ j := fun z => by subst z; exact ni d' q
      subst e
      rw [List.getElem?_set_ne hj]
      exact ⟨q, by simp [tgS]; exact fun z => hj z.symm⟩
  | .tup ts, .tup ds, env, env1, h => by
    have h : asgs env ts ds = some env1 := by simpa [asg] using h
    obtain ⟨h1, h2⟩ := asgs_at h
    refine ⟨fun j u q => ?_, fun j d q => ?_⟩
    · rcases h1 j u q with h | h
      · exact .inl (by simpa [tgS] using h)
      · exact .inr h
    · simpa [tgS] using h2 j d q
  | .tup ts, .non, _, _, h => by simp [asg] at h
  | .tup ts, .bl _, _, _, h => by simp [asg] at h
  | .tup ts, .int _, _, _, h => by simp [asg] at h
  | .tup ts, .str _, _, _, h => by simp [asg] at h
  | .tup ts, .lst _, _, _, h => by simp [asg] at h
  | .tup ts, .dct _ _, _, _, h => by simp [asg] at h
  | .tup ts, .set _, _, _, h => by simp [asg] at h
  | .tup ts, .scr _, _, _, h => by simp [asg] at h
theorem asgs_at : ∀ {ts : List Tg} {ds : List D} {env env1 : Env}, asgs env ts ds = some env1 → (∀ (j : Nat) (u : Sl), env1[j]? = some u → (env[j]? = some u ∧ j ∉ tgsS ts) ∨ kd u = 0) ∧ ∀ (j : Nat) (d : D), env[j]? = some (.io d) → env1[j]? = some (.io d) ∧ j ∉ tgsS ts
  | [], [], env, env1, h => by
    simp [asgs] at h
    subst h
    exact ⟨fun j u q => .inl ⟨q, by simp [tgsS]⟩, fun j d q => ⟨q, by simp [tgsS]⟩⟩
  | [], _ :: _, _, _, h => by simp [asgs] at h
  | _ :: _, [], _, _, h => by simp [asgs] at h
  | t :: ts, d :: ds, env, env1, h => by
    unfold asgs at h
    cases z : asg env t d with
    | none => rw [z] at h; cases h
    | some e =>
      rw [z] at h
      obtain ⟨h1, h2⟩ := asg_at z
      obtain ⟨h3, h4⟩ := asgs_at h
      refine ⟨fun j u q => ?_, fun j d' q => ?_⟩
      · rcases h3 j u q with ⟨q, n⟩ | k
        · rcases h1 j u q with ⟨q, m⟩ | k
          · exact .inl ⟨q, by simp [tgsS]; exact ⟨m, n⟩⟩
          · exact .inr k
        · exact .inr k
      · obtain ⟨q, m⟩ := h2 j d' q
        obtain ⟨q, n⟩ := h4 j d' q
        exact ⟨q, by simp [tgsS]; exact ⟨m, n⟩⟩
end
theorem Fr.asg {t : Tg} {d : D} (S : Sim K O σ H env) (h : asg env t d = some env1) (S1 : Sim K O σ1 H env1) (o : Out σ σ1 (tgS t)) : Fr K O σ H env O σ1 H env1 := by
  obtain ⟨h1, h2⟩ := asg_at h
  refine ⟨S1, Ext.refl, fun _ n => n, fun _ => .inl, fun _ => .inl, fun a ⟨i, d', e, q⟩ => ?_, fun i d' e => ?_, fun i d' e => ?_⟩
  · rcases h1 i _ e with ⟨e, n⟩ | k
    · rw [o.2 i n] at q
      exact .inl ⟨i, d', e, q⟩
    · exact absurd k (kd_own _)
  · obtain ⟨e1, n⟩ := h2 i d' e
    exact ⟨⟨d', e1⟩, o.2 i n⟩
  · rcases h1 i _ e with ⟨e, n⟩ | k
    · exact ⟨d', e⟩
    · exact absurd k (kd_io _)
/-- a list of our own comes to a slot -/
theorem Sim.own {i : Nat} {a : Addr} {xs : List D} {vs : List V} (S0 : Sim K O σ H0 env0) (hk : kinds env = kinds env0) (S : Sim K (fun b => O b ∨ b = a) σ H env) (ha0 : H0 a = none) (ha : H a = some (.lst vs)) (r : Reps K (fun b => O b ∨ b = a) H xs vs) (h : Mp.put env i (.own (.lst xs)) = some env1) :
    Sim K (fun b => O b ∨ b = a) (σ.set i (some (.ref a))) H env1 := by
  obtain ⟨e, hi, ni, at_⟩ := put_at h (by simp [kd])
  have hs : i < σ.length := by rw [S.len]; exact hi
  have nm : ¬ Mt σ (kinds env) a := fun m => S0.trk a (S0.mtO a (by rw [hk] at m; exact m)) ha0
  refine ⟨by rw [e]; simp [S.len], fun j d q => ?_, fun j d q => ?_, fun j l b s t e1 e2 k1 k2 e3 e4 => ?_, S.trk⟩
  · rcases at_ j _ q with ⟨_, z⟩ | ⟨n, q⟩
    · cases z
    · rw [List.getElem?_set_ne (Ne.symm n)]
      exact S.val j d q
  · have go : ∀ t, env1[j]? = some t → (t = .own d ∨ t = .io d) → ∃ b, (σ.set i (some (V.ref a)))[j]? = some (some (.ref b)) ∧ (O b ∨ b = a) ∧ Cell K (fun b => O b ∨ b = a) H d b := fun t q et => by
      rcases at_ j _ q with ⟨rfl, z⟩ | ⟨n, q⟩
      · have : d = .lst xs := by rcases et with rfl | rfl <;> cases z; rfl
        subst this
        exact ⟨a, by rw [List.getElem?_set_self hs], .inr rfl, vs, ha, r⟩
      · rw [List.getElem?_set_ne (Ne.symm n)]
        exact S.cel j d (by rcases et with rfl | rfl; exact .inl q; exact .inr q)
    rcases q with q | q
    · exact go _ q (.inl rfl)
    · exact go _ q (.inr rfl)
  · rcases at_ j _ e1 with ⟨rfl, z1⟩ | ⟨n1, q1⟩
    · rcases at_ l _ e2 with ⟨rfl, z2⟩ | ⟨n2, q2⟩
      · rfl
      · rw [List.getElem?_set_self hs] at e3
        cases e3
        rw [List.getElem?_set_ne (Ne.symm n2)] at e4
        exact absurd (mt_of q2 k2 e4) nm
    · rw [List.getElem?_set_ne (Ne.symm n1)] at e3
      rcases at_ l _ e2 with ⟨rfl, z2⟩ | ⟨n2, q2⟩
      · rw [List.getElem?_set_self hs] at e4
        cases e4
        exact absurd (mt_of q1 k1 e3) nm
      · rw [List.getElem?_set_ne (Ne.symm n2)] at e4
        exact S.inj j l b s t q1 q2 k1 k2 e3 e4
theorem Fr.own {i : Nat} {a : Addr} {xs : List D} {vs : List V} (S0 : Sim K O σ H env) (x : Ext (Mt σ (kinds env)) H H1) (hk : kinds env1 = kinds env) (S : Sim K (fun b => O b ∨ b = a) σ H1 env1) (ha0 : H a = none) (ha : H1 a = some (.lst vs))
    (r : Reps K (fun b => O b ∨ b = a) H1 xs vs) (h : Mp.put env1 i (.own (.lst xs)) = some env2) : Fr K O σ H env (fun b => O b ∨ b = a) (σ.set i (some (.ref a))) H1 env2 := by
  have S2 := Sim.own S0 hk S ha0 ha r h
  obtain ⟨e, hi, ni, at_⟩ := put_at h (by simp [kd])
  have hs : i < σ.length := by rw [S.len]; exact hi
  refine ⟨S2, x, fun b n => ?_, fun b z => z.imp id fun (e : b = a) => by rw [e]; exact ha0, fun b z => .inl (.inl z), fun b ⟨j, d, e1, q⟩ => ?_, fun j d e1 => ?_, fun j d e1 => ?_⟩
  · by_cases m : Mt σ (kinds env) b
    · exact S.trk b (.inl (S0.mtO b m))
    · cases e : H b with
      | none => exact absurd e n
      | some o => rw [x b o e m]; simp
  · rcases at_ j _ e1 with ⟨rfl, z⟩ | ⟨n, q1⟩
    · rw [List.getElem?_set_self hs] at q
      cases q
      exact .inr ha0
    · rw [List.getElem?_set_ne (Ne.symm n)] at q
      obtain ⟨t, e', k⟩ := kinds_at hk.symm q1
      obtain ⟨d', e2⟩ := kind_own e' k
      exact .inl ⟨j, d', e2, q⟩
  · obtain ⟨t, e', k⟩ := kinds_at hk e1
    obtain ⟨d', e2⟩ := kind_io e' k
    have n : i ≠ j := fun z => by subst z; exact ni d' e2
    refine ⟨⟨d', ?_⟩, by rw [List.getElem?_set_ne n]⟩
    rw [e, List.getElem?_set_ne n]
    exact e2
  · rcases at_ j _ e1 with ⟨_, z⟩ | ⟨n, q1⟩
    · cases z
    · obtain ⟨t, e', k⟩ := kinds_at hk.symm q1
      exact kind_io e' k
/-- a list of our own is a value from now on -/
theorem Fr.frz {i : Nat} {d : D} (S : Sim K O σ H env) (h : env[i]? = some (.own d)) : ∃ O1, Fr K O σ H env O1 σ H (env.set i (.val d)) := by
  obtain ⟨a, ha, oa, c⟩ := S.cel i d (.inl h)
  have hi : i < env.length := (List.getElem?_eq_some_iff.mp h).1
  have at_ : ∀ (j : Nat) (t : Sl), (env.set i (.val d))[j]? = some t → (j = i ∧ t = .val d) ∨ (j ≠ i ∧ env[j]? = some t) := fun j t q => by
    by_cases hj : i = j
    · subst hj
      rw [List.getElem?_set_self hi] at q
      cases q
      exact .inl ⟨rfl, rfl⟩
    · rw [List.getElem?_set_ne hj] at q
      exact .inr ⟨fun z => hj z.symm, q⟩
  have sb : ∀ b, H b ≠ none → (O b ∧ b ≠ a) → O b := fun b _ z => z.1
  refine ⟨fun b => O b ∧ b ≠ a, ⟨by simp [S.len], fun j d' q => ?_, fun j d' q => ?_, fun j l b s t e1 e2 k1 k2 e3 e4 => ?_, fun b z => S.trk b z.1⟩, Ext.refl, fun _ n => n, fun b z => .inl z.1, fun b z => ?_, fun b ⟨j, d', e1, q⟩ => ?_, fun j d' e1 => ?_, fun j d' e1 => ?_⟩
  · rcases at_ j _ q with ⟨rfl, z⟩ | ⟨n, q⟩
    · cases z
      refine ⟨.ref a, ha, ?_⟩
      cases d <;> simp only [Cell] at c
      obtain ⟨vs, h1, h2⟩ := c
      exact ⟨a, vs, rfl, h1, fun z => z.2 rfl, reps_sub sb h2⟩
    · obtain ⟨v, h1, h2⟩ := S.val j d' q
      exact ⟨v, h1, rep_sub sb h2⟩
  · have go : ∀ t, (env.set i (.val d))[j]? = some t → (t = .own d' ∨ t = .io d') → ∃ b, σ[j]? = some (some (.ref b)) ∧ (O b ∧ b ≠ a) ∧ Cell K (fun b => O b ∧ b ≠ a) H d' b := fun t q et => by
      rcases at_ j _ q with ⟨rfl, z⟩ | ⟨n, q⟩
      · rcases et with rfl | rfl <;> cases z
      · obtain ⟨b, h1, h2, h3⟩ := S.cel j d' (by rcases et with rfl | rfl; exact .inl q; exact .inr q)
        have kt : kd t ≠ 0 := by rcases et with rfl | rfl; exact kd_own _; exact kd_io _
        refine ⟨b, h1, ⟨h2, fun z => ?_⟩, cell_sub sb h3⟩
        subst z
        exact n (S.inj j i b t _ q h kt (kd_own _) h1 ha)
    rcases q with q | q
    · exact go _ q (.inl rfl)
    · exact go _ q (.inr rfl)
  · rcases at_ j _ e1 with ⟨_, z⟩ | ⟨_, q1⟩
    · subst z; exact absurd rfl k1
    · rcases at_ l _ e2 with ⟨_, z⟩ | ⟨_, q2⟩
      · subst z; exact absurd rfl k2
      · exact S.inj j l b s t q1 q2 k1 k2 e3 e4
  · by_cases e : b = a
    · subst e; exact .inr ⟨i, d, h, ha⟩
    · exact .inl ⟨z, e⟩
  · rcases at_ j _ e1 with ⟨_, z⟩ | ⟨n, q1⟩
    · cases z
    · exact .inl ⟨j, d', q1, q⟩
  · have n : i ≠ j := fun z => by subst z; rw [h] at e1; cases e1
    exact ⟨⟨d', by rw [List.getElem?_set_ne n]; exact e1⟩, rfl⟩
  · rcases at_ j _ e1 with ⟨_, z⟩ | ⟨n, q1⟩
    · cases z
    · exact ⟨d', q1⟩
/-- a list of ours is changed -/
theorem Fr.turn {i : Nat} {s : Sl} {a : Addr} {ds : List D} {vs : List V} (S : Sim K O σ H env) (e : env[i]? = some s) (k : kd s ≠ 0) (h : σ[i]? = some (some (.ref a))) (r : Reps K O H ds vs) :
    Fr K O σ H env O σ (upd H a (.lst vs)) (env.set i (reset (.lst ds) s)) := Fr.step S (Ext.upd (mt_of e k h)) (S.turn e k h r) (kinds_set e (reset_kd _ s))
end
end Mp
set_option Elab.async false
set_option linter.all false
set_option maxRecDepth 100000
set_option maxHeartbeats 4000000
/-! an expression that tells a list of its own -/
namespace Mp
open PySem L2
section
variable {tb : Tb} {cls : Nat → Value} {cf : CallF} {n : Nat} {N : List Str} {sc : Scope} {W : WX} {X : Cx} {K : PySem.W.Frag} {O : PA'} {σ : St} {H H' H1 : Hp} {env : Env}
theorem tF_lst {es : List E} (hp : noPeek es = true) {Q : VK} (h : tF K W cls cf (.prim .lst es) σ H Q) : tA K W cls cf es σ H fun vs H1 => vs.length ≤ sizeLine ∧ ∀ p, H1 p = none → Q (.ref p) (upd H1 p (.lst vs)) := by
  obtain ⟨O, env, S, p⟩ := h
  unfold evE at p
  refine ⟨O, env, S, (p.bind S (evA_kinds cf es env)).imp fun avs e1 H1 ea _ s1 q vs hvs => ?_⟩
  cases z : rds e1 avs with
  | none => rw [z] at q; exact q.elim
  | some ds =>
    rw [z] at q
    have r := rds_vals (noPeek_vals hp ea) z hvs
    have q : PostF K W cls O σ H1 e1 (ofOpt (if ds.length ≤ 16777216 then some (D.lst ds) else none) e1) Q := q
    by_cases hl : ds.length ≤ 16777216
    · rw [if_pos hl] at q
      have q : PostF K W cls O σ H1 e1 (R.ok (D.lst ds) e1) Q := q
      refine ⟨by rw [reps_len r]; exact hl, fun p hp => ?_⟩
      have sb : ∀ a, H1 a ≠ none → (O a ∨ a = p) → O a := fun a n z => z.elim id fun e => absurd (e ▸ hp) n
      exact q.2 ds p vs _ rfl hp (Ext.new hp) (s1.more hp) upd_same (reps_ext (Ext.new hp) (reps_sub sb r))
    · rw [if_neg hl] at q
      exact q.elim
/-- list(..): a new one -/
def rL (K : PySem.W.Frag) (vs : List V) (H : Hp) (Q : VK) : Prop := ∃ O ds xs, RepRs K O H ds vs ∧ (∀ a, O a → H a ≠ none) ∧ listEv ds = some (.lst xs) ∧ ∀ us l, Reps K O H xs us → H l = none → Q (.ref l) (upd H l (.lst us))
theorem call_listF (hc : X.calm = true) : CallR X (.type "list") (fun vs H Q => rL X.K vs H Q) := by
  intro pins s σ H vs us Q I r ⟨O, ds, xs, hr, ho, e, q⟩
  unfold listEv at e
  split at e <;> first | (cases e; done) | skip
  · cases e
    obtain ⟨v, rfl, p, vs, rfl, f1, r1⟩ := rr1 hr
    exact call_list_of pins s σ H _ us Q I r ⟨p, vs, rfl, .inl (SqL.of f1), fun l hl => q _ l r1 hl⟩
  · cases e
    obtain ⟨v, rfl, p, vs, rfl, f1, r1⟩ := rr1 hr
    exact call_list_of pins s σ H _ us Q I r ⟨p, vs, rfl, .inr f1.sq, fun l hl => q _ l r1 hl⟩
  · cases e
    obtain ⟨v, rfl, p, rfl, f1⟩ := rr1 hr
    exact call_list_of pins s σ H _ us Q I r ⟨p, _, rfl, .inl f1.sq, fun l hl => q _ l reps_ints hl⟩
  · rename_i t
    split at e
    · rename_i hl
      cases e
      obtain ⟨v, rfl, e⟩ := rr1 hr
      cases e
      exact call_list_txt hc pins s σ H _ us Q I r ⟨t, rfl, by rw [sl16]; exact hl, fun l hl => q _ l signs_reps hl⟩
    · cases e
theorem tF_list {es : List E} {Q : VK} (h : tF K W cls cf (.prim (.call .list) es) σ H Q) : tA K W cls cf es σ H fun vs H1 => rL K vs H1 Q := by
  obtain ⟨O, env, S, p⟩ := h
  unfold evE at p
  refine ⟨O, env, S, (p.bind S (evA_kinds cf es env)).imp fun avs e1 H1 ea _ s1 q vs hvs => ?_⟩
  cases z : rds e1 avs with
  | none => rw [z] at q; exact q.elim
  | some ds =>
    rw [z] at q
    have q : PostF K W cls O σ H1 e1 (ofOpt (listEv ds) e1) Q := q
    cases y : listEv ds with
    | none => rw [y] at q; exact q.elim
    | some d =>
      rw [y] at q
      have q : PostF K W cls O σ H1 e1 (R.ok d e1) Q := q
      have hd : ∃ xs, d = .lst xs := by
        unfold listEv at y
        split at y <;> first | (cases y; done) | (cases y; exact ⟨_, rfl⟩) | skip
        split at y <;> cases y
        exact ⟨_, rfl⟩
      obtain ⟨xs, rfl⟩ := hd
      refine ⟨O, ds, xs, rds_rep s1 z hvs, s1.trk, y, fun us l r hl => ?_⟩
      have sb : ∀ a, H1 a ≠ none → (O a ∨ a = l) → O a := fun a n z => z.elim id fun e => absurd (e ▸ hl) n
      exact q.2 xs l us _ rfl hl (Ext.new hl) (s1.more hl) upd_same (reps_ext (Ext.new hl) (reps_sub sb r))
/-- a + b, a * k, of lists: a new one -/
def rBF (K : PySem.W.Frag) (op : Operator) (x y : V) (H : Hp) (Q : VK) : Prop := ∃ O da db xs, RepR K O H da x ∧ RepR K O H db y ∧ (∀ a, O a → H a ≠ none) ∧ binEv op da db = some (.lst xs) ∧ ∀ us l, Reps K O H xs us → H l = none → Q (.ref l) (upd H l (.lst us))
theorem op_binF (op : Operator) : OpR X (binaryOp op) (fun x y H Q => rBF X.K op x y H Q) := by
  intro pins s σ H x y v u Q I rx ry ⟨O, a, b, xs, ha, hb, ho, e, q⟩
  unfold binEv at e
  split at e <;> first | (cases e; done) | (unfold lenOk at e; split at e <;> cases e; done) | (split at e <;> cases e; done) | skip
  · rename_i xs ys
    unfold lenOk at e
    split at e
    · rename_i hl
      cases e
      obtain ⟨p, vs, rfl, f1, r1⟩ := ha
      obtain ⟨p', ws, rfl, f2, r2⟩ := hb
      refine op_cat pins s σ H _ _ v u Q I rx ry ⟨p, p', vs, ws, rfl, rfl, f1, f2, ?_, fun t ht => q _ t (reps_append r1 r2) ht⟩
      have e : sizeLine = 16777216 := rfl
      rw [reps_len r1, reps_len r2]; omega
    · cases e
  · rename_i xs k
    split at e
    · rename_i hm
      cases e
      obtain ⟨p, vs, rfl, f1, r1⟩ := ha
      cases hb
      refine op_rep pins s σ H _ _ v u Q I rx ry ⟨p, k, vs, rfl, rfl, f1, by omega, by omega, ?_, fun t ht => q _ t (reps_flat k.toNat r1) ht⟩
      have e : sizeLine = 16777216 := rfl
      have h1 : vs.length * k.toNat ≤ 4000 * 4000 := Nat.mul_le_mul (by rw [reps_len r1]; exact hm.1) (by omega)
      omega
    · cases e
/-- an operation whose list is a new one: the parts are read -/
theorem tF_prim {s : Sh} {es : List E} {Q : VK} (h : tF K W cls cf (.prim s es) σ H Q) : tA K W cls cf es σ H fun vs H1 => ∃ O ds xs, RepRs K O H1 ds vs ∧ (∀ a, O a → H1 a ≠ none) ∧ pev s ds = some (.lst xs) ∧ ∀ us l, Reps K O H1 xs us → H1 l = none → Q (.ref l) (upd H1 l (.lst us)) := by
  obtain ⟨O, env, S, p⟩ := h
  unfold evE at p
  refine ⟨O, env, S, (p.bind S (evA_kinds cf es env)).imp fun avs e1 H1 ea _ s1 q vs hvs => ?_⟩
  cases z : rds e1 avs with
  | none => rw [z] at q; exact q.elim
  | some ds =>
    rw [z] at q
    have q : PostF K W cls O σ H1 e1 (ofOpt (pev s ds) e1) Q := q
    cases y : pev s ds with
    | none => rw [y] at q; exact q.elim
    | some d =>
      rw [y] at q
      have q : PostF K W cls O σ H1 e1 (R.ok d e1) Q := q
      obtain ⟨⟨xs, rfl⟩, q⟩ := q
      refine ⟨O, ds, xs, rds_rep s1 z hvs, s1.trk, y, fun us l r hl => ?_⟩
      have sb : ∀ a, H1 a ≠ none → (O a ∨ a = l) → O a := fun a n z => z.elim id fun e => absurd (e ▸ hl) n
      exact q xs l us _ rfl hl (Ext.new hl) (s1.more hl) upd_same (reps_ext (Ext.new hl) (reps_sub sb r))
theorem tF_bin {op : Operator} {a b : E} {Q : VK} (h : tF K W cls cf (.prim (.bin op) [a, b]) σ H Q) : tV K W cls cf a σ H fun x H1 => tV K W cls cf b σ H1 fun y H2 => rBF K op x y H2 Q := by
  refine tV_mono (tA2 (tF_prim h)) fun x H1 q => tV_mono q fun y H2 ⟨O, ds, xs, r, ho, e, q⟩ => ?_
  match ds, r, e with
  | [da, db], r, e =>
    obtain ⟨v, w, z, h1, h2⟩ := rr2 r
    cases z
    exact ⟨O, da, db, xs, h1, h2, ho, e, q⟩
  | [], r, _ => cases r
  | [_], r, _ => obtain ⟨_, z, _⟩ := rr1 r; cases z
  | _ :: _ :: _ :: _, r, _ =>
    exfalso
    obtain ⟨_, _, z, _, _, _, z2, _, _, _, z3, _⟩ := r
    subst z3
    subst z2
    cases z
theorem tF_rng {es : List E} {Q : VK} (h : tF K W cls cf (.prim .rngL es) σ H Q) : tLstRg (tRgA (tA K W cls cf es)) σ H Q := by
  obtain ⟨O, env, S, p⟩ := tF_prim h
  refine ⟨O, env, S, p.imp fun avs e1 H1 _ _ _ q vs hvs => ?_⟩
  obtain ⟨O, ds, xs, r, ho, e, q⟩ := q vs hvs
  have e : (rngEv ds).map D.lst = some (.lst xs) := e
  cases z : rngEv ds with
  | none => rw [z] at e; cases e
  | some ys =>
    rw [z] at e
    cases e
    rcases rngEv_ok r z with ⟨n, e2, ok, rfl⟩ | ⟨i, j, e2, ok, rfl⟩
    · exact .inl ⟨n, e2, ok, fun l hl => q _ l (rng_reps 0 n) hl⟩
    · exact .inr ⟨i, j, e2, ok, fun l hl => q _ l (rng_reps i j) hl⟩
theorem tF_call {f : Nat} {es : List E} {Q : VK} (hf : f % 2 ≠ 0) (h : tF K W cls cf (.call f es) σ H Q) : tA K W cls cf es σ H fun vs H1 => spF K cls cf f vs H1 Q (WE W σ) := by
  obtain ⟨O, env, S, p⟩ := h
  unfold evE at p
  refine ⟨O, env, S, (p.bind S (evA_kinds cf es env)).imp fun avs e1 H1 _ _ s1 q vs hvs => ?_⟩
  cases z : hand e1 avs with
  | none => rw [z] at q; exact q.elim
  | some sls =>
    rw [z] at q
    simp only [] at q
    by_cases hn : nodupB (ioOf e1 avs) = true
    · rw [if_pos hn] at q
      have nd := nodupB_of hn
      obtain ⟨s2, o2, n2⟩ := hand_sim s1 hvs z nd
      refine ⟨O, sls, s2, o2, n2, ?_⟩
      cases w : cf f sls with
      | stuck => rw [w] at q; exact q.elim
      | ok d outs =>
        rw [w] at q
        simp only [] at q ⊢
        rw [if_neg hf]
        intro xs a us H' sls' ed ha x hk ho S' ea r
        subst ho
        cases b : back e1 (ioOf e1 avs) (outsOf sls') with
        | none => rw [b] at q; exact q.elim
        | some e2 =>
          rw [b] at q
          obtain ⟨x2, s3⟩ := back_simO s1 (fun _ z => .inl z) (fun b z => z.imp id fun (e : b = a) => by rw [e]; exact ha) hvs z nd x hk S' b
          exact q.2 xs a us H' ed ha x2 s3 ea r
      | exn y outs =>
        rw [w] at q
        simp only [] at q ⊢
        intro H' sls' x hk ho S'
        subst ho
        cases b : back e1 (ioOf e1 avs) (outsOf sls') with
        | none => rw [b] at q; exact q.elim
        | some e2 =>
          rw [b] at q
          obtain ⟨x2, s3⟩ := back_sim s1 hvs z nd x hk S' b
          exact q H' x2 s3
    · rw [if_neg hn] at q; exact q.elim
/-- the check of a fresh one -/
def mF (tb : Tb) (N : List Str) (sc : Scope) (e : E) (py : Expr) : Bool := match e, py with
  | .call f es, .Call (.Name x _) args [] _ => f % 2 == 1 && tb.fn[f / 2]? == some x && globB sc x && mEs tb N sc es args
  | .prim .lst es, .List ps _ => noPeek es && mEs tb N sc es ps
  | .prim (.call .list) es, .Call (.Name x _) args [] _ => x == ("list" : Str) && bltB tb sc x && !args.isEmpty && mEs tb N sc es args
  | .prim (.bin op) es, .BinOp a op' b _ => decide (op = op') && mEs tb N sc es [a, b]
  | .prim .rngL es, .Call (.Name f _) [.Call (.Name r _) ps [] _] [] _ => f == ("list" : Str) && bltB tb sc f && r == ("range" : Str) && bltB tb sc r && (ps.length == 1 || ps.length == 2) && mEs tb N sc es ps
  | .comp own tg k src cnd elt, .ListComp a b c d => mE tb N sc (.comp own tg k src cnd elt) (.ListComp a b c d)
  | _, _ => false
theorem mE_comp {own : List Nat} {tg : Tg} {k : ItK} {src cnd : List E} {elt : E} {py : Expr} (C : Ctx tb cls cf n N sc W X) (h : mE tb N sc (.comp own tg k src cnd elt) py = true) :
    ∃ elt' tg' iter' ifs' scope pos, py = .ListComp elt' [⟨tg', iter', ifs', 0⟩] scope pos ∧ LcOk N W cls cf X own tg k src cnd elt tg' iter' elt' ifs' scope := by
  unfold mE at h
  split at h
  · split at h
    · rename_i hi
      simp only [Bool.and_eq_true, decide_eq_true_eq] at h
      obtain ⟨⟨⟨⟨⟨⟨⟨⟨⟨hn, hp⟩, hpc⟩, ho⟩, hb⟩, ht⟩, hs⟩, hc⟩, hl⟩, he⟩ := h
      exact ⟨_, _, _, _, _, _, rfl, comp_ok C hi hn hp hpc ho hb ht hl (sEs src C hs) (fun X' C' i e p h1 h2 => sEi cnd C' hc i e p h1 h2) (mEs_len hc) (fun X' C' => (sE elt C' he).1)⟩
    · cases h
  · cases h
theorem fE {e : E} {py : Expr} (C : Ctx tb cls cf n N sc W X) (h : mF tb N sc e py = true) : PE X py (tF X.K W cls cf e) := by
  unfold mF at h
  split at h
  · rename_i f es x _ args _
    simp only [Bool.and_eq_true, beq_iff_eq] at h
    obtain ⟨⟨⟨h1, h2⟩, h3⟩, h4⟩ := h
    have hf : f % 2 ≠ 0 := by omega
    obtain ⟨a, fd, pss, hm, hk, hb, F⟩ := C.G.fns f x h2
    obtain ⟨g1, g2⟩ := gl_of C h3
    cases sEs es C h4 with
    | nil => exact PE.imp' (pe_callS0 (E := WE W) F C.room g1 hm hk hb (fun σ => passAt C.tk σ) (plain_of g2).1) fun σ H Q q => tA_nil (tF_call hf q)
    | cons h1 s2 h3 => exact PE.imp' (pe_callS (E := WE W) F C.room g1 hm hk hb (fun σ => passAt C.tk σ) (PVs.cons h1 s2 h3).pa (plain_of g2).1 (star_cons s2) (star_pl h3.star)) fun σ H Q q => tF_call hf q
  · rename_i es ps pos
    simp only [Bool.and_eq_true] at h
    exact PE.imp' (pe_lst (sEs es C h.2).pa) fun σ H Q q => tF_lst h.1 q
  · rename_i es x p args pos
    simp only [Bool.and_eq_true, beq_iff_eq, Bool.not_eq_true'] at h
    obtain ⟨⟨⟨h1, h2⟩, h3⟩, h4⟩ := h
    subst h1
    unfold bltB at h2
    simp only [Bool.and_eq_true] at h2
    obtain ⟨g1, g2⟩ := gl_of C h2.1
    have hm := C.G.bl _ h2.2
    cases sEs es C h4 with
    | nil => cases h3
    | cons k1 s2 k3 => exact PE.imp' (pe_callTy (call_listF C.calm) g1 hm (boot_bi .list) (PVs.cons k1 s2 k3).pa (by decide) (by decide) (star_cons s2) (star_pl k3.star)) fun σ H Q q => tF_list q
  · rename_i op es a op' b pos
    simp only [Bool.and_eq_true, decide_eq_true_eq] at h
    obtain ⟨rfl, h⟩ := h
    cases sEs es C h with
    | cons h1 s1 r =>
      cases r with
      | cons h2 s2 r =>
        cases r
        exact PE.imp' (pe_op (op_binF _) h1 h2) fun σ H Q q => tF_bin q
  · rename_i es f pf r pr ps pos pos2
    simp only [Bool.and_eq_true, Bool.or_eq_true, beq_iff_eq] at h
    obtain ⟨⟨⟨⟨⟨h1, h2⟩, h3⟩, h4⟩, h5⟩, h6⟩ := h
    subst h1
    subst h3
    unfold bltB at h2
    simp only [Bool.and_eq_true] at h2
    exact PE.imp' (pe_listRg C.calm (gl_of C h2.1).1 (C.G.bl _ h2.2) (prg_ C h4 h5 (sEs es C h6)) (by rfl)) fun σ H Q q => tF_rng q
  · obtain ⟨_, _, _, _, _, _, e, L⟩ := mE_comp C h
    rw [e]
    exact L.pe
  · cases h
end
end Mp
set_option Elab.async false
set_option linter.all false
set_option maxRecDepth 100000
set_option maxHeartbeats 4000000
/-! statements -/
namespace Mp
open PySem L2
section
variable (K : PySem.W.Frag) (W : WX) (cls : Nat → Value)
def PostS (O : PA') (σ : St) (H : Hp) (env : Env) (r : SR) (D : Ends) : Prop := match r with
  | .nxt e => ∀ O' σ' H', Fr K O σ H env O' σ' H' e → D.nx σ' H'
  | .ret d e => ∀ O' σ' H' v, Fr K O σ H env O' σ' H' e → Rep K O' H' d v → D.rt v H'
  | .retF xs e => ∀ O' σ' H' a vs, Fr K O σ H env O' σ' H' e → O' a → H a = none → ¬ Mt σ' (kinds e) a → H' a = some (.lst vs) → Reps K O' H' xs vs → D.rt (.ref a) H'
  | .brk e => ∀ O' σ' H', Fr K O σ H env O' σ' H' e → D.bk σ' H'
  | .cnt e => ∀ O' σ' H', Fr K O σ H env O' σ' H' e → D.ct σ' H'
  | .exn x e => ∀ O' σ' H', Fr K O σ H env O' σ' H' e → W (cls x) none σ' H'
  | .stuck => False
def tS (cf : CallF) (s : S) : TS := fun D σ H => ∃ O env, Sim K O σ H env ∧ PostS K W cls O σ H env (evS cf s env) D
def tB (cf : CallF) (ss : List S) : TS := fun D σ H => ∃ O env, Sim K O σ H env ∧ PostS K W cls O σ H env (evB cf ss env) D
end
section
variable {K : PySem.W.Frag} {W : WX} {cls : Nat → Value} {cf : CallF} {O O0 O1 : PA'} {σ σ0 σ1 : St} {H H0 H1 : Hp} {env env0 env1 : Env} {D : Ends}
theorem PostS.next {r : SR} (S : Sim K O σ H env) (A : Fr K O σ H env O1 σ1 H1 env1) (p : PostS K W cls O σ H env r D) : PostS K W cls O1 σ1 H1 env1 r D := by
  cases r with
  | nxt e => exact fun O' σ' H' F => p O' σ' H' (A.trans S F)
  | ret d e => exact fun O' σ' H' v F r => p O' σ' H' v (A.trans S F) r
  | retF xs e => exact fun O' σ' H' a vs F oa ha nm ea r => p O' σ' H' a vs (A.trans S F) oa (Classical.byContradiction fun n => A.dom a n ha) nm ea r
  | brk e => exact fun O' σ' H' F => p O' σ' H' (A.trans S F)
  | cnt e => exact fun O' σ' H' F => p O' σ' H' (A.trans S F)
  | exn x e => exact fun O' σ' H' F => p O' σ' H' (A.trans S F)
  | stuck => exact p
theorem PostS.toS {α : Type} {r : R α} {f : α → Env → SR} (S : Sim K O σ H env) (hk : KOk (kinds env) r) (p : PostS K W cls O σ H env (r.toS f) D) : Post K W cls O σ H env r fun a e H' => PostS K W cls O σ H' e (f a e) D := by
  cases r with
  | ok a e => exact fun H1 x1 s1 => PostS.next S (Fr.step S x1 s1 hk) p
  | exn x e => exact fun H1 x1 s1 => p O σ H1 (Fr.step S x1 s1 hk)
  | stuck => exact p
theorem PostS.then {r : SR} {f : Env → SR} (S : Sim K O σ H env) (p : PostS K W cls O σ H env (r.then f) D) : PostS K W cls O σ H env r { D with nx := fun σ' H' => ∃ O' e, Sim K O' σ' H' e ∧ PostS K W cls O' σ' H' e (f e) D } := by
  cases r with
  | nxt e => exact fun O' σ' H' F => ⟨O', e, F.s, p.next S F⟩
  | ret d e => exact p
  | retF xs e => exact p
  | brk e => exact p
  | cnt e => exact p
  | exn x e => exact p
  | stuck => exact p
theorem tB_nil (h : tB K W cls cf [] D σ H) : tNext D σ H := by
  obtain ⟨O, env, S, p⟩ := h
  unfold evB at p
  exact p O σ H (Fr.refl S)
theorem tB_cons {s : S} {ss : List S} (h : tB K W cls cf (s :: ss) D σ H) : tSeq (tS K W cls cf s) (tB K W cls cf ss) D σ H := by
  obtain ⟨O, env, S, p⟩ := h
  unfold evB at p
  exact ⟨O, env, S, p.then S⟩
theorem tB_frz {i : Nat} {ss : List S} (h : tB K W cls cf (.frz i :: ss) D σ H) : tB K W cls cf ss D σ H := by
  obtain ⟨O, env, S, p⟩ := h
  unfold evB evS at p
  cases e : env[i]? with
  | none => rw [e] at p; exact p.elim
  | some s =>
    rw [e] at p
    cases s with
    | none => exact p.elim
    | io d => exact p.elim
    | val d => exact ⟨O, env, S, p⟩
    | own d =>
      obtain ⟨O1, F⟩ := Fr.frz S e
      exact ⟨O1, _, F.s, PostS.next S F p⟩
theorem truthR_kinds (e : E) (env : Env) : KOk (kinds env) (truthR (evE cf e env)) := by
  unfold truthR
  exact (evE_kinds cf e env).bind fun d e1 _ h => .ofOpt h
/-- name = e -/
theorem tS_name {i : Nat} {e : E} (h : tS K W cls cf (.set (.name i) e) D σ H) : tE K W cls cf e σ H fun x H1 => gName i x σ H1 D.nx := by
  obtain ⟨O, env, S, p⟩ := h
  unfold evS at p
  refine ⟨O, env, S, (p.toS S (evE_kinds cf e env)).imp fun d e1 H1 _ _ s1 q v hv => ?_⟩
  cases a : asg e1 (.name i) d with
  | none => rw [a] at q; exact q.elim
  | some e2 =>
    rw [a] at q
    obtain ⟨s2, o2⟩ := s1.put (by simpa [asg] using a) hv
    exact q O _ H1 (Fr.asg s1 a s2 o2)
theorem tS_tup {t : Tg} {e : E} (h : tS K W cls cf (.set t e) D σ H) : tAsg (tE K W cls cf e) (tG K t) D σ H := by
  obtain ⟨O, env, S, p⟩ := h
  unfold evS at p
  refine ⟨O, env, S, (p.toS S (evE_kinds cf e env)).imp fun d e1 H1 _ _ s1 q v hv => ?_⟩
  cases a : asg e1 t d with
  | none => rw [a] at q; exact q.elim
  | some e2 =>
    rw [a] at q
    exact ⟨O, e1, d, e2, s1, hv, a, fun σ' s2 o2 => q O σ' H1 (Fr.asg s1 a s2 o2)⟩
theorem Fr.new {a : Addr} (S0 : Sim K O σ H env) (x : Ext (Mt σ (kinds env)) H H1) (hk : kinds env1 = kinds env) (S : Sim K (fun b => O b ∨ b = a) σ H1 env1) (ha0 : H a = none) : Fr K O σ H env (fun b => O b ∨ b = a) σ H1 env1 where
  s := S
  ext := x
  dom := fun b n => by
    by_cases m : Mt σ (kinds env) b
    · exact S.trk b (.inl (S0.mtO b m))
    · cases e : H b with
      | none => exact absurd e n
      | some o => rw [x b o e m]; simp
  o := fun b z => z.imp id fun (e : b = a) => by rw [e]; exact ha0
  sub := fun b z => .inl (.inl z)
  ow := fun b ⟨i, d, e, h⟩ => by
    obtain ⟨t, e', k⟩ := kinds_at hk.symm e
    obtain ⟨d', e2⟩ := kind_own e' k
    exact .inl ⟨i, d', e2, h⟩
  io1 := fun i d e => by
    obtain ⟨t, e', k⟩ := kinds_at hk e
    exact ⟨kind_io e' k, rfl⟩
  io2 := fun i d e => by
    obtain ⟨t, e', k⟩ := kinds_at hk.symm e
    exact kind_io e' k
/-- name = a list of its own -/
theorem tS_own {i : Nat} {e : E} (h : tS K W cls cf (.own i e) D σ H) : tF K W cls cf e σ H fun x H1 => gName i x σ H1 D.nx := by
  obtain ⟨O, env, S, p⟩ := h
  unfold evS at p
  by_cases hf : isFresh e = true
  · rw [if_pos hf] at p
    refine ⟨O, env, S, ?_⟩
    have hk := evE_kinds cf e env
    cases z : evE cf e env with
    | stuck => rw [z] at p; exact p
    | exn x e1 =>
      rw [z] at p hk
      exact fun H1 x1 s1 => p O σ H1 (Fr.step S x1 s1 hk)
    | ok d e1 =>
      rw [z] at p hk
      have hd : ∃ xs, d = .lst xs := by
        cases d <;> first | exact ⟨_, rfl⟩ | exact p.elim
      refine ⟨hd, fun xs a vs H1 ed ha x s ea r => ?_⟩
      subst ed
      have p : PostS K W cls O σ H env (ofOptS (Mp.put e1 i (.own (.lst xs)))) D := p
      cases w : Mp.put e1 i (.own (.lst xs)) with
      | none => rw [w] at p; exact p.elim
      | some e2 =>
        rw [w] at p
        exact p _ _ H1 (Fr.own S x hk s ha ea r w)
  · rw [if_neg hf] at p; exact p.elim
theorem tS_ret {e : E} (h : tS K W cls cf (.ret (some e)) D σ H) : tRet (tE K W cls cf e) D σ H := by
  obtain ⟨O, env, S, p⟩ := h
  unfold evS at p
  exact ⟨O, env, S, (p.toS S (evE_kinds cf e env)).imp fun d e1 H1 _ _ s1 q v hv => q O σ H1 v (Fr.refl s1) hv⟩
theorem tS_retN (h : tS K W cls cf (.ret none) D σ H) : tRetN D σ H := by
  obtain ⟨O, env, S, p⟩ := h
  unfold evS at p
  exact p O σ H .non (Fr.refl S) rfl
theorem tS_retF {e : E} (h : tS K W cls cf (.retF e) D σ H) : tRet (tF K W cls cf e) D σ H := by
  obtain ⟨O, env, S, p⟩ := h
  unfold evS at p
  by_cases hf : isFresh e = true
  · rw [if_pos hf] at p
    refine ⟨O, env, S, ?_⟩
    have hk := evE_kinds cf e env
    cases z : evE cf e env with
    | stuck => rw [z] at p; exact p
    | exn x e1 =>
      rw [z] at p hk
      exact fun H1 x1 s1 => p O σ H1 (Fr.step S x1 s1 hk)
    | ok d e1 =>
      rw [z] at p hk
      have hd : ∃ xs, d = .lst xs := by
        cases d <;> first | exact ⟨_, rfl⟩ | exact p.elim
      refine ⟨hd, fun xs a vs H1 ed ha x s ea r => ?_⟩
      subst ed
      have hk : kinds e1 = kinds env := hk
      exact p _ σ H1 a vs (Fr.new S x hk s ha) (.inr rfl) ha (fun m => S.trk a (S.mtO a (by rw [hk] at m; exact m)) ha) ea r
  · rw [if_neg hf] at p; exact p.elim
theorem tS_expr {e : E} (h : tS K W cls cf (.expr e) D σ H) : tDrop (tE K W cls cf e) D σ H := by
  obtain ⟨O, env, S, p⟩ := h
  unfold evS at p
  exact ⟨O, env, S, (p.toS S (evE_kinds cf e env)).imp fun d e1 H1 _ _ s1 q v hv => q O σ H1 (Fr.refl s1)⟩
theorem tS_if {c : E} {a b : List S} (h : tS K W cls cf (.ifs c a b) D σ H) : tIfS (tT K W cls cf c) (tB K W cls cf a) (tB K W cls cf b) D σ H := by
  obtain ⟨O, env, S, p⟩ := h
  unfold evS at p
  refine ⟨O, env, S, (p.toS S (truthR_kinds c env)).imp fun k e1 H1 _ _ s1 q => ?_⟩
  cases k with
  | true => exact iteT ⟨O, e1, s1, q⟩
  | false => exact iteF ⟨O, e1, s1, q⟩
theorem tS_pass (h : tS K W cls cf .pass D σ H) : tNext D σ H := by
  obtain ⟨O, env, S, p⟩ := h
  unfold evS at p
  exact p O σ H (Fr.refl S)
theorem tS_brk (h : tS K W cls cf .brk D σ H) : tBreak D σ H := by
  obtain ⟨O, env, S, p⟩ := h
  unfold evS at p
  exact p O σ H (Fr.refl S)
theorem tS_cnt (h : tS K W cls cf .cnt D σ H) : tCont D σ H := by
  obtain ⟨O, env, S, p⟩ := h
  unfold evS at p
  exact p O σ H (Fr.refl S)
theorem tS_raise {x : Nat} (h : tS K W cls cf (.raise x) D σ H) : W (cls x) none σ H := by
  obtain ⟨O, env, S, p⟩ := h
  unfold evS at p
  exact p O σ H (Fr.refl S)
theorem PostS.loop {r : SR} {f : Env → SR} {D' : Ends} (S : Sim K O σ H env) (hn : D'.rt = D.rt) (hb : ∀ σ' H', D.nx σ' H' → D'.bk σ' H') (h1 : ∀ O' σ' H' e, Sim K O' σ' H' e → Fr K O σ H env O' σ' H' e → PostS K W cls O' σ' H' e (f e) D → D'.nx σ' H' ∧ D'.ct σ' H')
    (p : PostS K W cls O σ H env (match r with | .nxt e => f e | .cnt e => f e | .brk e => .nxt e | r => r) D) : PostS K W cls O σ H env r D' := by
  cases r with
  | nxt e => exact fun O' σ' H' F => (h1 O' σ' H' e F.s F (p.next S F)).1
  | cnt e => exact fun O' σ' H' F => (h1 O' σ' H' e F.s F (p.next S F)).2
  | brk e => exact fun O' σ' H' F => hb σ' H' (p O' σ' H' F)
  | ret d e => exact fun O' σ' H' v F r => by rw [hn]; exact p O' σ' H' v F r
  | retF xs e => exact fun O' σ' H' a vs F oa ha nm ea r => by rw [hn]; exact p O' σ' H' a vs F oa ha nm ea r
  | exn x e => exact p
  | stuck => exact p
theorem tS_while {c : E} {body : List S} (h : tS K W cls cf (.while c body) D σ H) : tWhile (tT K W cls cf c) (tB K W cls cf body) D σ H := by
  obtain ⟨O, env, S, p⟩ := h
  unfold evS at p
  generalize 1000000000 = m at p
  refine ⟨fun m σ H => ∃ O env, Sim K O σ H env ∧ PostS K W cls O σ H env (whileGo (fun e => truthR (evE cf c e)) (fun e => evB cf body e) m env) D, ⟨m, O, env, S, p⟩, ?_⟩
  rintro m σ H ⟨O, env, S, p⟩
  cases m with
  | zero => exact p.elim
  | succ m =>
    unfold whileGo at p
    refine ⟨O, env, S, (p.toS S (truthR_kinds c env)).imp fun k e1 H1 _ _ s1 q => ?_⟩
    cases k with
    | false => exact iteF (q O σ H1 (Fr.refl s1))
    | true =>
      refine iteT ⟨fun σ' H' => ∃ O env, Sim K O σ' H' env ∧ PostS K W cls O σ' H' env (whileGo (fun e => truthR (evE cf c e)) (fun e => evB cf body e) m env) D, fun σ' H' w => ⟨m, Nat.lt_succ_self m, w⟩, O, e1, s1, ?_⟩
      exact PostS.loop (D := D) (f := fun e => whileGo (fun e => truthR (evE cf c e)) (fun e => evB cf body e) m e) s1 rfl (fun _ _ z => z) (fun O' σ' H' e s F q => ⟨⟨O', e, s, q⟩, ⟨O', e, s, q⟩⟩) q
theorem tS_for {t : Tg} {k : ItK} {src : List E} {body : List S} (h : tS K W cls cf (.for t k src body) D σ H) : tFor (tI K W cls cf k src) (tG K t) (tB K W cls cf body) D σ H := by
  obtain ⟨O, env, S, p⟩ := h
  have p : PostS K W cls O σ H env ((evIt cf k src env).toS fun items env1 => forGo (fun d e => (ofOptS (asg e t d)).then fun e1 => evB cf body e1) items env1) D := by
    unfold evS at p
    unfold evIt
    cases z : evA cf src env with
    | stuck => rw [z] at p; exact p
    | exn x e => rw [z] at p; exact p
    | ok avs e1 =>
      rw [z] at p
      simp only [R.toS_ok, R.bind_ok] at p ⊢
      cases w : rds e1 avs with
      | none => rw [w] at p; exact p.elim
      | some ds =>
        rw [w] at p
        simp only [] at p ⊢
        cases y : itEv k ds with
        | none => rw [y] at p; exact p.elim
        | some items => rw [y] at p; exact p
  refine ⟨O, env, S, (p.toS S (evIt_kinds k src)).imp fun items eL HL _ _ sL q J hJ => ?_⟩
  refine ⟨fun i m σ' H' => m = items.length - i ∧ i ≤ items.length ∧ ∃ O' e, Fr K O σ HL eL O' σ' H' e ∧ PostS K W cls O' σ' H' e (forGo (fun d e => (ofOptS (asg e t d)).then fun e1 => evB cf body e1) (items.drop i) e) D,
    ⟨items.length, by simp, Nat.zero_le _, O, eL, Fr.refl sL, q⟩, ?_⟩
  rintro i m σ1 H1 ⟨rfl, hi, O1, e1, F, p⟩
  -- what the loop may have changed
  let OF : PA' := fun a => O a ∨ (HL a = none ∧ H1 a ≠ none)
  have hJ := hJ OF fun a n z => z.elim id fun z => absurd z.1 n
  have xF : Ext OF HL H1 := F.ext.mono fun a m => .inl (sL.mtO a m)
  have trk : ∀ a, OF a → H1 a ≠ none := fun a z => z.elim (fun z => F.dom a (sL.trk a z)) fun z => z.2
  by_cases hlt : i < items.length
  · have hd : items.drop i = items[i] :: items.drop (i + 1) := List.drop_eq_getElem_cons hlt
    rw [hd] at p
    refine .inr ⟨hJ.go i H1 xF hlt, fun σ' H' => ∃ O' e, Fr K O σ HL eL O' σ' H' e ∧ PostS K W cls O' σ' H' e (forGo (fun d e => (ofOptS (asg e t d)).then fun e1 => evB cf body e1) (items.drop (i + 1)) e) D,
      fun σ' H' w => ⟨items.length - (i + 1), by omega, rfl, hlt, w⟩, fun x H' hy => ?_⟩
    obtain ⟨sm, d, ed, rd⟩ := hJ.yld i H1 x H' hlt xF trk hy
    have ed' : items[i] = d := by
      rw [List.getElem?_eq_getElem hlt] at ed
      exact Option.some.inj ed
    rw [ed'] at p
    unfold forGo at p
    have A : Fr K O1 σ1 H1 e1 O1 σ1 H' e1 := Fr.step F.s (Ext.same sm) (F.s.same sm) rfl
    have F' := F.trans sL A
    have p := p.next F.s A
    have rd1 : Rep K O1 H' d x := rep_sub (O := OF) (fun a _ z => (F.o a z).elim .inl fun z2 => .inr ⟨z2, F.s.trk a z⟩) rd
    cases ha : asg e1 t d with
    | none => rw [ha] at p; exact p.elim
    | some e2 =>
      rw [ha] at p
      refine ⟨O1, e1, d, e2, F'.s, rd1, ha, fun σ2 s2 o2 => ⟨O1, e2, s2, ?_⟩⟩
      have B := Fr.asg F'.s ha s2 o2
      have F2 := F'.trans sL B
      have p : PostS K W cls O1 σ2 H' e2 (match evB cf body e2 with | .nxt e => forGo (fun d e => (ofOptS (asg e t d)).then fun e1 => evB cf body e1) (items.drop (i + 1)) e | .cnt e => forGo (fun d e => (ofOptS (asg e t d)).then fun e1 => evB cf body e1) (items.drop (i + 1)) e | .brk e => .nxt e | r => r) D := p.next F'.s B
      exact PostS.loop (D := D) (f := fun e => forGo (fun d e => (ofOptS (asg e t d)).then fun e1 => evB cf body e1) (items.drop (i + 1)) e) s2 rfl (fun _ _ z => z) (fun O' σ' H'' e s G q => ⟨⟨O', e, F2.trans sL G, q⟩, ⟨O', e, F2.trans sL G, q⟩⟩) p
  · have ei : i = items.length := by omega
    subst ei
    rw [List.drop_length] at p
    unfold forGo at p
    exact .inl ⟨hJ.stop _ H1 xF (Nat.le_refl _), p O1 σ1 H1 (Fr.refl F.s)⟩
end
end Mp
set_option Elab.async false
set_option linter.all false
set_option maxRecDepth 100000
set_option maxHeartbeats 2000000
/-! which way a pair is stored: by the text alone -/
namespace Mp
open PySem L2
def isStar : Expr → Bool
  | .Starred .. => true
  | _ => false
def nmOn (sc : Scope) (line : Nat) : Expr → Option Str
  | .Name id pos => if sc.names.lookup id == some .local && pos.line == line then some id else none
  | _ => none
def swNames (sc : Scope) (ts : List Expr) : List Str := ts.filterMap (nmOn sc ((ts.head?.map (·.pos.line)).getD 0))
def bKind (sc : Scope) : ScopeKind := if sc.kind.isAnnotationScope then .function else sc.kind
def swQ (sc : Scope) (ts vs : List Expr) : Option (Option (List Str)) :=
  if (!(ts.length == 2 || ts.length == 3) || vs.length != ts.length || (bKind sc != .function)) = true then some none
    else if vs.any isStar = true then some none
    else if ((swNames sc ts).length != ts.length || (swNames sc ts).eraseDups.length != (swNames sc ts).length) = true then some none
    else if vs.all (foldedForSure 8) = true then some none
    else if vs.all (constantsAlone 8) = true then none
    else some (some (swNames sc ts))
theorem swQ_eq {env : PySem.Env} {ts vs : List Expr} {k k2 : Nat} {p p2 : Pos} {r : Option (List Str)} (h : swQ env.scope ts vs = some r) : swappedStores [.Tuple ts k p] (.Tuple vs k2 p2) env = pure r := by
  unfold swQ at h
  unfold swappedStores
  simp only []
  split at h
  · rename_i c; cases h; exact if_pos c
  · rename_i c
    refine (if_neg c).trans ?_
    split at h
    · rename_i c; cases h; exact if_pos c
    · rename_i c
      refine (if_neg c).trans ?_
      split at h
      · rename_i c; cases h; exact if_pos c
      · rename_i c
        refine (if_neg c).trans ?_
        split at h
        · rename_i c; cases h; exact if_pos c
        · rename_i c
          refine (if_neg c).trans ?_
          split at h
          · cases h
          · rename_i c; cases h; exact if_neg c
end Mp
set_option Elab.async false
set_option linter.all false
set_option maxRecDepth 100000
set_option maxHeartbeats 4000000
/-! a, b = x, y where some are lists of our own -/
namespace Mp
open PySem L2
section
variable {K : PySem.W.Frag} {W : WX} {cls : Nat → Value} {cf : CallF} {O O0 O1 : PA'} {σ σ0 σ1 : St} {H H0 H1 : Hp} {env env0 env1 : Env} {De : Ends}
theorem evP_kinds : ∀ (fs : List Bool) (es : List E) (env : Env), KOk (kinds env) (evP cf fs es env)
  | [], [], env => rfl
  | [], _ :: _, _ => trivial
  | _ :: _, [], _ => trivial
  | f :: fs, e :: es, env => by
    unfold evP
    refine (evE_kinds cf e env).bind fun d env1 _ h1 => ?_
    split
    · trivial
    · refine KOk.bind (ks := kinds env) (by rw [← h1]; exact evP_kinds fs es env1) fun ds env2 _ h2 => h2
/-- the values, the new lists' addresses -/
def PVals (K : PySem.W.Frag) (O : PA') (H : Hp) : List Bool → List D → List Addr → List V → Prop
  | [], [], as, vs => as = [] ∧ vs = []
  | false :: fs, d :: ds, as, vs => ∃ v r, vs = v :: r ∧ Rep K O H d v ∧ PVals K O H fs ds as r
  | true :: fs, d :: ds, as, vs => ∃ xs a us as' r, d = .lst xs ∧ as = a :: as' ∧ vs = .ref a :: r ∧ H a = some (.lst us) ∧ Reps K O H xs us ∧ a ∉ as' ∧ PVals K O H fs ds as' r
  | _, _, _, _ => False
def OA (O : PA') (as : List Addr) : PA' := fun b => O b ∨ b ∈ as
theorem OA_nil (O : PA') : OA O [] = O := by funext b; simp [OA]
theorem OA_cons (O : PA') (a : Addr) (as : List Addr) : OA (fun b => O b ∨ b = a) as = OA O (a :: as) := by
  funext b
  simp only [OA, List.mem_cons, or_assoc]
def PostP (K : PySem.W.Frag) (W : WX) (cls : Nat → Value) (O : PA') (σ : St) (H : Hp) (env : Env) (fs : List Bool) (r : R (List D)) (Q : List V → Hp → Prop) : Prop := match r with
  | .ok ds e => ∀ as H' vs, (∀ a ∈ as, H a = none) → Ext (Mt σ (kinds env)) H H' → Sim K (OA O as) σ H' e → PVals K (OA O as) H' fs ds as vs → Q vs H'
  | .exn x e => ∀ H', Ext (Mt σ (kinds env)) H H' → Sim K O σ H' e → W (cls x) none σ H'
  | .stuck => False
def tP (K : PySem.W.Frag) (W : WX) (cls : Nat → Value) (cf : CallF) (fs : List Bool) (es : List E) : TA := fun σ H Q => ∃ O env, Sim K O σ H env ∧ PostP K W cls O σ H env fs (evP cf fs es env) Q
theorem tP_nil {Q : List V → Hp → Prop} (h : tP K W cls cf [] [] σ H Q) : Q [] H := by
  obtain ⟨O, env, S, p⟩ := h
  exact p [] H [] (fun a h => by cases h) Ext.refl (by rw [OA_nil]; exact S) ⟨rfl, rfl⟩
theorem tP_val {fs : List Bool} {e : E} {es : List E} {Q : List V → Hp → Prop} (h : tP K W cls cf (false :: fs) (e :: es) σ H Q) : tE K W cls cf e σ H fun x H1 => tP K W cls cf fs es σ H1 fun vs H2 => Q (x :: vs) H2 := by
  obtain ⟨O, env, S, p⟩ := h
  unfold evP at p
  refine ⟨O, env, S, ?_⟩
  have hk := evE_kinds cf e env
  cases z : evE cf e env with
  | stuck => rw [z] at p; exact p
  | exn x e1 => rw [z] at p; exact p
  | ok d e1 =>
    rw [z] at p hk
    have hk : kinds e1 = kinds env := hk
    intro H1 x1 s1 v hv
    refine ⟨O, e1, s1, ?_⟩
    simp only [R.bind_ok, Bool.false_and, Bool.false_eq_true, if_false] at p
    cases y : evP cf fs es e1 with
    | stuck => rw [y] at p; exact p
    | exn x e2 =>
      rw [y] at p
      intro H2 x2 s2
      rw [hk] at x2
      exact p H2 (x1.trans x2) s2
    | ok ds e2 =>
      rw [y] at p
      intro as H2 vs hn x2 s2 pv
      have p : ∀ as H' vs, (∀ a ∈ as, H a = none) → Ext (Mt σ (kinds env)) H H' → Sim K (OA O as) σ H' e2 → PVals K (OA O as) H' (false :: fs) (d :: ds) as vs → Q vs H' := p
      have x2' : Ext O H1 H2 := x2.mono fun a m => s1.mtO a m
      rw [hk] at x2
      refine p as H2 (v :: vs) (fun a ha => new_back S x1 s1 (hn a ha)) (x1.trans x2) s2 ⟨v, vs, rfl, ?_, pv⟩
      have : Ext (OA O as) H1 H2 := x2'.mono fun _ z => .inl z
      exact rep_ext this (rep_sub (fun a n z => z.elim id fun z => absurd (hn a z) n) hv)
theorem tP_own {fs : List Bool} {e : E} {es : List E} {Q : List V → Hp → Prop} (h : tP K W cls cf (true :: fs) (e :: es) σ H Q) : tF K W cls cf e σ H fun x H1 => tP K W cls cf fs es σ H1 fun vs H2 => Q (x :: vs) H2 := by
  obtain ⟨O, env, S, p⟩ := h
  unfold evP at p
  refine ⟨O, env, S, ?_⟩
  have hk := evE_kinds cf e env
  cases z : evE cf e env with
  | stuck => rw [z] at p; exact p
  | exn x e1 => rw [z] at p; exact p
  | ok d e1 =>
    rw [z] at p hk
    have hk : kinds e1 = kinds env := hk
    have hd : ∃ xs, d = .lst xs := by
      cases d <;> first | exact ⟨_, rfl⟩ | exact p.elim
    refine ⟨hd, fun xs a us H1 ed ha x1 s1 ea r => ?_⟩
    subst ed
    refine ⟨fun b => O b ∨ b = a, e1, s1, ?_⟩
    simp only [R.bind_ok, isLst, Bool.not_true, Bool.and_false, Bool.false_eq_true, if_false] at p
    cases y : evP cf fs es e1 with
    | stuck => rw [y] at p; exact p
    | exn x e2 =>
      rw [y] at p
      have k2 : kinds e2 = kinds e1 := by
        have := evP_kinds (cf := cf) fs es e1
        rw [y] at this
        exact this
      intro H2 x2 s2
      rw [hk] at x2
      exact p H2 (x1.trans x2) (s2.less (fun _ => .inl) fun b m => S.mtO b (by rw [k2, hk] at m; exact m))
    | ok ds e2 =>
      rw [y] at p
      intro as H2 vs hn x2 s2 pv
      have p : ∀ as H' vs, (∀ a ∈ as, H a = none) → Ext (Mt σ (kinds env)) H H' → Sim K (OA O as) σ H' e2 → PVals K (OA O as) H' (true :: fs) (.lst xs :: ds) as vs → Q vs H' := p
      rw [OA_cons] at s2 pv
      have nm : ¬ Mt σ (kinds e1) a := fun m => S.trk a (S.mtO a (by rw [hk] at m; exact m)) ha
      have x2' : Ext (OA O (a :: as)) H1 H2 := x2.mono fun b m => .inl (S.mtO b (by rw [hk] at m; exact m))
      have na : a ∉ as := fun z => by have := hn a z; rw [ea] at this; cases this
      have ea2 := x2 a _ ea nm
      rw [hk] at x2
      refine p (a :: as) H2 (.ref a :: vs) (fun b hb => ?_) (x1.trans x2) s2 ⟨xs, a, us, as, vs, rfl, rfl, rfl, ea2, ?_, na, pv⟩
      · rcases List.mem_cons.mp hb with rfl | hb
        · exact ha
        · have hb := hn b hb
          cases q : H b with
          | none => rfl
          | some o =>
            exfalso
            by_cases m : Mt σ (kinds env) b
            · exact s1.trk b (.inl (S.mtO b m)) hb
            · rw [x1 b o q m] at hb; cases hb
      · refine reps_ext x2' (reps_sub (fun b n z => ?_) r)
        rcases z with z | z
        · exact .inl z
        · rcases List.mem_cons.mp z with rfl | z
          · exact .inr rfl
          · exact absurd (hn b z) n
/-! ### the names get them -/
def setN (σ : St) : List Nat → List V → St
  | i :: is, v :: vs => setN (σ.set i (some v)) is vs
  | _, _ => σ
theorem Fr.news {as : List Addr} (S0 : Sim K O σ H env) (x : Ext (Mt σ (kinds env)) H H1) (hk : kinds env1 = kinds env) (S : Sim K (OA O as) σ H1 env1) (ha0 : ∀ a ∈ as, H a = none) : Fr K O σ H env (OA O as) σ H1 env1 where
  s := S
  ext := x
  dom := fun b n => by
    by_cases m : Mt σ (kinds env) b
    · exact S.trk b (.inl (S0.mtO b m))
    · cases e : H b with
      | none => exact absurd e n
      | some o => rw [x b o e m]; simp
  o := fun b z => z.imp id fun z => ha0 b z
  sub := fun b z => .inl (.inl z)
  ow := fun b ⟨i, d, e, h⟩ => by
    obtain ⟨t, e', k⟩ := kinds_at hk.symm e
    obtain ⟨d', e2⟩ := kind_own e' k
    exact .inl ⟨i, d', e2, h⟩
  io1 := fun i d e => by
    obtain ⟨t, e', k⟩ := kinds_at hk e
    exact ⟨kind_io e' k, rfl⟩
  io2 := fun i d e => by
    obtain ⟨t, e', k⟩ := kinds_at hk.symm e
    exact kind_io e' k
theorem mt_putV {i : Nat} {d : D} {v : V} (S : Sim K O σ H env) (h : Mp.put env i (.val d) = some env1) {b : Addr} (m : Mt (σ.set i (some v)) (kinds env1) b) : Mt σ (kinds env) b := by
  obtain ⟨e, hi, ni, at_⟩ := put_at h (by simp [kd])
  obtain ⟨j, k, h1, h2, h3⟩ := m
  rw [List.getElem?_map] at h1
  cases q : env1[j]? with
  | none => rw [q] at h1; cases h1
  | some t =>
    rw [q] at h1
    simp only [Option.map_some, Option.some.injEq] at h1
    rcases at_ j t q with ⟨_, rfl⟩ | ⟨n, q⟩
    · exact absurd h1.symm h2
    · rw [List.getElem?_set_ne (Ne.symm n)] at h3
      exact mt_of q (by rw [h1]; exact h2) h3
theorem mt_putO {i : Nat} {d : D} {a : Addr} (S : Sim K O σ H env) (h : Mp.put env i (.own d) = some env1) {b : Addr} (m : Mt (σ.set i (some (.ref a))) (kinds env1) b) : Mt σ (kinds env) b ∨ b = a := by
  obtain ⟨e, hi, ni, at_⟩ := put_at h (by simp [kd])
  have hs : i < σ.length := by rw [S.len]; exact hi
  obtain ⟨j, k, h1, h2, h3⟩ := m
  rw [List.getElem?_map] at h1
  cases q : env1[j]? with
  | none => rw [q] at h1; cases h1
  | some t =>
    rw [q] at h1
    simp only [Option.map_some, Option.some.injEq] at h1
    rcases at_ j t q with ⟨rfl, rfl⟩ | ⟨n, q⟩
    · rw [List.getElem?_set_self hs] at h3
      cases h3
      exact .inr rfl
    · rw [List.getElem?_set_ne (Ne.symm n)] at h3
      exact .inl (mt_of q (by rw [h1]; exact h2) h3)
/-- a list that stands, is no slot's and is new since the start, comes to a slot -/
theorem Fr.putO {i : Nat} {a : Addr} {xs : List D} {us : List V} (F : Fr K O0 σ0 H0 env0 O σ H env) (oa : O a) (h0 : H0 a = none) (nm : ¬ Mt σ (kinds env) a) (ha : H a = some (.lst us)) (r : Reps K O H xs us) (h : Mp.put env i (.own (.lst xs)) = some env1) :
    Fr K O0 σ0 H0 env0 O (σ.set i (some (.ref a))) H env1 := by
  have S := F.s
  obtain ⟨e, hi, ni, at_⟩ := put_at h (by simp [kd])
  have hs : i < σ.length := by rw [S.len]; exact hi
  have S1 : Sim K O (σ.set i (some (.ref a))) H env1 := by
    refine ⟨by rw [e]; simp [S.len], fun j d q => ?_, fun j d q => ?_, fun j l b s t e1 e2 k1 k2 e3 e4 => ?_, S.trk⟩
    · rcases at_ j _ q with ⟨_, z⟩ | ⟨n, q⟩
      · cases z
      · rw [List.getElem?_set_ne (Ne.symm n)]
        exact S.val j d q
    · have go : ∀ t, env1[j]? = some t → (t = .own d ∨ t = .io d) → ∃ b, (σ.set i (some (V.ref a)))[j]? = some (some (.ref b)) ∧ O b ∧ Cell K O H d b := fun t q et => by
        rcases at_ j _ q with ⟨rfl, z⟩ | ⟨n, q⟩
        · have : d = .lst xs := by rcases et with rfl | rfl <;> cases z; rfl
          subst this
          exact ⟨a, by rw [List.getElem?_set_self hs], oa, us, ha, r⟩
        · rw [List.getElem?_set_ne (Ne.symm n)]
          exact S.cel j d (by rcases et with rfl | rfl; exact .inl q; exact .inr q)
      rcases q with q | q
      · exact go _ q (.inl rfl)
      · exact go _ q (.inr rfl)
    · rcases at_ j _ e1 with ⟨rfl, z1⟩ | ⟨n1, q1⟩
      · rcases at_ l _ e2 with ⟨rfl, z2⟩ | ⟨n2, q2⟩
        · rfl
        · rw [List.getElem?_set_self hs] at e3
          cases e3
          rw [List.getElem?_set_ne (Ne.symm n2)] at e4
          exact absurd (mt_of q2 k2 e4) nm
      · rw [List.getElem?_set_ne (Ne.symm n1)] at e3
        rcases at_ l _ e2 with ⟨rfl, z2⟩ | ⟨n2, q2⟩
        · rw [List.getElem?_set_self hs] at e4
          cases e4
          exact absurd (mt_of q1 k1 e3) nm
        · rw [List.getElem?_set_ne (Ne.symm n2)] at e4
          exact S.inj j l b s t q1 q2 k1 k2 e3 e4
  refine ⟨S1, F.ext, F.dom, F.o, F.sub, fun b ⟨j, d, e1, q⟩ => ?_, fun j d e1 => ?_, fun j d e1 => ?_⟩
  · rcases at_ j _ e1 with ⟨rfl, z⟩ | ⟨n, q1⟩
    · rw [List.getElem?_set_self hs] at q
      cases q
      exact .inr h0
    · rw [List.getElem?_set_ne (Ne.symm n)] at q
      exact F.ow b ⟨j, d, q1, q⟩
  · obtain ⟨⟨d', e2⟩, q2⟩ := F.io1 j d e1
    have n : i ≠ j := fun z => by subst z; exact ni d' e2
    refine ⟨⟨d', ?_⟩, by rw [List.getElem?_set_ne n]; exact q2⟩
    rw [e, List.getElem?_set_ne n]
    exact e2
  · rcases at_ j _ e1 with ⟨_, z⟩ | ⟨n, q1⟩
    · cases z
    · exact F.io2 j d q1
theorem asgO_fr (S0 : Sim K O0 σ0 H0 env0) : ∀ {fs : List Bool} {is : List Nat} {ds : List D} {as : List Addr} {vs : List V} {σ : St} {env env' : Env}, Fr K O0 σ0 H0 env0 O σ H env → PVals K O H fs ds as vs → (∀ a ∈ as, O a ∧ H0 a = none ∧ ¬ Mt σ (kinds env) a) → asgO env fs is ds = some env' →
    Fr K O0 σ0 H0 env0 O (setN σ is vs) H env'
  | [], is, [], as, vs, σ, env, env', F, pv, _, h => by
    obtain ⟨_, rfl⟩ := pv
    cases is with
    | nil => cases h; exact F
    | cons _ _ => cases h
  | [], _, _ :: _, _, _, _, _, _, _, pv, _, _ => pv.elim
  | false :: fs, is, [], _, _, _, _, _, _, pv, _, _ => pv.elim
  | true :: fs, is, [], _, _, _, _, _, _, pv, _, _ => pv.elim
  | false :: fs, [], d :: ds, _, _, _, _, _, _, _, _, h => by cases h
  | true :: fs, [], d :: ds, _, _, _, _, _, _, _, _, h => by
    cases d <;> cases h
  | false :: fs, i :: is, d :: ds, as, vs, σ, env, env', F, pv, hn, h => by
    obtain ⟨v, r, rfl, rv, pv⟩ := pv
    unfold asgO at h
    cases z : Mp.put env i (.val d) with
    | none => rw [z] at h; cases h
    | some e1 =>
      rw [z] at h
      obtain ⟨s1, o1⟩ := F.s.put z rv
      have F1 := F.trans S0 (Fr.asg F.s (show asg env (.name i) d = some e1 by simpa [asg] using z) s1 o1)
      have R := asgO_fr S0 F1 pv (fun a ha => ⟨(hn a ha).1, (hn a ha).2.1, fun m => (hn a ha).2.2 (mt_putV F.s z m)⟩) h
      exact R
  | true :: fs, i :: is, d :: ds, as, vs, σ, env, env', F, pv, hn, h => by
    obtain ⟨xs, a, us, as', r, rfl, rfl, rfl, ea, rr, na, pv⟩ := pv
    unfold asgO at h
    cases z : Mp.put env i (.own (.lst xs)) with
    | none => rw [z] at h; cases h
    | some e1 =>
      rw [z] at h
      obtain ⟨oa, ha0, nm⟩ := hn a List.mem_cons_self
      have F1 := Fr.putO F oa ha0 nm ea rr z
      have R := asgO_fr S0 F1 pv (fun b hb => by
        obtain ⟨ob, hb0, nb⟩ := hn b (List.mem_cons_of_mem _ hb)
        exact ⟨ob, hb0, fun m => (mt_putO F.s z m).elim nb fun e => na (e ▸ hb)⟩) h
      exact R
/-- all is told, the names are not set yet -/
def ParSt (K : PySem.W.Frag) (W : WX) (cls : Nat → Value) (De : Ends) (fs : List Bool) (is : List Nat) (σ : St) (vs : List V) (H : Hp) : Prop :=
  ∃ O0 H0 env0 O e ds as e', Sim K O0 σ H0 env0 ∧ Fr K O0 σ H0 env0 O σ H e ∧ PVals K O H fs ds as vs ∧ (∀ a ∈ as, O a ∧ H0 a = none ∧ ¬ Mt σ (kinds e) a) ∧ asgO e fs is ds = some e' ∧ PostS K W cls O0 σ H0 env0 (.nxt e') De
theorem ParSt.fin {fs : List Bool} {is : List Nat} {vs : List V} (h : ParSt K W cls De fs is σ vs H) : De.nx (setN σ is vs) H := by
  obtain ⟨O0, H0, env0, O, e, ds, as, e', S0, F, pv, hn, ha, p⟩ := h
  exact p O _ H (asgO_fr S0 F pv hn ha)
theorem PVals.same {fs : List Bool} : ∀ {ds : List D} {as : List Addr} {vs : List V}, Same H H1 → PVals K O H fs ds as vs → PVals K O H1 fs ds as vs := by
  induction fs with
  | nil =>
    intro ds as vs sm pv
    cases ds with
    | nil => exact pv
    | cons _ _ => exact pv
  | cons f fs ih =>
    intro ds as vs sm pv
    cases ds with
    | nil => cases f <;> exact pv
    | cons d ds =>
      cases f with
      | false =>
        obtain ⟨v, r, e, rv, pv⟩ := pv
        exact ⟨v, r, e, rep_ext (Ext.same sm) rv, ih sm pv⟩
      | true =>
        obtain ⟨xs, a, us, as', r, e1, e2, e3, ea, rr, na, pv⟩ := pv
        exact ⟨xs, a, us, as', r, e1, e2, e3, sm _ _ ea, reps_ext (Ext.same sm) rr, na, ih sm pv⟩
theorem ParSt.same {fs : List Bool} {is : List Nat} {vs : List V} (sm : Same H H1) (h : ParSt K W cls De fs is σ vs H) : ParSt K W cls De fs is σ vs H1 := by
  obtain ⟨O0, H0, env0, O, e, ds, as, e', S0, F, pv, hn, ha, p⟩ := h
  exact ⟨O0, H0, env0, O, e, ds, as, e', S0, F.trans S0 (Fr.step F.s (Ext.same sm) (F.s.same sm) rfl), pv.same sm, hn, ha, p⟩
theorem tS_parO {fs : List Bool} {is : List Nat} {es : List E} (h : tS K W cls cf (.parO fs is es) De σ H) : freshs fs es = true ∧ tP K W cls cf fs es σ H fun vs H1 => ParSt K W cls De fs is σ vs H1 := by
  obtain ⟨O, env, S, p⟩ := h
  unfold evS at p
  by_cases hf : freshs fs es = true
  · rw [if_pos hf] at p
    refine ⟨hf, O, env, S, ?_⟩
    have hk := evP_kinds (cf := cf) fs es env
    cases z : evP cf fs es env with
    | stuck => rw [z] at p; exact p
    | exn x e1 =>
      rw [z] at p hk
      exact fun H1 x1 s1 => p O σ H1 (Fr.step S x1 s1 hk)
    | ok ds e1 =>
      rw [z] at p hk
      have hk : kinds e1 = kinds env := hk
      intro as H1 vs hn x1 s1 pv
      have p : PostS K W cls O σ H env (ofOptS (asgO e1 fs is ds)) De := p
      cases w : asgO e1 fs is ds with
      | none => rw [w] at p; exact p.elim
      | some e2 =>
        rw [w] at p
        refine ⟨O, H, env, OA O as, e1, ds, as, e2, S, Fr.news S x1 hk s1 hn, pv, fun a ha => ⟨.inr ha, hn a ha, fun m => S.trk a (S.mtO a (by rw [hk] at m; exact m)) (hn a ha)⟩, w, p⟩
  · rw [if_neg hf] at p; exact p.elim
/-! ### names that are stored one by one -/
def tNs : List Nat → TGs := fun is vs σ H Q => is.length = vs.length ∧ Q (setN σ is vs) H
theorem pvals_len : ∀ {fs : List Bool} {ds : List D} {as : List Addr} {vs : List V}, PVals K O H fs ds as vs → vs.length = fs.length
  | [], [], _, _, h => by obtain ⟨_, rfl⟩ := h; rfl
  | [], _ :: _, _, _, h => h.elim
  | false :: fs, [], _, _, h => h.elim
  | true :: fs, [], _, _, h => h.elim
  | false :: fs, d :: ds, _, _, h => by
    obtain ⟨v, r, rfl, _, h⟩ := h
    simp [pvals_len h]
  | true :: fs, d :: ds, _, _, h => by
    obtain ⟨xs, a, us, as', r, _, _, rfl, _, _, _, h⟩ := h
    simp [pvals_len h]
theorem asgO_len : ∀ {fs : List Bool} {is : List Nat} {ds : List D} {env env' : Env}, asgO env fs is ds = some env' → fs.length = is.length
  | [], [], _, _, _, _ => rfl
  | [], _ :: _, _, _, _, h => by cases h
  | false :: _, [], _, _, _, h => by cases h
  | true :: _, [], ds, _, _, h => by
    cases ds with
    | nil => cases h
    | cons d ds => cases d <;> cases h
  | false :: fs, i :: is, [], _, _, h => by cases h
  | true :: fs, i :: is, [], _, _, h => by cases h
  | false :: fs, i :: is, d :: ds, env, env', h => by
    unfold asgO at h
    cases z : Mp.put env i (.val d) with
    | none => rw [z] at h; cases h
    | some e1 => rw [z] at h; simp [asgO_len h]
  | true :: fs, i :: is, d :: ds, env, env', h => by
    cases d with
    | lst xs =>
      unfold asgO at h
      cases z : Mp.put env i (.own (.lst xs)) with
      | none => rw [z] at h; cases h
      | some e1 => rw [z] at h; simp [asgO_len h]
    | _ => cases h
theorem ParSt.len {fs : List Bool} {is : List Nat} {vs : List V} (h : ParSt K W cls De fs is σ vs H) : vs.length = is.length ∧ vs.length = fs.length := by
  obtain ⟨O0, H0, env0, O, e, ds, as, e', S0, F, pv, hn, ha, p⟩ := h
  exact ⟨(pvals_len pv).trans (asgO_len ha), pvals_len pv⟩
end
section
variable {tb : Tb} {cls : Nat → Value} {cf : CallF} {n : Nat} {N : List Str} {sc : Scope} {W : WX} {X : Cx}
def mEf (tb : Tb) (N : List Str) (sc : Scope) : List Bool → List E → List Expr → Bool
  | [], [], [] => true
  | f :: fs, e :: es, p :: ps => noStar p && (if f then mF tb N sc e p else mE tb N sc e p) && mEf tb N sc fs es ps
  | _, _, _ => false
def nameTgs (N : List Str) (sc : Scope) : List Nat → List Expr → Bool
  | [], [] => true
  | i :: is, .Name x _ :: ts => N[i]? == some x && stoB sc sc x && nameTgs N sc is ts
  | _, _ => false
theorem pa_f (C : Ctx tb cls cf n N sc W X) : ∀ {fs : List Bool} {es : List E} {ps : List Expr}, mEf tb N sc fs es ps = true → PA X ps (tP X.K W cls cf fs es)
  | [], [], [], _ => PA.imp' pa_nil fun σ H Q h => tP_nil h
  | f :: fs, e :: es, p :: ps, h => by
    simp only [mEf, Bool.and_eq_true] at h
    obtain ⟨⟨h1, h2⟩, h3⟩ := h
    cases f with
    | false => exact PA.imp' (pa_cons (sE e C (by simpa using h2)).1 (pa_f C h3) (star_cons h1)) fun σ H Q q => tP_val q
    | true => exact PA.imp' (pa_cons (fE C (by simpa using h2)) (pa_f C h3) (star_cons h1)) fun σ H Q q => tP_own q
  | [], [], _ :: _, h => by simp [mEf] at h
  | [], _ :: _, _, h => by simp [mEf] at h
  | _ :: _, [], _, h => by simp [mEf] at h
  | _ :: _, _ :: _, [], h => by simp [mEf] at h
theorem mEf_len : ∀ {fs : List Bool} {es : List E} {ps : List Expr}, mEf tb N sc fs es ps = true → fs.length = ps.length
  | [], [], [], _ => rfl
  | f :: fs, e :: es, p :: ps, h => by
    simp only [mEf, Bool.and_eq_true] at h
    simp [mEf_len h.2]
  | [], [], _ :: _, h => by simp [mEf] at h
  | [], _ :: _, _, h => by simp [mEf] at h
  | _ :: _, [], _, h => by simp [mEf] at h
  | _ :: _, _ :: _, [], h => by simp [mEf] at h
theorem pgs_n (C : Sto X N sc sc) : ∀ {is : List Nat} {ts : List Expr}, nameTgs N sc is ts = true → PGs X ts (tNs is) ∧ ts.all noStar = true ∧ ts.length = is.length
  | [], [], _ => ⟨PGs.imp' pgs_nil fun vs σ H Q ⟨h1, h2⟩ => by
    cases vs with
    | nil => exact ⟨rfl, h2⟩
    | cons _ _ => simp at h1, rfl, rfl⟩
  | [], _ :: _, h => by simp [nameTgs] at h
  | _ :: _, [], h => by simp [nameTgs] at h
  | i :: is, t :: ts, h => by
    cases t with
    | Name x pos =>
      simp only [nameTgs, Bool.and_eq_true, beq_iff_eq] at h
      obtain ⟨⟨h1, h2⟩, h3⟩ := h
      obtain ⟨r1, r2, r3⟩ := pgs_n C h3
      unfold stoB at h2
      simp only [Bool.or_eq_true, Bool.and_eq_true, beq_iff_eq] at h2
      have pn : PG X (.Name x pos) (gName i) := pg_name (by rw [C.hN]; exact C.nd) (by rw [C.hN]; exact h1) (by rw [C.hsc]; exact h2.imp (·.2) (·.2)) (h2.elim (fun z => .inr (by rw [C.hsc]; exact z.2)) fun z => .inl (C.fn x z.1))
      refine ⟨PGs.imp' (pgs_cons pn r1 (by rw [asgE_cons rfl]; rfl)) fun vs σ H Q ⟨q1, q2⟩ => ?_, by simp [noStar, r2], by simp [r3]⟩
      cases vs with
      | nil => simp at q1
      | cons v vs => exact ⟨v, vs, rfl, by simpa using q1, q2⟩
    | _ => simp [nameTgs] at h
end
end Mp
set_option Elab.async false
set_option linter.all false
set_option maxRecDepth 100000
set_option maxHeartbeats 4000000
/-! a statement of the text is this small one: the check, the theorem -/
namespace Mp
open PySem L2
def notComp : Expr → Bool
  | .ListComp .. => false
  | .SetComp .. => false
  | .DictComp .. => false
  | _ => true
theorem sw_no {e : Expr} {t : Option Expr} {l : Nat} {env : PySem.Env} (h : notComp e = true) : swapsWith e t l env = pure false := by
  cases e <;> first | rfl | cases h
theorem sw_tup {ts : List Expr} {k : Nat} {p : Pos} {e : Expr} {l : Nat} {env : PySem.Env} : swapsWithSole [.Tuple ts k p] e l env = pure false := by
  cases e <;> rfl
theorem sw_sub {o i : Expr} {p : Pos} {e : Expr} {l : Nat} {env : PySem.Env} : swapsWithSole [.Subscript o i p] e l env = pure false := by
  cases e <;> rfl
theorem ss_sub {o i : Expr} {p : Pos} {e : Expr} {env : PySem.Env} : swappedStores [.Subscript o i p] e env = pure none := by
  cases e <;> rfl
def isTuple : Expr → Bool
  | .Tuple .. => true
  | _ => false
theorem ss_no {ts : List Expr} {k : Nat} {p : Pos} {e : Expr} {env : PySem.Env} (h : isTuple e = false) : swappedStores [.Tuple ts k p] e env = pure none := by
  cases e <;> first | rfl | cases h
def lcLine (sc : Scope) (x : Str) (py : Pos) : Expr → Bool
  | .ListComp _ _ scope p => decide (sc.kind = .function) && sc.names.lookup x == some .local && (py.line == p.line) && !(scope.names.any fun (n, k) => n == x && (k == .local || k == .cell))
  | _ => false
def nameOk (sc : Scope) (tg e : Expr) : Bool := match tg with
  | .Name x py => notComp e || lcLine sc x py e
  | _ => false
def isNone2 : Option (Option (List Str)) → Bool
  | some none => true
  | _ => false
def tupOk (sc : Scope) (tg e : Expr) : Bool := match tg with
  | .Tuple ts _ _ => (match e with
    | .Tuple vs _ _ => isNone2 (swQ sc ts vs)
    | e => !isTuple e)
  | _ => false
def setOk (sc : Scope) (t : Tg) (tg e : Expr) : Bool := match t with
  | .name _ => nameOk sc tg e
  | .tup _ => notComp e && tupOk sc tg e
def isLoc (N : List Str) (sc : Scope) (i : Nat) (x : Str) : Bool := N[i]? == some x && sc.names.lookup x == some .local
def parOk (N : List Str) (sc : Scope) (is : List Nat) (tgs vs : List Expr) : Bool := match is, tgs with
  | [i, j], [.Name x _, .Name y _] => decide (i ≠ j) && isLoc N sc i x && isLoc N sc j y && decide (swQ sc tgs vs = some (some [x, y]))
  | [i, j, l], [.Name x _, .Name y _, .Name z _] => decide (i ≠ j) && decide (i ≠ l) && decide (j ≠ l) && isLoc N sc i x && isLoc N sc j y && isLoc N sc l z && decide (swQ sc tgs vs = some (some [x, y, z]))
  | _, _ => false
mutual
def mS (tb : Tb) (N : List Str) (sc : Scope) : S → Stmt → Bool
  | .set t e, st => match st with
    | .Assign [tg] e' _ => mTg N sc sc t tg && mE tb N sc e e' && setOk sc t tg e'
    | _ => false
  | .own i e, st => match st with
    | .Assign [tg] e' _ => mTg N sc sc (.name i) tg && mF tb N sc e e' && nameOk sc tg e'
    | _ => false
  | .par is es, st => match st with
    | .Assign [.Tuple tgs _ _] (.Tuple vs _ _) _ => noPeek es && parOk N sc is tgs vs && mEs tb N sc es vs
    | _ => false
  | .parO fs is es, st => match st with
    | .Assign [.Tuple tgs _ _] (.Tuple vs _ _) _ => mEf tb N sc fs es vs && decide (fs.length ≤ 1000) && (parOk N sc is tgs vs || nameTgs N sc is tgs && isNone2 (swQ sc tgs vs))
    | _ => false
  | .aug i op e, st => match st with
    | .AugAssign tg op' e' _ => decide (op = op') && mTg N sc sc (.name i) tg && mE tb N sc e e'
    | _ => false
  | .store i ix e, st => match st with
    | .Assign [.Subscript o ix' _] e' _ => isName N sc i o && notSlice ix' && mE tb N sc ix ix' && mE tb N sc e e'
    | _ => false
  | .expr e, st => match st with
    | .Expr e' _ => notComp e' && mE tb N sc e e'
    | _ => false
  | .ret none, st => match st with
    | .Return none _ => true
    | _ => false
  | .ret (some e), st => match st with
    | .Return (some e') _ => mE tb N sc e e'
    | _ => false
  | .retF e, st => match st with
    | .Return (some e') _ => mF tb N sc e e'
    | _ => false
  | .ifs c a b, st => match st with
    | .If c' a' b' _ => mE tb N sc c c' && mB tb N sc a a' && mB tb N sc b b'
    | _ => false
  | .for t k src body, st => match st with
    | .For tg it body' [] _ => (match itShape tb sc (isTup t) k it with
      | some pes => noSet it && noPeek src && mTg N sc sc t tg && mEs tb N sc src pes && mB tb N sc body body'
      | none => false)
    | _ => false
  | .while c body, st => match st with
    | .While c' body' [] _ => mE tb N sc c c' && mB tb N sc body body'
    | _ => false
  | .raise x, st => match st with
    | .Raise (some (.Call (.Name y _) [.Constant (.str _) _ _] [] _)) none _ => tb.xs[x]? == some y && globB sc y
    | _ => false
  | .pass, st => match st with
    | .Pass _ => true
    | _ => false
  | .brk, st => match st with
    | .Break _ => true
    | _ => false
  | .cnt, st => match st with
    | .Continue _ => true
    | _ => false
  | .frz _, _ => false
def mB (tb : Tb) (N : List Str) (sc : Scope) : List S → List Stmt → Bool
  | [], sts => sts.isEmpty
  | s :: ss, sts => match s with
    | .frz _ => mB tb N sc ss sts
    | s => (match sts with
      | st :: sts => mS tb N sc s st && mB tb N sc ss sts
      | [] => false)
end
section
variable {tb : Tb} {cls : Nat → Value} {cf : CallF} {n : Nat} {N : List Str} {sc : Scope} {W : WX} {X : Cx} {D : Ends} {σ : St} {H : Hp}
theorem iop_aug (op : Operator) : PIp X op (fun x y H Q => rS X.K (fun ds => match ds with | [a, b] => augEv op a b | _ => none) [x, y] H Q) := by
  intro pins s σ H x y v u Q I r1 r2 h
  obtain ⟨O, a, b, ha, hb, ho, q0⟩ := rS2 h
  have q : VQ X.K O H Q (augEv op a b) := q0
  clear q0 h
  unfold augEv at q
  split at q
  · cases ha; cases hb
    exact iop_add pins s σ H _ _ v u Q I r1 r2 ⟨_, _, rfl, rfl, q.flat rfl⟩
  · rename_i x y
    cases ha; cases hb
    obtain ⟨hl, q⟩ := VQ.of_ite (c := x.length + y.length ≤ 16777216) q
    refine iop_add_str pins s σ H _ _ v u Q I r1 r2 ⟨_, _, rfl, rfl, ?_, q.flat ?_⟩
    · show x.toArray.size + y.toArray.size ≤ sizeLine
      rw [sl16]; simpa using hl
    · show V.str (⟨x.toArray⟩ ++ ⟨y.toArray⟩) = V.str ⟨(x ++ y).toArray⟩
      congr 1
      show (⟨x.toArray ++ y.toArray⟩ : Str) = ⟨(x ++ y).toArray⟩
      simp
  · cases ha; cases hb
    exact iop_sub pins s σ H _ _ v u Q I r1 r2 ⟨_, _, rfl, rfl, q.flat rfl⟩
  · cases ha; cases hb
    obtain ⟨h, q⟩ := q.of_ite
    exact iop_mod pins s σ H _ _ v u Q I r1 r2 ⟨_, _, rfl, rfl, h, q.flat rfl⟩
  · exact q.none.elim
end
end Mp
set_option Elab.async false
set_option linter.all false
set_option maxRecDepth 100000
set_option maxHeartbeats 8000000
/-! the theorem for statements -/
namespace Mp
open PySem L2
theorem sl16' : sizeLine = 16777216 := rfl
structure SCtx (tb : Tb) (cls : Nat → Value) (cf : CallF) (n : Nat) (N : List Str) (sc : Scope) (W : WX) (X : Cx) : Prop extends Ctx tb cls cf n N sc W X where
  hfn : ∀ x, X.fn x = true
section
variable {tb : Tb} {cls : Nat → Value} {cf : CallF} {n : Nat} {N : List Str} {sc : Scope} {W : WX} {X : Cx} {De : Ends} {σ : St} {H : Hp}
theorem SCtx.sto (C : SCtx tb cls cf n N sc W X) : Sto X N sc sc := ⟨C.hN, C.nd, C.hsc, C.calm, fun x _ => C.hfn x⟩
theorem SCtx.nod (C : SCtx tb cls cf n N sc W X) : X.N.Nodup := by rw [C.hN]; exact C.nd
theorem sto_loc (C : SCtx tb cls cf n N sc W X) {x : Str} (h : stoB sc sc x = true) : Loc X.env.scope x := by
  unfold stoB at h
  simp only [Bool.or_eq_true, Bool.and_eq_true, beq_iff_eq] at h
  rw [C.hsc]
  exact h.imp (·.2) (·.2)
theorem mTg_name {i : Nat} {tg : Expr} (C : SCtx tb cls cf n N sc W X) (h : mTg N sc sc (.name i) tg = true) : ∃ x py, tg = .Name x py ∧ X.N[i]? = some x ∧ Loc X.env.scope x := by
  cases tg with
  | Name x py =>
    have h : N[i]? = some x ∧ stoB sc sc x = true := by simpa [mTg] using h
    exact ⟨x, py, rfl, by rw [C.hN]; exact h.1, sto_loc C h.2⟩
  | _ => simp [mTg] at h
/-- name = e, by a rule of e; a comprehension's by its parts -/
theorem ps_name (C : SCtx tb cls cf n N sc W X) {i : Nat} {x : Str} {py pos : Pos} {e' : Expr} {te : TE} (hi : X.N[i]? = some x) (hx : Loc X.env.scope x) (hn : notComp e' = true) (he : PE X e' te) : PS X (.Assign [.Name x py] e' pos) (tAsg te (gName i)) :=
  ps_set C.nod hi hx he (sw_no hn) (.inl (C.hfn x))
theorem ps_nameLc (C : SCtx tb cls cf n N sc W X) {i : Nat} {x : Str} {py pos : Pos} {own : List Nat} {tg : Tg} {k : ItK} {src cnd : List E} {elt : E} {e' : Expr} (hi : X.N[i]? = some x) (hl : lcLine sc x py e' = true) (h : mE tb N sc (.comp own tg k src cnd elt) e' = true) :
    PS X (.Assign [.Name x py] e' pos) (tAsg (tF X.K W cls cf (.comp own tg k src cnd elt)) (gName i)) := by
  obtain ⟨elt', tg', iter', ifs', scope, p, rfl, L⟩ := mE_comp C.toCtx h
  unfold lcLine at hl
  simp only [Bool.and_eq_true, beq_iff_eq, decide_eq_true_eq, Bool.not_eq_true'] at hl
  obtain ⟨⟨⟨h1, h2⟩, h3⟩, h4⟩ := hl
  have hy : X.env.scope.names.lookup x = some .local := by rw [C.hsc]; exact h2
  refine PS.imp' (ps_setLc (wi := tI X.K W cls cf k src) (g := tG X.K tg) (tt := tC X.K W0 cls cf cnd) (te := tE X.K W0 cls cf elt) L.hc L.hN hi hy (sw_true (by rw [C.hsc]; exact h1) hy (by simpa using h3) h4) L.hi L.blk L.hg L.ht L.he L.fs) fun D σ H q => ?_
  rw [L.ho]
  exact tF_comp q
theorem lc_comp {x : Str} {py : Pos} {e : E} {e' : Expr} (hl : lcLine sc x py e' = true) (h : mE tb N sc e e' = true) : ∃ own tg k src cnd elt, e = .comp own tg k src cnd elt := by
  cases e' <;> simp [lcLine] at hl
  cases e <;> first | exact ⟨_, _, _, _, _, _, rfl⟩ | (simp [mE, isName, isCon, isGlob, shape] at h; done)
theorem lc_compF {x : Str} {py : Pos} {e : E} {e' : Expr} (hl : lcLine sc x py e' = true) (h : mF tb N sc e e' = true) : ∃ own tg k src cnd elt, e = .comp own tg k src cnd elt ∧ mE tb N sc e e' = true := by
  cases e' <;> simp [lcLine] at hl
  cases e with
  | comp own tg k src cnd elt => exact ⟨_, _, _, _, _, _, rfl, by unfold mF at h; exact h⟩
  | prim s es =>
    exfalso
    unfold mF at h
    split at h <;> first | (rename_i e0 e1; cases e0; done) | (rename_i e0 e1; cases e1; done) | (cases h; done) | skip
  | _ => simp [mF] at h
theorem ps_setN (C : SCtx tb cls cf n N sc W X) {i : Nat} {e : E} {tg e' : Expr} {pos : Pos} (ht : mTg N sc sc (.name i) tg = true) (he : mE tb N sc e e' = true) (ho : nameOk sc tg e' = true) : PS X (.Assign [tg] e' pos) (tS X.K W cls cf (.set (.name i) e)) := by
  obtain ⟨x, py, rfl, hi, hx⟩ := mTg_name C ht
  unfold nameOk at ho
  simp only [Bool.or_eq_true] at ho
  rcases ho with ho | ho
  · exact PS.imp' (ps_name C hi hx ho (sE e C.toCtx he).1) fun D σ H q => tS_name q
  · obtain ⟨own, tg, k, src, cnd, elt, rfl⟩ := lc_comp ho he
    exact PS.imp' (ps_nameLc C hi ho he) fun D σ H q => tF_of comp_lst (tS_name q)
theorem ps_ownN (C : SCtx tb cls cf n N sc W X) {i : Nat} {e : E} {tg e' : Expr} {pos : Pos} (ht : mTg N sc sc (.name i) tg = true) (he : mF tb N sc e e' = true) (ho : nameOk sc tg e' = true) : PS X (.Assign [tg] e' pos) (tS X.K W cls cf (.own i e)) := by
  obtain ⟨x, py, rfl, hi, hx⟩ := mTg_name C ht
  unfold nameOk at ho
  simp only [Bool.or_eq_true] at ho
  rcases ho with ho | ho
  · exact PS.imp' (ps_name C hi hx ho (fE C.toCtx he)) fun D σ H q => tS_own q
  · obtain ⟨own, tg, k, src, cnd, elt, rfl, he⟩ := lc_compF ho he
    exact PS.imp' (ps_nameLc C hi ho he) fun D σ H q => tS_own q
theorem ps_setT (C : SCtx tb cls cf n N sc W X) {ts : List Tg} {e : E} {tg e' : Expr} {pos : Pos} (ht : mTg N sc sc (.tup ts) tg = true) (he : mE tb N sc e e' = true) (hn : notComp e' = true) (ho : tupOk sc tg e' = true) : PS X (.Assign [tg] e' pos) (tS X.K W cls cf (.set (.tup ts) e)) := by
  cases tg with
  | Tuple es k p =>
    refine PS.imp' (ps_asg (sE e C.toCtx he).1 (pg_ C.sto ht) sw_tup ?_) fun D σ H q => tS_tup q
    unfold tupOk at ho
    simp only [] at ho
    split at ho
    · rename_i vs k2 p2
      cases z : swQ sc es vs with
      | none => rw [z] at ho; cases ho
      | some r =>
        cases r with
        | some l => rw [z] at ho; cases ho
        | none => exact swQ_eq (by rw [C.hsc]; exact z)
    · exact ss_no (by simpa using ho)
  | _ => simp [tupOk] at ho
theorem isLoc_ (C : SCtx tb cls cf n N sc W X) {i : Nat} {x : Str} (h : isLoc N sc i x = true) : X.N[i]? = some x ∧ X.env.scope.names.lookup x = some .local := by
  unfold isLoc at h
  simp only [Bool.and_eq_true, beq_iff_eq] at h
  rw [C.hN, C.hsc]
  exact h
theorem asgN_cons {i : Nat} {is : List Nat} {d : D} {ds : List D} {env env' : Env} (h : asgN env (i :: is) (d :: ds) = some env') : ∃ e, asg env (.name i) d = some e ∧ asgN e is ds = some env' := by
  unfold asgN at h
  cases z : Mp.put env i (.val d) with
  | none => rw [z] at h; cases h
  | some e => rw [z] at h; exact ⟨e, by simpa [asg] using z, h⟩
theorem tS_par {K : PySem.W.Frag} {is : List Nat} {es : List E} (hp : noPeek es = true) (h : tS K W cls cf (.par is es) De σ H) : tA K W cls cf es σ H fun vs H1 => ∃ O ds env env', Sim K O σ H1 env ∧ Reps K O H1 ds vs ∧ asgN env is ds = some env' ∧ PostS K W cls O σ H1 env (.nxt env') De := by
  obtain ⟨O, env, S, p⟩ := h
  unfold evS at p
  refine ⟨O, env, S, (p.toS S (evA_kinds cf es env)).imp fun avs e1 H1 ea _ s1 q vs hvs => ?_⟩
  cases z : rds e1 avs with
  | none => rw [z] at q; exact q.elim
  | some ds =>
    rw [z] at q
    have r := rds_vals (noPeek_vals hp ea) z hvs
    have q : PostS K W cls O σ H1 e1 (ofOptS (asgN e1 is ds)) De := q
    cases w : asgN e1 is ds with
    | none => rw [w] at q; exact q.elim
    | some e2 => rw [w] at q; exact ⟨O, ds, e1, e2, s1, r, w, q⟩
theorem one_put {K : PySem.W.Frag} {O : PA'} {env e : Env} {i : Nat} {d : D} {v : V} (S : Sim K O σ H env) (h : asg env (.name i) d = some e) (r : Rep K O H d v) : Sim K O (σ.set i (some v)) H e ∧ Fr K O σ H env O (σ.set i (some v)) H e := by
  obtain ⟨s, o⟩ := S.put (by simpa [asg] using h) r
  exact ⟨s, Fr.asg S h s o⟩
theorem ps_par_ (C : SCtx tb cls cf n N sc W X) {is : List Nat} {es : List E} {tgs vs : List Expr} {k k2 : Nat} {p p2 pos : Pos} (hp : noPeek es = true) (ho : parOk N sc is tgs vs = true) (he : mEs tb N sc es vs = true) : PS X (.Assign [.Tuple tgs k p] (.Tuple vs k2 p2) pos) (tS X.K W cls cf (.par is es)) := by
  have hl := mEs_len he
  have pa := (sEs es C.toCtx he).pa
  unfold parOk at ho
  split at ho
  · simp only [Bool.and_eq_true, decide_eq_true_eq] at ho
    obtain ⟨⟨⟨nij, h1⟩, h2⟩, hs⟩ := ho
    obtain ⟨i1, l1⟩ := isLoc_ C h1
    obtain ⟨i2, l2⟩ := isLoc_ C h2
    have hlen : vs.length = 2 := by
      unfold swQ at hs
      split at hs
      · cases hs
      · rename_i c
        simp at c
        exact c.1
    match vs, hlen with
    | [a, b], _ =>
      refine PS.imp' (ps_par C.calm C.nod i1 i2 nij l1 l2 pa (swQ_eq (by rw [C.hsc]; exact hs)) sw_tup) fun D σ H q => ?_
      obtain ⟨O, env, S, q⟩ := tS_par hp q
      refine ⟨O, env, S, q.imp fun avs e1 H1 _ _ _ q vs hvs => ?_⟩
      obtain ⟨O, ds, env, env', S, r, a, p⟩ := q vs hvs
      match ds, r, a with
      | [d1, d2], r, a =>
        obtain ⟨v1, _, rfl, r1, v2, _, rfl, r2, rfl⟩ := r
        obtain ⟨e1, a1, a⟩ := asgN_cons a
        obtain ⟨e2, a2, a⟩ := asgN_cons a
        cases a
        obtain ⟨s1, f1⟩ := one_put S a1 r1
        obtain ⟨s2, f2⟩ := one_put s1 a2 r2
        exact ⟨v1, v2, rfl, p O _ H1 (f1.trans S f2)⟩
      | [], r, a => simp [asgN] at a
      | [_], r, a => obtain ⟨e1, a1, a⟩ := asgN_cons a; simp [asgN] at a
      | _ :: _ :: _ :: _, r, a => obtain ⟨e1, a1, a⟩ := asgN_cons a; obtain ⟨e2, a2, a⟩ := asgN_cons a; simp [asgN] at a
  · simp only [Bool.and_eq_true, decide_eq_true_eq] at ho
    obtain ⟨⟨⟨⟨⟨⟨nij, nil⟩, njl⟩, h1⟩, h2⟩, h3⟩, hs⟩ := ho
    obtain ⟨i1, l1⟩ := isLoc_ C h1
    obtain ⟨i2, l2⟩ := isLoc_ C h2
    obtain ⟨i3, l3⟩ := isLoc_ C h3
    have hlen : vs.length = 3 := by
      unfold swQ at hs
      split at hs
      · cases hs
      · rename_i c
        simp at c
        exact c.1
    match vs, hlen with
    | [a, b, c], _ =>
      refine PS.imp' (ps_par3 C.calm C.nod i1 i2 i3 nij nil njl l1 l2 l3 pa (swQ_eq (by rw [C.hsc]; exact hs)) sw_tup) fun D σ H q => ?_
      obtain ⟨O, env, S, q⟩ := tS_par hp q
      refine ⟨O, env, S, q.imp fun avs e1 H1 _ _ _ q vs hvs => ?_⟩
      obtain ⟨O, ds, env, env', S, r, a, p⟩ := q vs hvs
      match ds, r, a with
      | [d1, d2, d3], r, a =>
        obtain ⟨v1, _, rfl, r1, v2, _, rfl, r2, v3, _, rfl, r3, rfl⟩ := r
        obtain ⟨e1, a1, a⟩ := asgN_cons a
        obtain ⟨e2, a2, a⟩ := asgN_cons a
        obtain ⟨e3, a3, a⟩ := asgN_cons a
        cases a
        obtain ⟨s1, f1⟩ := one_put S a1 r1
        obtain ⟨s2, f2⟩ := one_put s1 a2 r2
        obtain ⟨s3, f3⟩ := one_put s2 a3 r3
        exact ⟨v1, v2, v3, rfl, p O _ H1 ((f1.trans S f2).trans S f3)⟩
      | [], r, a => simp [asgN] at a
      | [_], r, a => obtain ⟨e1, a1, a⟩ := asgN_cons a; simp [asgN] at a
      | [_, _], r, a => obtain ⟨e1, a1, a⟩ := asgN_cons a; obtain ⟨e2, a2, a⟩ := asgN_cons a; simp [asgN] at a
      | _ :: _ :: _ :: _ :: _, r, a => obtain ⟨e1, a1, a⟩ := asgN_cons a; obtain ⟨e2, a2, a⟩ := asgN_cons a; obtain ⟨e3, a3, a⟩ := asgN_cons a; simp [asgN] at a
  · cases ho
theorem ps_parO_ (C : SCtx tb cls cf n N sc W X) {fs : List Bool} {is : List Nat} {es : List E} {tgs vs : List Expr} {k k2 : Nat} {p p2 pos : Pos} (he : mEf tb N sc fs es vs = true) (hfl : fs.length ≤ 1000)
    (ho : (parOk N sc is tgs vs || nameTgs N sc is tgs && isNone2 (swQ sc tgs vs)) = true) : PS X (.Assign [.Tuple tgs k p] (.Tuple vs k2 p2) pos) (tS X.K W cls cf (.parO fs is es)) := by
  have pa := pa_f C.toCtx he
  rw [Bool.or_eq_true] at ho
  rcases ho with ho | ho
  · unfold parOk at ho
    split at ho
    · simp only [Bool.and_eq_true, decide_eq_true_eq] at ho
      obtain ⟨⟨⟨nij, h1⟩, h2⟩, hs⟩ := ho
      obtain ⟨i1, l1⟩ := isLoc_ C h1
      obtain ⟨i2, l2⟩ := isLoc_ C h2
      have hlen : vs.length = 2 := by
        unfold swQ at hs
        split at hs
        · cases hs
        · rename_i c
          simp at c
          exact c.1
      match vs, hlen with
      | [a, b], _ =>
        refine PS.imp' (ps_par C.calm C.nod i1 i2 nij l1 l2 pa (swQ_eq (by rw [C.hsc]; exact hs)) sw_tup) fun D σ H q => ?_
        obtain ⟨_, O, env, S, q⟩ := tS_parO q
        refine ⟨O, env, S, ?_⟩
        revert q
        cases evP cf fs es env with
        | stuck => exact id
        | exn x e => exact id
        | ok ds e =>
          intro q as H' vs h1 h2 h3 h4
          have st := q as H' vs h1 h2 h3 h4
          obtain ⟨sl, _⟩ := st.len
          match vs, sl, st with
          | [v1, v2], _, st => exact ⟨v1, v2, rfl, st.fin⟩
    · simp only [Bool.and_eq_true, decide_eq_true_eq] at ho
      obtain ⟨⟨⟨⟨⟨⟨nij, nil⟩, njl⟩, h1⟩, h2⟩, h3⟩, hs⟩ := ho
      obtain ⟨i1, l1⟩ := isLoc_ C h1
      obtain ⟨i2, l2⟩ := isLoc_ C h2
      obtain ⟨i3, l3⟩ := isLoc_ C h3
      have hlen : vs.length = 3 := by
        unfold swQ at hs
        split at hs
        · cases hs
        · rename_i c
          simp at c
          exact c.1
      match vs, hlen with
      | [a, b, c], _ =>
        refine PS.imp' (ps_par3 C.calm C.nod i1 i2 i3 nij nil njl l1 l2 l3 pa (swQ_eq (by rw [C.hsc]; exact hs)) sw_tup) fun D σ H q => ?_
        obtain ⟨_, O, env, S, q⟩ := tS_parO q
        refine ⟨O, env, S, ?_⟩
        revert q
        cases evP cf fs es env with
        | stuck => exact id
        | exn x e => exact id
        | ok ds e =>
          intro q as H' vs h1 h2 h3 h4
          have st := q as H' vs h1 h2 h3 h4
          obtain ⟨sl, _⟩ := st.len
          match vs, sl, st with
          | [v1, v2, v3], _, st => exact ⟨v1, v2, v3, rfl, st.fin⟩
    · cases ho
  · simp only [Bool.and_eq_true] at ho
    obtain ⟨h1, h2⟩ := ho
    obtain ⟨pg, hst, hl⟩ := pgs_n C.sto h1
    obtain ⟨l3, l4⟩ := asgE_len (env := X.env) hst
    have hs : swQ sc tgs vs = some none := by
      revert h2
      cases swQ sc tgs vs with
      | none => intro h; cases h
      | some r => cases r with
        | none => intro _; rfl
        | some _ => intro h; cases h
    refine PS.imp' (ps_asg (pe_tup pa) (pg_tup C.calm pg l3 l4) sw_tup (swQ_eq (by rw [C.hsc]; exact hs))) fun D σ H q => ?_
    obtain ⟨_, O, env, S, q⟩ := tS_parO q
    refine ⟨O, env, S, ?_⟩
    revert q
    cases evP cf fs es env with
    | stuck => exact id
    | exn x e => exact id
    | ok ds e =>
      intro q as H' vs h1 h2 h3 h4
      have st := q as H' vs h1 h2 h3 h4
      obtain ⟨sl, fl⟩ := st.len
      refine ⟨by rw [fl, sl16']; omega, fun T hT => ?_⟩
      exact ⟨T, vs, rfl, .inl (.inl upd_same), by rw [sl, hl], by rw [sl], (st.same (same_new hT)).fin⟩
theorem iop_aug2 (op : Operator) : PIp X op (fun x y H Q => rS X.K (fun ds => match ds with | [a, b] => augEv op a b | _ => none) [x, y] H Q ∨ (op = .Add ∧ rExt2 x y H Q)) := by
  intro pins s σ H x y v u Q I r1 r2 h
  rcases h with h | ⟨e, h⟩
  · exact iop_aug op pins s σ H x y v u Q I r1 r2 h
  · subst e
    exact iop_ext pins s σ H x y v u Q I r1 r2 h
theorem set_same {σ : St} {i : Nat} {v : Option V} (h : σ[i]? = some v) : σ.set i v = σ := by
  apply List.ext_getElem?
  intro j
  by_cases hj : i = j
  · subst hj
    rw [List.getElem?_set_self (List.getElem?_eq_some_iff.mp h).1, h]
  · rw [List.getElem?_set_ne hj]
theorem ps_aug_ (C : SCtx tb cls cf n N sc W X) {i : Nat} {op : Operator} {e : E} {tg e' : Expr} {pos : Pos} (ht : mTg N sc sc (.name i) tg = true) (he : mE tb N sc e e' = true) : PS X (.AugAssign tg op e' pos) (tS X.K W cls cf (.aug i op e)) := by
  obtain ⟨x, py, rfl, hi, hx⟩ := mTg_name C ht
  refine PS.imp' (ps_aug C.nod hi hx (sE e C.toCtx he).1 (iop_aug2 op) (.inl (C.hfn x))) fun D σ H ⟨O, env, S, p⟩ => ?_
  unfold evS at p
  cases z : env[i]? with
  | none => rw [z] at p; exact p.elim
  | some s =>
    rw [z] at p
    have own : ∀ d, (s = .own d ∨ s = .io d) → PostS X.K W cls O σ H env (if (isMut s && decide (op = .Add)) = true then (evE cf e env).toS fun y env1 => (match env1[i]? with | some s => augL env1 i s (rd env1 (.slot i)) y | none => .stuck) else .stuck) D →
        ∃ v0, σ[i]? = some (some v0) ∧ tE X.K W cls cf e σ H fun w H1 => (rS X.K (fun ds => match ds with | [a, b] => augEv op a b | _ => none) [v0, w] H1 fun v H' => D.nx (σ.set i (some v)) H') ∨ (op = .Add ∧ rExt2 v0 w H1 fun v H' => D.nx (σ.set i (some v)) H') := fun d hd p' => by
      clear p
      by_cases hm : (isMut s && decide (op = .Add)) = true
      · rw [if_pos hm] at p'
        simp only [Bool.and_eq_true, decide_eq_true_eq] at hm
        obtain ⟨_, rfl⟩ := hm
        have z' : env[i]? = some (.own d) ∨ env[i]? = some (.io d) := by rcases hd with rfl | rfl; exact .inl z; exact .inr z
        have ks : kd s ≠ 0 := by rcases hd with rfl | rfl; exact kd_own _; exact kd_io _
        obtain ⟨a, ha, oa, _⟩ := S.cel i d z'
        refine ⟨.ref a, ha, O, env, S, (p'.toS S (evE_kinds cf e env)).imp fun y e1 H1 ee _ s1 q w hw => ?_⟩
        refine .inr ⟨rfl, ?_⟩
        have hk : kinds e1 = kinds env := by
          have := evE_kinds cf e env
          rw [ee] at this
          exact this
        obtain ⟨t, ht', kt⟩ := kinds_at hk z
        simp only [ht'] at q
        have ktn : kd t ≠ 0 := by rw [kt]; exact ks
        have cell : ∃ c, rd e1 (.slot i) = some c ∧ ∃ b, σ[i]? = some (some (.ref b)) ∧ Cell X.K O H1 c b := by
          cases t with
          | none => exact absurd rfl ktn
          | val d => exact absurd rfl ktn
          | own d =>
            obtain ⟨b, h1, _, h2⟩ := s1.cel i d (.inl ht')
            exact ⟨d, by simp [rd, ht'], b, h1, h2⟩
          | io d =>
            obtain ⟨b, h1, _, h2⟩ := s1.cel i d (.inr ht')
            exact ⟨d, by simp [rd, ht'], b, h1, h2⟩
        obtain ⟨c, hc, b, hb, hcell⟩ := cell
        rw [ha] at hb; cases hb
        rw [hc] at q
        unfold augL at q
        split at q
        · rename_i xs ys e3
          cases e3
          by_cases hl : (isMut t && decide (xs.length + ys.length ≤ 16777216)) = true
          · rw [if_pos hl] at q
            simp only [Bool.and_eq_true, decide_eq_true_eq] at hl
            obtain ⟨us, hu, ru⟩ := hcell
            obtain ⟨b, zs, rfl, hz, nz, rz⟩ := hw
            refine ⟨a, b, us, zs, rfl, rfl, hu, hz, by rw [sl16', reps_len ru, reps_len rz]; omega, ?_⟩
            have := q O σ (upd H1 a (.lst (us ++ zs))) (Fr.turn s1 ht' ktn ha (reps_append ru rz))
            show D.nx (σ.set i (some (.ref a))) _
            rw [set_same ha]
            exact this
          · rw [if_neg hl] at q; exact q.elim
        · exact q.elim
      · rw [if_neg hm] at p'; exact p'.elim
    cases s with
    | none =>
      exfalso
      have p : PostS X.K W cls O σ H env (if (isMut .none && decide (op = .Add)) = true then _ else .stuck) D := p
      exact p
    | own d => exact own d (.inl rfl) p
    | io d => exact own d (.inr rfl) p
    | val x0 =>
      obtain ⟨v0, hv0, r0⟩ := S.val i x0 z
      refine ⟨v0, hv0, O, env, S, (p.toS S (evE_kinds cf e env)).imp fun y e1 H1 _ x1 s1 q w hw => .inl ?_⟩
      have q : PostS X.K W cls O σ H1 e1 (match augEv op x0 y with | some z => ofOptS (Mp.put e1 i (.val z)) | none => .stuck) D := q
      cases a : augEv op x0 y with
      | none => rw [a] at q; exact q.elim
      | some z2 =>
        rw [a] at q
        refine ⟨O, [x0, y], ⟨v0, _, rfl, (rep_ext (mt_sub S x1) r0).r, w, _, rfl, hw.r, rfl⟩, s1.trk, z2, a, fun v H' sm r => ?_⟩
        have q : PostS X.K W cls O σ H1 e1 (ofOptS (Mp.put e1 i (.val z2))) D := q
        cases b : Mp.put e1 i (.val z2) with
        | none => rw [b] at q; exact q.elim
        | some e2 =>
          rw [b] at q
          have A : Fr X.K O σ H1 e1 O σ H' e1 := Fr.step s1 (Ext.same sm) (s1.same sm) rfl
          obtain ⟨s2, f2⟩ := one_put (A.s) (show asg e1 (.name i) z2 = some e2 by simpa [asg] using b) r
          exact q O _ H' (A.trans s1 f2)
theorem ps_store_ (C : SCtx tb cls cf n N sc W X) {i : Nat} {ix e : E} {o ix' e' : Expr} {p pos : Pos} (ho : isName N sc i o = true) (hn : notSlice ix' = true) (hx : mE tb N sc ix ix' = true) (he : mE tb N sc e e' = true) : PS X (.Assign [.Subscript o ix' p] e' pos) (tS X.K W cls cf (.store i ix e)) := by
  obtain ⟨x, px, rfl, po⟩ := pe_name C.toCtx ho
  have ha : ∀ v, assign (.Subscript (.Name x px) ix' p) X.env v = (do
      let ov ← holding [v] (eval (.Name x px) X.env)
      let iv ← holding [v, ov] (eval ix' X.env)
      standAt p
      holding [v, ov, iv] (setItem ov iv v)
      release [v, ov, iv] []) := by
    intro v
    cases ix' <;> first | rfl | cases hn
  refine PS.imp' (ps_asg (sE e C.toCtx he).1 (pg_sub po (sE ix C.toCtx hx).1 set_list ha) sw_sub ss_sub) fun D σ H ⟨O, env, S, p⟩ => ?_
  unfold evS at p
  refine ⟨O, env, S, (p.toS S (evE_kinds cf e env)).imp fun d e1 H1 _ _ s1 q v hv => ?_⟩
  by_cases hm : okMut e1 i = true
  · rw [if_pos hm] at q
    obtain ⟨xs0, h0⟩ := okMut_of hm
    obtain ⟨a, ha, oa, _⟩ := s1.cel i (.lst xs0) h0
    refine ⟨.ref a, ha, O, e1, s1, (q.toS s1 (evE_kinds cf ix e1)).imp fun k e2 H2 ek x2 s2 q iv hiv => ?_⟩
    have hk : kinds e2 = kinds e1 := by
      have := evE_kinds cf ix e1
      rw [ek] at this
      exact this
    have q : PostS X.K W cls O σ H2 e2 (match e2[i]? with
      | some s => (match isMut s, rd e2 (.slot i) with
        | true, some c => (match storeEv c k d with
          | some c' => .nxt (e2.set i (reset c' s))
          | none => .stuck)
        | _, _ => .stuck)
      | none => .stuck) D := q
    cases z : e2[i]? with
    | none => rw [z] at q; exact q.elim
    | some s =>
      rw [z] at q
      simp only [] at q
      have ks : kd s ≠ 0 := by
        rcases h0 with h0 | h0
        · obtain ⟨t, ht, kt⟩ := kinds_at hk h0
          rw [z] at ht; cases ht
          rw [kt]; exact kd_own _
        · obtain ⟨t, ht, kt⟩ := kinds_at hk h0
          rw [z] at ht; cases ht
          rw [kt]; exact kd_io _
      have cell : ∃ c, rd e2 (.slot i) = some c ∧ isMut s = true ∧ ∃ b, σ[i]? = some (some (.ref b)) ∧ Cell X.K O H2 c b := by
        cases s with
        | none => exact absurd rfl ks
        | val d => exact absurd rfl ks
        | own d =>
          obtain ⟨b, h1, _, h2⟩ := s2.cel i d (.inl z)
          exact ⟨d, by simp [rd, z], rfl, b, h1, h2⟩
        | io d =>
          obtain ⟨b, h1, _, h2⟩ := s2.cel i d (.inr z)
          exact ⟨d, by simp [rd, z], rfl, b, h1, h2⟩
      obtain ⟨c, hc, hm2, b, hb, hcell⟩ := cell
      rw [ha] at hb; cases hb
      rw [hm2, hc] at q
      simp only [] at q
      cases w : storeEv c k d with
      | none => rw [w] at q; exact q.elim
      | some c' =>
        rw [w] at q
        simp only [] at q
        unfold storeEv at w
        split at w
        · rename_i xs ki
          cases hiv
          obtain ⟨us, hu, ru⟩ := hcell
          cases y : ixN xs.length ki with
          | none => rw [y] at w; cases w
          | some j =>
            rw [y] at w
            cases w
            refine ⟨a, us, ki, j, rfl, rfl, hu, by rw [reps_len ru]; exact y, ?_⟩
            exact q O σ _ (Fr.turn s2 z ks ha (reps_set j ru (rep_ext (mt_sub s1 x2) hv)))
        · cases w
  · rw [if_neg hm] at q; exact q.elim
theorem ps_raise_ (C : SCtx tb cls cf n N sc W X) {x : Nat} {y m : Str} {j : Nat} {p p2 p3 pos : Pos} (hx : tb.xs[x]? = some y) (hg : globB sc y = true) : PS X (.Raise (some (.Call (.Name y p) [.Constant (.str m) j p2] [] p3)) none pos) (tS X.K W cls cf (.raise x)) := by
  obtain ⟨Ca, bmB, B, newId, initId, F, q, ec, gC, kC, sb, ty⟩ := C.G.xs x y hx
  obtain ⟨g1, g2⟩ := gl_of C.toCtx hg
  refine PS.imp' (ps_raise C.calm C.tk (pmk_own F q gC kC (raises_own sb ty) g1 (plain_of g2).1)) fun D σ H h => ?_
  have := tS_raise h
  rw [ec] at this
  exact this
end
end Mp
set_option Elab.async false
set_option linter.all false
set_option maxRecDepth 100000
set_option maxHeartbeats 8000000
/-! the theorem for statements, all cases -/
namespace Mp
open PySem L2
section
variable {tb : Tb} {cls : Nat → Value} {cf : CallF} {n : Nat} {N : List Str} {sc : Scope} {W : WX} {X : Cx}
theorem mB_cons {s : S} {ss : List S} {sts : List Stmt} (h : mB tb N sc (s :: ss) sts = true) : (∃ i, s = .frz i ∧ mB tb N sc ss sts = true) ∨ ∃ st rest, sts = st :: rest ∧ mS tb N sc s st = true ∧ mB tb N sc ss rest = true := by
  unfold mB at h
  cases s with
  | frz i => exact .inl ⟨i, rfl, h⟩
  | _ =>
    cases sts with
    | nil => cases h
    | cons st rest =>
      simp only [Bool.and_eq_true] at h
      exact .inr ⟨st, rest, rfl, h.1, h.2⟩
mutual
theorem sS : ∀ (s : S) {st : Stmt}, SCtx tb cls cf n N sc W X → mS tb N sc s st = true → PS X st (tS X.K W cls cf s)
  | .set t e, st, C, h => by
    unfold mS at h
    split at h
    · simp only [Bool.and_eq_true] at h
      obtain ⟨⟨h1, h2⟩, h3⟩ := h
      cases t with
      | name i => exact ps_setN C h1 h2 h3
      | tup ts =>
        unfold setOk at h3
        simp only [Bool.and_eq_true] at h3
        exact ps_setT C h1 h2 h3.1 h3.2
    · cases h
  | .own i e, st, C, h => by
    unfold mS at h
    split at h
    · simp only [Bool.and_eq_true] at h
      exact ps_ownN C h.1.1 h.1.2 h.2
    · cases h
  | .par is es, st, C, h => by
    unfold mS at h
    split at h
    · simp only [Bool.and_eq_true] at h
      exact ps_par_ C h.1.1 h.1.2 h.2
    · cases h
  | .parO fs is es, st, C, h => by
    unfold mS at h
    split at h
    · simp only [Bool.and_eq_true, decide_eq_true_eq] at h
      exact ps_parO_ C h.1.1 h.1.2 h.2
    · cases h
  | .aug i op e, st, C, h => by
    unfold mS at h
    split at h
    · simp only [Bool.and_eq_true, decide_eq_true_eq] at h
      obtain ⟨⟨h1, h2⟩, h3⟩ := h
      subst h1
      exact ps_aug_ C h2 h3
    · cases h
  | .store i ix e, st, C, h => by
    unfold mS at h
    split at h
    · simp only [Bool.and_eq_true] at h
      exact ps_store_ C h.1.1.1 h.1.1.2 h.1.2 h.2
    · cases h
  | .expr e, st, C, h => by
    unfold mS at h
    split at h
    · simp only [Bool.and_eq_true] at h
      exact PS.imp' (ps_expr (sE e C.toCtx h.2).1 (sw_no h.1)) fun D σ H q => tS_expr q
    · cases h
  | .ret none, st, C, h => by
    unfold mS at h
    split at h
    · exact PS.imp' ps_retN fun D σ H q => tS_retN q
    · cases h
  | .ret (some e), st, C, h => by
    unfold mS at h
    split at h
    · exact PS.imp' (ps_ret (sE e C.toCtx h).1) fun D σ H q => tS_ret q
    · cases h
  | .retF e, st, C, h => by
    unfold mS at h
    split at h
    · exact PS.imp' (ps_ret (fE C.toCtx h)) fun D σ H q => tS_retF q
    · cases h
  | .ifs c a b, st, C, h => by
    unfold mS at h
    split at h
    · simp only [Bool.and_eq_true] at h
      exact PS.imp' (ps_if (sE c C.toCtx h.1.1).2 (sB a C h.1.2) (sB b C h.2)) fun D σ H q => tS_if q
    · cases h
  | .for t k src body, st, C, h => by
    unfold mS at h
    split at h
    · rename_i tg it body' pos
      cases hi : itShape tb sc (isTup t) k it with
      | none => rw [hi] at h; cases h
      | some pes =>
        rw [hi] at h
        simp only [Bool.and_eq_true] at h
        obtain ⟨⟨⟨⟨h1, h2⟩, h3⟩, h4⟩, h5⟩ := h
        have tt : isTup t = true → ∃ es kk pos, tg = .Tuple es kk pos := fun z => by
          cases t with
          | name i => cases z
          | tup ts => cases tg <;> first | exact ⟨_, _, _, rfl⟩ | (simp [mTg] at h3)
        exact PS.imp' (ps_for C.po C.calm (it_rule C.toCtx tt h2 hi (sEs src C.toCtx h4)) (pg_ C.sto h3) (sB body C h5) (folded_ok h1)) fun D σ H q => tS_for q
    · cases h
  | .while c body, st, C, h => by
    unfold mS at h
    split at h
    · simp only [Bool.and_eq_true] at h
      exact PS.imp' (ps_while C.po (sE c C.toCtx h.1).2 (sB body C h.2)) fun D σ H q => tS_while q
    · cases h
  | .raise x, st, C, h => by
    unfold mS at h
    split at h
    · simp only [Bool.and_eq_true, beq_iff_eq] at h
      exact ps_raise_ C h.1 h.2
    · cases h
  | .pass, st, C, h => by
    unfold mS at h
    split at h
    · exact PS.imp' ps_pass fun D σ H q => tS_pass q
    · cases h
  | .brk, st, C, h => by
    unfold mS at h
    split at h
    · exact PS.imp' ps_break fun D σ H q => tS_brk q
    · cases h
  | .cnt, st, C, h => by
    unfold mS at h
    split at h
    · exact PS.imp' ps_continue fun D σ H q => tS_cnt q
    · cases h
  | .frz _, st, C, h => by
    unfold mS at h
    cases h
theorem sB : ∀ (ss : List S) {sts : List Stmt}, SCtx tb cls cf n N sc W X → mB tb N sc ss sts = true → PSs X sts (tB X.K W cls cf ss)
  | [], sts, C, h => by
    unfold mB at h
    cases sts with
    | nil => exact PSs.imp' pss_nil fun D σ H q => tB_nil q
    | cons _ _ => cases h
  | s :: ss, sts, C, h => by
    rcases mB_cons h with ⟨i, rfl, h⟩ | ⟨st, rest, rfl, h1, h2⟩
    · exact PSs.imp' (sB ss C h) fun D σ H q => tB_frz q
    · exact PSs.imp' (pss_cons (sS s C h1) (sB ss C h2)) fun D σ H q => tB_cons q
end
end
end Mp
set_option Elab.async false
set_option linter.all false
set_option maxRecDepth 100000
set_option maxHeartbeats 4000000
/-! defs: what the evaluator tells, each def of the text keeps -/
namespace Mp
open PySem L2
section
variable {K : PySem.W.Frag} {O O' Ox : PA'} {σ : St} {H H' : Hp} {e : Env}
theorem merge_len : ∀ (sls : List Sl) (e : Env), (mergeIo sls e).length = sls.length
  | [], e => by cases e <;> rfl
  | s :: r, [] => by cases s <;> simp [mergeIo, merge_len r []]
  | s :: r, t :: e => by cases s <;> simp [mergeIo, merge_len r e]
theorem merge_val : ∀ {sls : List Sl} {e : Env} {i : Nat} {s : Sl}, (mergeIo sls e)[i]? = some s → kd s ≠ 2 → (∀ (j : Nat) (d : D), sls[j]? = some (.io d) → ∃ d', e[j]? = some (.io d')) → sls[i]? = some s
  | [], e, i, s, h, _, _ => by cases e <;> simp [mergeIo] at h
  | s0 :: r, [], 0, s, h, k, hio => by
    cases s0 with
    | io d => obtain ⟨_, z⟩ := hio 0 d rfl; simp at z
    | _ => simpa [mergeIo] using h
  | s0 :: r, t :: e, 0, s, h, k, hio => by
    cases s0 with
    | io d =>
      obtain ⟨d', z⟩ := hio 0 d rfl
      simp at z
      subst z
      simp [mergeIo] at h
      subst h
      exact absurd rfl k
    | _ => simpa [mergeIo] using h
  | s0 :: r, [], i + 1, s, h, k, hio => by
    have h' : (mergeIo r [])[i]? = some s := by cases s0 <;> simpa [mergeIo] using h
    simpa using merge_val h' k fun j d z => by obtain ⟨d', q⟩ := hio (j + 1) d (by simpa using z); simp at q
  | s0 :: r, t :: e, i + 1, s, h, k, hio => by
    have h' : (mergeIo r e)[i]? = some s := by cases s0 <;> simpa [mergeIo] using h
    simpa using merge_val h' k fun j d z => by obtain ⟨d', q⟩ := hio (j + 1) d (by simpa using z); exact ⟨d', by simpa using q⟩
theorem merge_io : ∀ {sls : List Sl} {e : Env} {i : Nat} {d : D}, (mergeIo sls e)[i]? = some (.io d) → (∀ (j : Nat) (d : D), sls[j]? = some (.io d) → ∃ d', e[j]? = some (.io d')) → e[i]? = some (.io d) ∧ ∃ d0, sls[i]? = some (.io d0)
  | [], e, i, d, h, _ => by cases e <;> simp [mergeIo] at h
  | s0 :: r, [], 0, d, h, hio => by
    cases s0 with
    | io d => obtain ⟨_, z⟩ := hio 0 d rfl; simp at z
    | _ => simp [mergeIo] at h
  | s0 :: r, t :: e, 0, d, h, hio => by
    cases s0 with
    | io d0 =>
      simp [mergeIo] at h
      subst h
      exact ⟨rfl, d0, rfl⟩
    | _ => simp [mergeIo] at h
  | s0 :: r, [], i + 1, d, h, hio => by
    have h' : (mergeIo r [])[i]? = some (.io d) := by cases s0 <;> simpa [mergeIo] using h
    obtain ⟨q, d0, z⟩ := merge_io h' fun j d z => by obtain ⟨d', q⟩ := hio (j + 1) d (by simpa using z); simp at q
    simp at q
  | s0 :: r, t :: e, i + 1, d, h, hio => by
    have h' : (mergeIo r e)[i]? = some (.io d) := by cases s0 <;> simpa [mergeIo] using h
    obtain ⟨q, d0, z⟩ := merge_io h' fun j d z => by obtain ⟨d', q⟩ := hio (j + 1) d (by simpa using z); exact ⟨d', by simpa using q⟩
    exact ⟨by simpa using q, d0, by simpa using z⟩
theorem merge_kinds : ∀ {sls : List Sl} {e : Env}, (∀ (j : Nat) (d : D), sls[j]? = some (.io d) → ∃ d', e[j]? = some (.io d')) → kinds (mergeIo sls e) = kinds sls
  | [], e, _ => by cases e <;> rfl
  | s0 :: r, [], hio => by
    have ih := merge_kinds (sls := r) (e := []) fun j d z => by obtain ⟨d', q⟩ := hio (j + 1) d (by simpa using z); simp at q
    cases s0 with
    | io d => obtain ⟨_, z⟩ := hio 0 d rfl; simp at z
    | _ => simp [mergeIo, ih]
  | s0 :: r, t :: e, hio => by
    have ih := merge_kinds (sls := r) (e := e) fun j d z => by obtain ⟨d', q⟩ := hio (j + 1) d (by simpa using z); exact ⟨d', by simpa using q⟩
    cases s0 with
    | io d =>
      obtain ⟨d', z⟩ := hio 0 d rfl
      simp at z
      subst z
      simp [mergeIo, ih, kd]
    | _ => simp [mergeIo, ih]
variable {vs : List V} {sls : List Sl} {m : Nat}
theorem nones_get {i : Nat} {s : Sl} (h : (sls ++ List.replicate m Sl.none)[i]? = some s) (n : s ≠ .none) : sls[i]? = some s := by
  by_cases hi : i < sls.length
  · rwa [List.getElem?_append_left hi] at h
  · rw [List.getElem?_append_right (by omega), List.getElem?_replicate] at h
    split at h
    · cases h; exact absurd rfl n
    · cases h
theorem nones_get' {i : Nat} {s : Sl} (h : sls[i]? = some s) : (sls ++ List.replicate m Sl.none)[i]? = some s := by
  rw [List.getElem?_append_left (List.getElem?_eq_some_iff.mp h).1]
  exact h
theorem st_get {i : Nat} {v : Option V} (h : (vs.map some)[i]? = some v) : (vs.map some ++ List.replicate m none)[i]? = some v := by
  rw [List.getElem?_append_left (List.getElem?_eq_some_iff.mp h).1]
  exact h
theorem st_get' {i : Nat} {v : V} (h : (vs.map some ++ List.replicate m none)[i]? = some (some v)) : (vs.map some)[i]? = some (some v) := by
  by_cases hi : i < (vs.map some).length
  · rwa [List.getElem?_append_left hi] at h
  · rw [List.getElem?_append_right (by omega), List.getElem?_replicate] at h
    split at h <;> cases h
theorem Sim.start (S : Sim K O (vs.map some) H sls) (m : Nat) : Sim K O (vs.map some ++ List.replicate m none) H (sls ++ List.replicate m .none) where
  len := by
    have := S.len
    simp only [List.length_append, List.length_replicate]
    omega
  val := fun i d e => by
    obtain ⟨v, h1, h2⟩ := S.val i d (nones_get e (by simp))
    exact ⟨v, st_get h1, h2⟩
  cel := fun i d e => by
    obtain ⟨a, h1, h2⟩ := S.cel i d (e.imp (fun z => nones_get z (by simp)) fun z => nones_get z (by simp))
    exact ⟨a, st_get h1, h2⟩
  inj := fun i j a s t e1 e2 k1 k2 e3 e4 => by
    have nn : ∀ {t : Sl}, kd t ≠ 0 → t ≠ .none := fun {t} k e => by subst e; exact k rfl
    exact S.inj i j a s t (nones_get e1 (nn k1)) (nones_get e2 (nn k2)) k1 k2 (st_get' e3) (st_get' e4)
  trk := S.trk
theorem mt_start {a : Addr} (h : Mt (vs.map some ++ List.replicate m none) (kinds (sls ++ List.replicate m .none)) a) : Mt (vs.map some) (kinds sls) a := by
  obtain ⟨i, k, h1, h2, h3⟩ := h
  rw [List.getElem?_map] at h1
  cases e : (sls ++ List.replicate m Sl.none)[i]? with
  | none => rw [e] at h1; cases h1
  | some s =>
    rw [e] at h1
    simp at h1
    have n : s ≠ .none := fun z => by subst z; exact h2 h1.symm
    refine ⟨i, k, ?_, h2, st_get' h3⟩
    rw [List.getElem?_map, nones_get e n]
    simp [h1]
/-- at a def's end -/
theorem Fr.back (S : Sim K O (vs.map some) H sls) (no : ∀ s ∈ sls, kd s = 1 → False) (F : Fr K O (vs.map some ++ List.replicate m none) H (sls ++ List.replicate m .none) O' σ H' e) (h1 : ∀ a, O a → Ox a) (h2 : ∀ a, Ox a → O' a) :
    Ext (Mt (vs.map some) (kinds sls)) H H' ∧ kinds (mergeIo sls e) = kinds sls ∧ Sim K Ox (vs.map some) H' (mergeIo sls e) := by
  have hio : ∀ (j : Nat) (d : D), sls[j]? = some (.io d) → ∃ d', e[j]? = some (.io d') := fun j d z => (F.io1 j d (nones_get' z)).1
  have x : Ext (Mt (vs.map some) (kinds sls)) H H' := F.ext.mono fun a m => mt_start m
  have hk := merge_kinds hio
  have xO : Ext Ox H H' := x.mono fun a m => h1 a (S.mtO a m)
  refine ⟨x, hk, ⟨by rw [merge_len]; exact S.len, fun i d z => ?_, fun i d z => ?_, fun i j a s t e1 e2 k1 k2 e3 e4 => ?_, fun a z => F.s.trk a (h2 a z)⟩⟩
  · obtain ⟨v, q1, q2⟩ := S.val i d (merge_val z (by simp [kd]) hio)
    exact ⟨v, q1, rep_ext xO (rep_sub (fun b n z => (F.o b (h2 b z)).resolve_right n) q2)⟩
  · rcases z with z | z
    · exact (no _ (List.mem_of_getElem? (merge_val z (by simp [kd]) hio)) rfl).elim
    · obtain ⟨z1, d0, z0⟩ := merge_io z hio
      obtain ⟨a, q1, q2, q3⟩ := F.s.cel i d (.inr z1)
      obtain ⟨_, q4⟩ := F.io1 i d0 (nones_get' z0)
      rw [q4] at q1
      have q1 := st_get' q1
      obtain ⟨b, w1, w2, _⟩ := S.cel i d0 (.inr z0)
      rw [q1] at w1; cases w1
      exact ⟨a, q1, h1 a w2, cell_sub (fun b _ z => h2 b z) q3⟩
  · obtain ⟨s1, z1, r1⟩ := kinds_at hk.symm e1
    obtain ⟨t1, z2, r2⟩ := kinds_at hk.symm e2
    exact S.inj i j a s1 t1 z1 z2 (by rw [r1]; exact k1) (by rw [r2]; exact k2) e3 e4
end

/-- a def: its name, its text, its slots' names, its small form -/
structure Row where
  x : Str
  st : Stmt
  N : List Str
  df : Df
def scC' (N P : List Str) (sc : Scope) : Bool :=
  decide (sc.kind = .function) && !sc.isCoroutine && !sc.isGenerator && decide N.Nodup && decide (N.take P.length = P) && P.all (fun x => decide (sc.names.lookup x = some .local) || decide (sc.names.lookup x = some .cell)) && sc.names.all (fun y => !decide (y.2 = .free))
theorem fnScope_by' {N P : List Str} {sc : Scope} (h : scC' N P sc = true) : FnScope N P sc := by
  unfold scC' at h
  simp only [Bool.and_eq_true, Bool.not_eq_true', decide_eq_true_eq, List.all_eq_true, Bool.or_eq_true, decide_eq_false_iff_not] at h
  obtain ⟨⟨⟨⟨⟨⟨h1, h2⟩, h3⟩, h4⟩, h5⟩, h6⟩, h7⟩ := h
  exact ⟨h1, h2, h3, h4, h5, h6, h7⟩
/-- the check of a def -/
def okRow (tb : Tb) (r : Row) : Bool := decide (r.df.ns = r.N.length) && decide (r.df.np ≤ r.N.length) && scC' r.N (r.N.take r.df.np) (defScope r.st) && mB tb r.N (defScope r.st) r.df.body (defBody r.st)
/-- what stands behind the top -/
structure GloT (tb : Tb) (cls : Nat → Value) (K : PySem.W.Frag) (mg : Str → Option Value) : Prop where
  bl : ∀ x, tb.bl.contains x = true → mg x = none
  xs : ∀ (i : Nat) (x : Str), tb.xs[i]? = some x → ∃ C bmB B newId initId, ExcBaseFacts B newId initId bmB ∧ PySem.W.excIn K C bmB newId = true ∧ cls i = .ref C ∧ mg x = some (.ref C) ∧ PySem.W.keepIn K (.ref C) = true ∧ PySem.W.subIn K (.ref C) (.type "BaseException") = some true ∧ PySem.W.typeIn K (.ref C) = some (.type "type")
  gl : ∀ x d, tb.gl.lookup x = some d → ∃ u v, mg x = some u ∧ RelV v u ∧ ∀ O H, Rep K O H d v
structure RowOk (K : PySem.W.Frag) (mg : Str → Option Value) (r : Row) : Prop where
  ex : ∃ a fd, mg r.x = some (.ref a) ∧ Fun K r.x r.x r.st a fd ∧ Binds K fd (r.N.take r.df.np) []
section
variable {tb : Tb} {cls : Nat → Value} {P : Program} {w : World} {K : PySem.W.Frag} {mg : Str → Option Value} {base : Heap} {rows : List Row}
theorem E_none {cls : Nat → Value} {f : Nat} {vs : List V} {H : Hp} {Q : VK} {E : XK} {tbl : List Df} (h : spF K cls (run tbl 0) f vs H Q E) : False := by
  obtain ⟨O, sls, _, _, _, z⟩ := h
  exact z
theorem spF_args {tbl : List Df} {n f : Nat} {vs : List V} {H : Hp} {Q : VK} {E : XK} (h : spF K cls (run tbl n) f vs H Q E) : ∃ d, tbl[f / 2]? = some d ∧ vs.length = d.np := by
  obtain ⟨O, sls, S, _, _, z⟩ := h
  cases n with
  | zero => exact z.elim
  | succ n =>
    unfold run at z
    cases q : tbl[f / 2]? with
    | none => simp only [q] at z
    | some d =>
      simp only [q] at z
      refine ⟨d, rfl, ?_⟩
      have hl := S.len
      by_cases c : sls.length = d.np
      · rw [← c, ← hl]; simp
      · rw [if_neg c] at z; exact z.elim
theorem def_body {tbl : List Df} {n f : Nat} {d : Df} {m : Nat} {vs : List V} {H : Hp} {Q : VK} {E : XK} (hd : tbl[f / 2]? = some d) (hm : m = d.ns - d.np) (h : spF K cls (run tbl (n + 1)) f vs H Q E) :
    tB K (fun c d _ H => E c d H) cls (run tbl n) d.body { nx := fun _ H' => Q .non H', rt := Q } (vs.map some ++ List.replicate m none) H := by
  obtain ⟨O, sls, S, no, nn, z⟩ := h
  unfold run at z
  simp only [hd] at z
  by_cases c : sls.length = d.np
  · rw [if_pos c] at z
    rw [← hm] at z
    refine ⟨O, sls ++ List.replicate m .none, S.start m, ?_⟩
    have bk : ∀ {O' : PA'} {σ : St} {H' : Hp} {e : Env} {Ox : PA'}, Fr K O (vs.map some ++ List.replicate m none) H (sls ++ List.replicate m .none) O' σ H' e → (∀ a, O a → Ox a) → (∀ a, Ox a → O' a) → Ext (Mt (vs.map some) (kinds sls)) H H' ∧ kinds (mergeIo sls e) = kinds sls ∧ Sim K Ox (vs.map some) H' (mergeIo sls e) := fun F h1 h2 => F.back S no h1 h2
    have ho : ∀ {O' : PA'} {σ : St} {H' : Hp} {e : Env}, Fr K O (vs.map some ++ List.replicate m none) H (sls ++ List.replicate m .none) O' σ H' e → ∀ a, O a → O' a := fun F a z => (F.sub a z).resolve_right fun ⟨i, d, e, _⟩ => no _ (List.mem_of_getElem? (nones_get e (by simp))) rfl
    cases r : evB (run tbl n) d.body (sls ++ List.replicate m .none) with
    | stuck => rw [r] at z; exact z.elim
    | brk e => rw [r] at z; exact z.elim
    | cnt e => rw [r] at z; exact z.elim
    | exn x e =>
      rw [r] at z
      intro O' σ' H' F
      obtain ⟨q1, q2, q3⟩ := bk F (fun _ z => z) (ho F)
      exact z H' _ q1 q2 rfl q3
    | nxt e =>
      rw [r] at z
      intro O' σ' H' F
      by_cases hf : f % 2 = 0
      · simp only [hf, if_true] at z
        obtain ⟨q1, q2, q3⟩ := bk F (fun _ z => z) (ho F)
        exact z .non H' _ q1 q2 rfl q3 rfl
      · simp only [if_neg hf] at z
    | ret v e =>
      rw [r] at z
      intro O' σ' H' u F rep
      by_cases hf : f % 2 = 0
      · simp only [hf, if_true] at z
        obtain ⟨q1, q2, q3⟩ := bk F (fun _ z => z) (ho F)
        exact z u H' _ q1 q2 rfl q3 (rep_sub (fun a _ q => ho F a q) rep)
      · simp only [if_neg hf] at z
    | retF xs e =>
      rw [r] at z
      intro O' σ' H' a us F oa ha nm ea rep
      by_cases hf : f % 2 = 0
      · simp only [hf, if_true] at z
        obtain ⟨q1, q2, q3⟩ := bk F (fun _ z => z) (ho F)
        exact z (.ref a) H' _ q1 q2 rfl q3 ⟨a, us, rfl, ea, fun q => S.trk a q ha, reps_sub (fun a _ q => ho F a q) rep⟩
      · simp only [if_neg hf] at z
        obtain ⟨q1, q2, q3⟩ := bk (Ox := fun b => O b ∨ b = a) F (fun _ z => .inl z) (fun b z => z.elim (ho F b) fun e => by rw [e]; exact oa)
        exact z xs a us H' _ rfl ha q1 q2 rfl q3 ea (reps_sub (fun b _ z => z.elim (ho F b) fun e => by rw [e]; exact oa) rep)
  · rw [if_neg c] at z; exact z.elim
/-- one def, the others behind it -/
theorem def_ok {n : Nat} {f : Nat} {r : Row} {a : Addr} {fd : FuncData} (G : GloT tb cls K mg) (hck : rows.all (okRow tb) = true) (q : rows[f / 2]? = some r) (h2 : Fun K r.x r.x r.st a fd)
    (ih : ∀ (f : Nat) (x : Str), tb.fn[f / 2]? = some x → ∃ a fd ps, mg x = some (.ref a) ∧ PySem.W.keepIn K (.ref a) = true ∧ Binds K fd ps [] ∧ FnOk P w K mg base (L2.CX P w) n a fd ps (spF K cls (run (rows.map (·.df)) n) f)) :
    FnOk P w K mg base (L2.CX P w) (n + 1) a fd (r.N.take r.df.np) (spF K cls (run (rows.map (·.df)) (n + 1)) f) := by
  have ck := List.all_eq_true.mp hck r (List.mem_of_getElem? q)
  unfold okRow at ck
  simp only [Bool.and_eq_true, decide_eq_true_eq] at ck
  obtain ⟨⟨⟨c1, c2⟩, c3⟩, c4⟩ := ck
  have S := fnScope_by' c3
  have hd : (rows.map (·.df))[f / 2]? = some r.df := by rw [List.getElem?_map, q]; rfl
  have lenP : (r.N.take r.df.np).length = r.df.np := by rw [List.length_take]; omega
  have hlen : ∀ vs H Q E, spF K cls (run (rows.map (·.df)) (n + 1)) f vs H Q E → vs.length = r.df.np := fun vs H Q E z => by
    obtain ⟨d, z1, z2⟩ := spF_args z
    rw [hd] at z1; cases z1
    exact z2
  refine Fun.okX h2 S (fun vs H Q E z => by rw [lenP]; exact hlen vs H Q E z) fun cdv A outer s H vs Q E hroom z => ?_
  refine ⟨_, sB (tb := tb) (cls := cls) (cf := run (rows.map (·.df)) n) (n := n) (N := r.N) (sc := defScope r.st) (W := fun c d _ H => E c d H) r.df.body ?_ c4, ?_⟩
  · exact ⟨⟨rfl, S.nd, rfl, rfl, hroom, takes_of rfl rfl rfl rfl, passes_of rfl, ⟨ih, G.bl, G.xs, G.gl⟩⟩, fun _ => rfl⟩
  · have := hlen vs H Q E z
    have e1 : L2.start r.N vs = vs.map some ++ List.replicate (r.df.ns - r.df.np) none := by
      unfold L2.start
      rw [this, c1]
    rw [e1]
    exact def_body hd rfl z
theorem defs_ok (G : GloT tb cls K mg) (hfn : tb.fn = rows.map (·.x)) (hck : rows.all (okRow tb) = true) (hr : ∀ r ∈ rows, RowOk K mg r) : ∀ n, ∀ (f : Nat) (x : Str), tb.fn[f / 2]? = some x →
    ∃ a fd ps, mg x = some (.ref a) ∧ PySem.W.keepIn K (.ref a) = true ∧ Binds K fd ps [] ∧ FnOk P w K mg base (L2.CX P w) n a fd ps (spF K cls (run (rows.map (·.df)) n) f)
  | 0, f, x, h => by
    rw [hfn, List.getElem?_map] at h
    cases q : rows[f / 2]? with
    | none => rw [q] at h; cases h
    | some r =>
      rw [q] at h
      cases h
      obtain ⟨a, fd, h1, h2, h3⟩ := (hr r (List.mem_of_getElem? q)).ex
      exact ⟨a, fd, _, h1, h2.kp, h3, fun vs H Q E z => (E_none z).elim, fun A outer s H args us vs Q E _ _ _ _ z => (E_none z).elim⟩
  | n + 1, f, x, h => by
    have ih := defs_ok G hfn hck hr n
    rw [hfn, List.getElem?_map] at h
    cases q : rows[f / 2]? with
    | none => rw [q] at h; cases h
    | some r =>
      rw [q] at h
      cases h
      obtain ⟨a, fd, h1, h2, h3⟩ := (hr r (List.mem_of_getElem? q)).ex
      exact ⟨a, fd, _, h1, h2.kp, h3, def_ok G hck q h2 ih⟩
/-! ### the law -/
def spLaw (K : PySem.W.Frag) : Sp := fun vs H Q _ => ∃ (a : Addr) (ns : List Int), vs = [.ref a] ∧ SqL K H a (ns.map V.int) ∧ ns.length ≤ 63 ∧ ∀ H', Q (.bl true) H'
theorem sp_law {cf : CallF} {f : Nat} (hf : f % 2 = 0) (pl : ∀ ns : List Int, ns.length ≤ 63 → ∃ outs, cf f [.val (.scr ns)] = .ok (.bl true) outs) {vs : List V} {H : Hp} {Q : VK} {E : XK} (h : spLaw K vs H Q E) : spF K cls cf f vs H Q E := by
  obtain ⟨a, ns, rfl, hs, hl, q⟩ := h
  obtain ⟨outs, e⟩ := pl ns hl
  refine ⟨fun _ => False, [.val (.scr ns)], ⟨rfl, fun i d z => ?_, fun i d z => ?_, fun i j b s t z1 z2 k1 k2 _ _ => ?_, fun _ z => z.elim⟩, fun s hs k => ?_, fun s hs k => ?_, ?_⟩
  · cases i with
    | succ i => simp at z
    | zero =>
      simp at z
      subst z
      refine ⟨.ref a, rfl, a, rfl, ?_⟩
      rcases hs with hs | hs
      · exact .inl ⟨hs, id⟩
      · exact .inr (.inr hs)
  · cases i with
    | succ i => simp at z
    | zero => simp at z
  · cases i with
    | succ i => simp at z1
    | zero =>
      simp at z1
      subst z1
      exact absurd rfl k1
  · simp at hs; subst hs; simp [kd] at k
  · simp at hs; subst hs; cases k
  · rw [e]
    simp only [hf, if_true]
    intro v H' sls' _ _ _ _ r
    cases r
    exact q H'
theorem no_out (H : Hp) (s : Shared) (e : Value) (s' : Shared) (h : L2.CX P w [] H s (fun _ _ _ => False) e s') : False := by
  obtain ⟨_, _, _, _, _, _, _, _, _, _, _, _, z⟩ := h
  exact z
theorem law_ok {n i : Nat} {r : Row} {a : Addr} {fd : FuncData} (G : GloT tb cls K mg) (hfn : tb.fn = rows.map (·.x)) (hck : rows.all (okRow tb) = true) (hr : ∀ r ∈ rows, RowOk K mg r) (q : rows[i]? = some r) (h2 : Fun K r.x r.x r.st a fd)
    (pl : ∀ ns : List Int, ns.length ≤ 63 → ∃ outs, run (rows.map (·.df)) (n + 1) (2 * i) [.val (.scr ns)] = .ok (.bl true) outs) : FnOk P w K mg base (L2.CX P w) (n + 1) a fd (r.N.take r.df.np) (spLaw K) :=
  (def_ok G hck (f := 2 * i) (by rw [Nat.mul_div_cancel_left _ (by decide)]; exact q) h2 (defs_ok G hfn hck hr n)).imp fun vs H Q E z => sp_law (by omega) pl z
end
end Mp
set_option Elab.async false
set_option linter.all false
set_option maxRecDepth 100000
set_option maxHeartbeats 4000000
/-! plain Lean about the evaluator: loops, the draws of a law -/
namespace Mp
open PySem
/-- how a def ends -/
def fin (f : Nat) (args : List Sl) (r : SR) : CR := match r with
  | .ret v e => if f % 2 = 0 then .ok v (outsOf (mergeIo args e)) else .stuck
  | .retF v e => .ok (.lst v) (outsOf (mergeIo args e))
  | .nxt e => if f % 2 = 0 then .ok .non (outsOf (mergeIo args e)) else .stuck
  | .exn x e => .exn x (outsOf (mergeIo args e))
  | _ => .stuck
theorem run_eq {tbl : List Df} {n f : Nat} {args : List Sl} {d : Df} (h : tbl[f / 2]? = some d) (hl : args.length = d.np) : run tbl (n + 1) f args = fin f args (evB (run tbl n) d.body (args ++ List.replicate (d.ns - d.np) .none)) := by
  conv => lhs; unfold run
  simp only [h, if_pos hl]
  rfl
theorem forGo_ind {step : D → Env → SR} (I : List D → Env → Prop) (hs : ∀ d ds e, I (d :: ds) e → ∃ e', (step d e = .nxt e' ∨ step d e = .cnt e') ∧ I ds e') : ∀ (ds : List D) (e : Env), I ds e → ∃ e', forGo step ds e = .nxt e' ∧ I [] e'
  | [], e, h => ⟨e, rfl, h⟩
  | d :: ds, e, h => by
    obtain ⟨e1, h1, h2⟩ := hs d ds e h
    obtain ⟨e2, h3, h4⟩ := forGo_ind I hs ds e1 h2
    refine ⟨e2, ?_, h4⟩
    unfold forGo
    rcases h1 with h1 | h1 <;> rw [h1] <;> exact h3
theorem compGo_ind {step : D → Env → R (Option D)} (I : List D → List D → Env → Prop) (hl : ∀ ds acc e, I ds acc e → acc.length + ds.length ≤ 16777216) (hs : ∀ d ds acc e, I (d :: ds) acc e → ∃ o e', step d e = .ok o e' ∧ I ds (acc ++ o.toList) e') : ∀ (ds acc : List D) (e : Env), I ds acc e → ∃ ys e', compGo step ds acc e = .ok ys e' ∧ I [] ys e'
  | [], acc, e, h => ⟨acc, e, rfl, h⟩
  | d :: ds, acc, e, h => by
    obtain ⟨o, e1, h1, h2⟩ := hs d ds acc e h
    obtain ⟨ys, e2, h3, h4⟩ := compGo_ind I hl hs ds _ e1 h2
    refine ⟨ys, e2, ?_, h4⟩
    unfold compGo
    rw [h1]
    have := hl _ _ _ h
    simp only [List.length_cons] at this
    cases o with
    | none => simpa using h3
    | some y => simpa [show acc.length < 16777216 by omega] using h3
theorem forGo_cons {step : D → Env → SR} {d : D} {ds : List D} {e e' : Env} (h : step d e = .nxt e') : forGo step (d :: ds) e = forGo step ds e' := by
  conv => lhs; unfold forGo
  rw [h]
theorem forGo_nil {step : D → Env → SR} {e : Env} : forGo step [] e = .nxt e := rfl
/-! ### numbers -/
theorem mul_l {i j : Int} (h1 : -18446744073709551616 < i) (h2 : i < 18446744073709551616) : mulOk i j = true := by
  unfold mulOk
  have : i.natAbs < 18446744073709551616 := by omega
  simp [this]
theorem mul_r {i j : Int} (h1 : -18446744073709551616 < j) (h2 : j < 18446744073709551616) : mulOk i j = true := by
  unfold mulOk
  have : j.natAbs < 18446744073709551616 := by omega
  simp [this]
theorem log_lt {n k : Nat} (h : n < 2 ^ k) (hk : 0 < k) : n.log2 < k := by
  by_cases h0 : n = 0
  · subst h0; simpa using hk
  · exact (Nat.log2_lt h0).mpr h
theorem mul_b {i j : Int} (h1 : i.natAbs < 2 ^ 400) (h2 : j.natAbs < 2 ^ 400) : mulOk i j = true := by
  unfold mulOk
  have := log_lt h1 (by decide)
  have := log_lt h2 (by decide)
  have e : decide (i.natAbs.log2 + j.natAbs.log2 < 1000000) = true := decide_eq_true (by omega)
  rw [e]
  rfl
theorem pv_mul {i j : Int} (h : mulOk i j = true) : pev (.bin .Mult) [.int i, .int j] = some (.int (i * j)) := by
  show (if mulOk i j then some (D.int (i * j)) else none) = _
  rw [if_pos h]
theorem pv_mod {i j : Int} (h : 0 < j) : pev (.bin .Mod) [.int i, .int j] = some (.int (i % j)) := by
  show (if 0 < j then some (D.int (i % j)) else none) = _
  rw [if_pos h]
theorem pv_div {i j : Int} (h1 : 0 < j) (h2 : j < 1073741824) : pev (.bin .FloorDiv) [.int i, .int j] = some (.int (i / j)) := by
  show (if divOk j then some (D.int (i / j)) else none) = _
  rw [if_pos (by unfold divOk; simp [h1, h2])]
theorem pv_add {i j : Int} : pev (.bin .Add) [.int i, .int j] = some (.int (i + j)) := rfl
theorem pv_sub {i j : Int} : pev (.bin .Sub) [.int i, .int j] = some (.int (i - j)) := rfl
theorem pv_int {i : Int} : pev (.call .int) [.int i] = some (.int i) := rfl
theorem pv_lt {i j : Int} : pev (.cmp .Lt) [.int i, .int j] = some (.bl (decide (i < j))) := rfl
theorem pv_gt {i j : Int} : pev (.cmp .Gt) [.int i, .int j] = some (.bl (decide (j < i))) := rfl
theorem pv_le {i j : Int} : pev (.cmp .LtE) [.int i, .int j] = some (.bl (decide (i ≤ j))) := rfl
theorem pv_ge {i j : Int} : pev (.cmp .GtE) [.int i, .int j] = some (.bl (decide (j ≤ i))) := rfl
/-! ### the draws -/
def cupBody (a b c d e : Int) : List S := [.set (.name 1) (.prim (.call .abs) [(.prim .idx [(.prim (.bin .Add) [(.prim (.call .list) [(.var 0)]), (.prim .lst [(.con (.int 0))])]), (.con (.int 0))])]), .retF (.prim .lst [(.ife (.prim (.cmp .GtE) [(.var 1), (.prim (.bin .Pow) [(.con (.int 10)), (.con (.int 18))])]) (.prim (.bin .FloorDiv) [(.var 1), (.con (.int a))]) (.con (.int 0))), (.prim (.bin .Add) [(.prim (.bin .Mod) [(.prim (.call .int) [(.prim (.bin .Add) [(.prim (.bin .Mult) [(.var 1), (.con (.int b))]), (.con (.int c))])]), (.con (.int d))]), (.con (.int e))])])]
def rollBody (a b c d : Int) : List S := [.ifs (.prim (.cmp .Gt) [(.prim .idx [(.peek 0), (.con (.int 0))]), (.con (.int 0))]) [.set (.name 2) (.prim (.bin .Mod) [(.prim (.call .int) [(.prim .idx [(.peek 0), (.con (.int 0))])]), (.var 1)]), .store 0 (.con (.int 0)) (.prim (.bin .FloorDiv) [(.prim .idx [(.peek 0), (.con (.int 0))]), (.var 1)]), .ret (some (.var 2))] [], .store 0 (.con (.int 1)) (.prim (.bin .Mod) [(.prim (.call .int) [(.prim (.bin .Add) [(.prim (.bin .Mult) [(.prim .idx [(.peek 0), (.con (.int 1))]), (.con (.int a))]), (.con (.int b))])]), (.con (.int 2147483399))]), .set (.name 3) (.prim (.bin .Mod) [(.prim (.call .int) [(.prim (.bin .Mult) [(.prim .idx [(.peek 0), (.con (.int 1))]), (.prim (.bin .Add) [(.prim .idx [(.peek 0), (.con (.int 1))]), (.con (.int c))])])]), (.con (.int 2147483563))]), .ret (some (.prim (.bin .Mod) [(.prim (.call .int) [(.prim (.bin .FloorDiv) [(.var 3), (.con (.int d))])]), (.var 1)]))]
/-- a cup -/
def Cup (d : D) : Prop := ∃ a b : Int, d = .lst [.int a, .int b] ∧ 0 ≤ a ∧ 0 ≤ b ∧ b < 4294967296
theorem ix0 {a b : D} : pev .idx [.lst [a, b], .int 0] = some a := rfl
theorem ix1 {a b : D} : pev .idx [.lst [a, b], .int 1] = some b := rfl
theorem roll_ok {tbl : List Df} {n f : Nat} {a b c d : Int} (h : tbl[f / 2]? = some ⟨2, 4, rollBody a b c d⟩) (hf : f % 2 = 0) (ha : 0 ≤ a ∧ a < 1073741824) (hb : 0 ≤ b) (hc : 0 ≤ c) (hd : 0 < d ∧ d < 1073741824)
    {cup : D} (hcup : Cup cup) {m : Int} (hm : 0 < m) (hm2 : m < 1073741824) : ∃ r cup', run tbl (n + 1) f [.io cup, .val (.int m)] = .ok (.int r) [cup'] ∧ 0 ≤ r ∧ r < m ∧ Cup cup' := by
  obtain ⟨x, y, rfl, hx, hy, hy2⟩ := hcup
  rw [run_eq h rfl]
  unfold rollBody
  by_cases h0 : 0 < x
  · refine ⟨x % m, .lst [.int (x / m), .int y], ?_, Int.emod_nonneg _ (by omega), Int.emod_lt_of_pos _ hm, _, _, rfl, Int.ediv_nonneg hx (by omega), hy, hy2⟩
    simp [evB, evS, evE, evA, rd, rds, ix0, pv_gt, ofOpt, truthR, truth, h0, asg, put, pv_int, pv_mod hm, pv_div hm hm2, ofOptS, okMut, isMut, storeEv, ixN, reset, fin, hf, mergeIo, outsOf]
  · have hx0 : x = 0 := by omega
    subst hx0
    have b1 := Int.emod_nonneg (y * a + b) (show (2147483399 : Int) ≠ 0 by decide)
    have b2 := Int.emod_lt_of_pos (y * a + b) (show (0 : Int) < 2147483399 by decide)
    have m1 : mulOk y a = true := mul_l (by omega) (by omega)
    have m2 : ∀ z, mulOk ((y * a + b) % 2147483399) z = true := fun z => mul_l (by omega) (by omega)
    refine ⟨_, .lst [.int 0, .int ((y * a + b) % 2147483399)], ?_, Int.emod_nonneg (((y * a + b) % 2147483399 * ((y * a + b) % 2147483399 + c)) % 2147483563 / d) (show m ≠ 0 by omega), Int.emod_lt_of_pos _ hm, _, _, rfl, Int.le_refl _, b1, by omega⟩
    simp [evB, evS, evE, evA, rd, rds, ix0, ix1, pv_gt, ofOpt, truthR, truth, asg, put, pv_int, pv_mod hm, pv_mod (show (0 : Int) < 2147483399 by decide), pv_mod (show (0 : Int) < 2147483563 by decide), pv_div hd.1 hd.2, pv_mul m1, pv_mul (m2 _), pv_add, ofOptS, okMut, isMut, storeEv, ixN, reset, fin, hf, mergeIo, outsOf]
theorem cup_ok {tbl : List Df} {n f : Nat} {a b c d e : Int} (h : tbl[f / 2]? = some ⟨1, 2, cupBody a b c d e⟩) (ha : 0 < a ∧ a < 1073741824) (hb : 0 ≤ b ∧ b < 1073741824) (hd : 0 < d ∧ d < 2147483648) (he : 0 ≤ e ∧ e < 1073741824)
    {ns : List Int} (hn : ns.length ≤ 63) : ∃ cup, run tbl (n + 1) f [.val (.scr ns)] = .ok cup [] ∧ Cup cup := by
  rw [run_eq h rfl]
  unfold cupBody
  obtain ⟨x, rest, e1⟩ : ∃ x rest, (ns.map D.int) ++ [D.int 0] = D.int x :: rest := by
    cases ns with
    | nil => exact ⟨0, [], rfl⟩
    | cons x r => exact ⟨x, r.map D.int ++ [D.int 0], rfl⟩
  have h1 : pev (.call .list) [.scr ns] = some (.lst (ns.map D.int)) := rfl
  have h2 : pev (.bin .Add) [.lst (ns.map D.int), .lst [.int 0]] = some (.lst (D.int x :: rest)) := by
    show lenOk _ _ = _
    unfold lenOk
    rw [e1]
    exact if_pos (by simp; omega)
  have h3 : pev .idx [.lst (D.int x :: rest), .int 0] = some (.int x) := by
    show getIx (D.int x :: rest) 0 = _
    unfold getIx ixN
    simp
  have h4 : pev (.call .abs) [.int x] = some (.int (if x < 0 then -x else x)) := rfl
  generalize hcell : (if x < 0 then -x else x) = cell at h4
  have c0 : 0 ≤ cell := by
    subst hcell
    split <;> omega
  have h5 : pev (.bin .Pow) [.int 10, .int 18] = some (.int 1000000000000000000) := by
    show (if (0 : Int) ≤ 18 ∧ (18 : Int) ≤ 1000 ∧ (10 : Int).natAbs < 18446744073709551616 then some (D.int (10 ^ (18 : Int).toNat)) else none) = _
    rw [if_pos (by decide)]
    rfl
  have m1 : mulOk cell b = true := mul_r (by omega) (by omega)
  have b1 := Int.emod_nonneg (cell * b + c) (show d ≠ 0 by omega)
  have b2 := Int.emod_lt_of_pos (cell * b + c) hd.1
  have hl : ∀ p q : D, pev .lst [p, q] = some (.lst [p, q]) := fun _ _ => rfl
  have hl1 : ∀ p : D, pev .lst [p] = some (.lst [p]) := fun _ => rfl
  by_cases hx : 1000000000000000000 ≤ cell
  · refine ⟨.lst [.int (cell / a), .int ((cell * b + c) % d + e)], ?_, _, _, rfl, Int.ediv_nonneg c0 (by omega), by omega, by omega⟩
    simp [evB, evS, evE, evA, rd, rds, h1, h2, h3, h4, h5, pv_ge, ofOpt, truthR, truth, hx, asg, put, pv_int, pv_mod hd.1, pv_div ha.1 ha.2, pv_mul m1, pv_add, ofOptS, fin, mergeIo, outsOf, isFresh, hl, hl1]
  · refine ⟨.lst [.int 0, .int ((cell * b + c) % d + e)], ?_, _, _, rfl, Int.le_refl _, by omega, by omega⟩
    simp [evB, evS, evE, evA, rd, rds, h1, h2, h3, h4, h5, pv_ge, ofOpt, truthR, truth, hx, asg, put, pv_int, pv_mod hd.1, pv_div ha.1 ha.2, pv_mul m1, pv_add, ofOptS, fin, mergeIo, outsOf, isFresh, hl, hl1]
end Mp
set_option Elab.async false
set_option linter.all false
set_option maxRecDepth 100000
set_option maxHeartbeats 4000000
/-! comprehensions, in plain Lean -/
namespace Mp
open PySem
def stepW (cf : CallF) (tg : Tg) (cnd : List E) (elt : E) (w : Env) (d : D) : R (Option D) := match asg w tg d with
  | some e1 => (evC cf cnd e1).bind fun b e2 => if b then (evE cf elt e2).bind fun y e3 => .ok (some y) e3 else .ok none e2
  | none => .stuck
theorem step_w {cf : CallF} {own : List Nat} {tg : Tg} {cnd : List E} {elt : E} {d : D} {e : Env} : compStep cf own tg cnd elt d e = stepW cf tg cnd elt (wipe e own) d := rfl
theorem unwipe_w {old e : Env} {own : List Nat} (hl : e.length = old.length) (h : ∀ v ∈ own, ∃ s, old[v]? = some s) : unwipe old e own = unwipe old (wipe e own) own := by
  apply List.ext_getElem?
  intro j
  by_cases hj : j ∈ own
  · obtain ⟨s, e1⟩ := h j hj
    rw [unwipe_at hl e1 hj, unwipe_at (by rw [wipe_len]; exact hl) e1 hj]
  · rw [unwipe_get hj, unwipe_get hj, wipe_get hj]
/-- a comprehension, by an invariant over what is left, what is told, and the slots (the block's own forgotten) -/
theorem comp_ind {cf : CallF} {own : List Nat} {tg : Tg} {k : ItK} {src cnd : List E} {elt : E} {env env1 : Env} {avs : List AV} {ds items : List D} (I : List D → List D → Env → Prop)
    (h1 : evA cf src env = .ok avs env1) (h2 : rds env1 avs = some ds) (h3 : itEv k ds = some items) (hp : (plainAt env1 own && tgIn own tg) = true)
    (h0 : I items [] (wipe env1 own)) (hl : items.length ≤ 16777216) (hlen : ∀ ds acc w, I ds acc w → w.length = env1.length) (hs : ∀ d ds acc w, I (d :: ds) acc w → ∃ o e', stepW cf tg cnd elt w d = .ok o e' ∧ I ds (acc ++ o.toList) (wipe e' own)) :
    ∃ ys w, evE cf (.comp own tg k src cnd elt) env = .ok (.lst ys) (unwipe env1 w own) ∧ I [] ys w := by
  have hi : evIt cf k src env = .ok items env1 := by
    unfold evIt
    rw [h1]
    simp only [R.bind_ok, h2, h3, ofOpt]
  obtain ⟨ys, e2, g1, g2⟩ := compGo_ind (step := compStep cf own tg cnd elt) (fun ds acc e => I ds acc (wipe e own) ∧ acc.length + ds.length ≤ 16777216) (fun _ _ _ h => h.2)
    (fun d ds acc e h => by
      obtain ⟨o, e', q1, q2⟩ := hs d ds acc _ h.1
      refine ⟨o, e', by rw [step_w]; exact q1, q2, ?_⟩
      have := h.2
      simp only [List.length_cons] at this
      cases o <;> simp <;> omega) items [] env1 ⟨h0, by simpa using hl⟩
  refine ⟨ys, wipe e2 own, ?_, g2.1⟩
  rw [evE_comp, hi]
  simp only [R.bind_ok]
  rw [if_pos hp, g1]
  have hl2 := hlen _ _ _ g2.1
  rw [wipe_len] at hl2
  simp only [Bool.and_eq_true] at hp
  rw [← unwipe_w hl2 fun v hv => by obtain ⟨s, e, _⟩ := plainAt_of hp.1 v hv; exact ⟨s, e⟩]
  rfl
theorem unwipe_self {env : Env} {own : List Nat} (h : ∀ v ∈ own, ∃ s, env[v]? = some s) : unwipe env (wipe env own) own = env := by
  apply List.ext_getElem?
  intro j
  by_cases hj : j ∈ own
  · obtain ⟨s, e⟩ := h j hj
    rw [unwipe_at (wipe_len _ _) e hj, e]
  · rw [unwipe_get hj, wipe_get hj]
/-- one that changes no slot -/
theorem comp_pure {cf : CallF} {own : List Nat} {tg : Tg} {k : ItK} {src cnd : List E} {elt : E} {env env1 : Env} {avs : List AV} {ds items : List D} (g : D → Option D)
    (h1 : evA cf src env = .ok avs env1) (h2 : rds env1 avs = some ds) (h3 : itEv k ds = some items) (hp : (plainAt env1 own && tgIn own tg) = true) (hl : items.length ≤ 16777216)
    (hs : ∀ d ∈ items, ∃ e', stepW cf tg cnd elt (wipe env1 own) d = .ok (g d) e' ∧ wipe e' own = wipe env1 own) : evE cf (.comp own tg k src cnd elt) env = .ok (.lst (items.filterMap g)) env1 := by
  obtain ⟨ys, w, q1, dn, q2, q3, q4⟩ := comp_ind (fun ds acc w => ∃ dn, items = dn ++ ds ∧ acc = dn.filterMap g ∧ w = wipe env1 own) h1 h2 h3 hp ⟨[], rfl, rfl, rfl⟩ hl (fun _ _ _ ⟨_, _, _, e⟩ => by rw [e, wipe_len])
    (fun d ds acc w ⟨dn, e1, e2, e3⟩ => by
      subst e2 e3
      obtain ⟨e', q1, q2⟩ := hs d (by rw [e1]; simp)
      refine ⟨g d, e', q1, dn ++ [d], by rw [e1]; simp, ?_, q2⟩
      rw [List.filterMap_append]
      congr 1)
  subst q4 q3
  simp only [Bool.and_eq_true] at hp
  rw [q1, unwipe_self fun v hv => by obtain ⟨s, e, _⟩ := plainAt_of hp.1 v hv; exact ⟨s, e⟩]
  rw [List.append_nil] at q2
  rw [q2]
theorem filterMap_some {α β : Type} (f : α → β) (l : List α) : l.filterMap (fun x => some (f x)) = l.map f := by
  induction l with
  | nil => rfl
  | cons x l ih => simp [ih]
/-- a loop, by what is walked -/
theorem for_eq {cf : CallF} {t : Tg} {k : ItK} {src : List E} {body : List S} {env env1 : Env} {avs : List AV} {ds items : List D} (h1 : evA cf src env = .ok avs env1) (h2 : rds env1 avs = some ds) (h3 : itEv k ds = some items) :
    evS cf (.for t k src body) env = forGo (fun d e => (ofOptS (asg e t d)).then fun e1 => evB cf body e1) items env1 := by
  conv => lhs; unfold evS
  rw [h1]
  simp only [R.toS_ok, h2, h3]
/-- while, by a measure under the fuel -/
theorem while_ind {c : Env → R Bool} {b : Env → SR} (I : Nat → Env → Prop) (Q : Env → Prop) (hs : ∀ m e, I m e → (∃ e1, c e = .ok false e1 ∧ Q e1) ∨ ∃ e1 e2 m', c e = .ok true e1 ∧ (b e1 = .nxt e2 ∨ b e1 = .cnt e2) ∧ m' < m ∧ I m' e2) :
    ∀ (fuel m : Nat) (e : Env), I m e → m < fuel → ∃ e', whileGo c b fuel e = .nxt e' ∧ Q e'
  | 0, _, _, _, h => by omega
  | fuel + 1, m, e, hi, h => by
    unfold whileGo
    rcases hs m e hi with ⟨e1, h1, h2⟩ | ⟨e1, e2, m', h1, h2, h3, h4⟩
    · exact ⟨e1, by rw [h1]; rfl, h2⟩
    · obtain ⟨e', q1, q2⟩ := while_ind I Q hs fuel m' e2 h4 (by omega)
      refine ⟨e', ?_, q2⟩
      rw [h1]
      rcases h2 with h2 | h2 <;> simp [h2, q1]
theorem while_eq {cf : CallF} {c : E} {body : List S} {env : Env} : evS cf (.while c body) env = whileGo (fun e => truthR (evE cf c e)) (fun e => evB cf body e) 1000000000 env := by
  conv => lhs; unfold evS
/-- a slot that may be stored -/
def Vl (x : Sl) : Prop := x = .none ∨ ∃ d, x = .val d
theorem Vl.non : Vl .none := .inl rfl
theorem Vl.val (d : D) : Vl (.val d) := .inr ⟨d, rfl⟩
end Mp
set_option Elab.async false
set_option linter.all false
set_option maxRecDepth 100000
set_option maxHeartbeats 4000000
/-! the evaluator's steps as rules of simp; comprehensions and loops left out -/
namespace Mp
open PySem
variable {cf : CallF} {env : Env}
@[simp] theorem ev_var {i : Nat} : evE cf (.var i) env = match env[i]? with
    | some (.val d) => .ok d env
    | _ => .stuck := by
  (conv => lhs; unfold evE)
  first | done | rfl
@[simp] theorem ev_con {d : D} : evE cf (.con d) env = .ok d env := by
  (conv => lhs; unfold evE)
  first | done | rfl
@[simp] theorem ev_glob {x : Str} {d : D} : evE cf (.glob x d) env = .ok d env := by
  (conv => lhs; unfold evE)
  first | done | rfl
@[simp] theorem ev_prim {s : Sh} {es : List E} : evE cf (.prim s es) env = (evA cf es env).bind fun avs env1 => match rds env1 avs with
    | some ds => ofOpt (pev s ds) env1
    | none => .stuck := by
  (conv => lhs; unfold evE)
  first | done | rfl
@[simp] theorem ev_call {f : Nat} {es : List E} : evE cf (.call f es) env = (evA cf es env).bind fun avs env1 => match hand env1 avs with
    | some sls => if nodupB (ioOf env1 avs) then match cf f sls with
      | .ok d outs => (match back env1 (ioOf env1 avs) outs with | some env2 => .ok d env2 | none => .stuck)
      | .exn x outs => (match back env1 (ioOf env1 avs) outs with | some env2 => .exn x env2 | none => .stuck)
      | .stuck => .stuck
      else .stuck
    | none => .stuck := by
  (conv => lhs; unfold evE)
  first | done | rfl
@[simp] theorem ev_ife {c a b : E} : evE cf (.ife c a b) env = (evE cf c env).bind fun d env1 => match truth d with
    | some true => evE cf a env1
    | some false => evE cf b env1
    | none => .stuck := by
  (conv => lhs; unfold evE)
  first | done | rfl
@[simp] theorem ev_bop {k : Bool} {es : List E} : evE cf (.bop k es) env = evL cf k es env := by
  (conv => lhs; unfold evE)
  first | done | rfl
@[simp] theorem ev_neg {e : E} : evE cf (.neg e) env = (evE cf e env).bind fun d env1 => match truth d with
    | some b => .ok (.bl (!b)) env1
    | none => .stuck := by
  (conv => lhs; unfold evE)
  first | done | rfl
@[simp] theorem evA_nil' : evA cf [] env = .ok [] env := by unfold evA; rfl
@[simp] theorem evA_cons' {e : E} {es : List E} : evA cf (e :: es) env = match e with
    | .peek i => (match rd env (.slot i) with
      | some _ => (evA cf es env).bind fun avs env1 => .ok (.slot i :: avs) env1
      | none => .stuck)
    | e => (evE cf e env).bind fun d env1 => (evA cf es env1).bind fun avs env2 => .ok (.val d :: avs) env2 := by
  (conv => lhs; unfold evA)
  first | done | rfl
@[simp] theorem evL_one' {k : Bool} {e : E} : evL cf k [e] env = evE cf e env := evL_one
@[simp] theorem evL_cons' {k : Bool} {e e2 : E} {es : List E} : evL cf k (e :: e2 :: es) env = (evE cf e env).bind fun d env1 => match truth d with
    | some b => if b = k then evL cf k (e2 :: es) env1 else .ok d env1
    | none => .stuck := evL_cons
@[simp] theorem evC_nil' : evC cf [] env = .ok true env := by unfold evC; rfl
@[simp] theorem evC_one {e : E} : evC cf [e] env = (evE cf e env).bind fun d env1 => match truth d with
    | some b => .ok b env1
    | none => .stuck := by
  unfold evC
  cases evE cf e env with
  | ok d e1 => simp only [R.bind_ok]; cases truth d <;> rfl
  | exn x e1 => rfl
  | stuck => rfl
@[simp] theorem evB_nil' : evB cf [] env = .nxt env := by unfold evB; rfl
@[simp] theorem evB_cons' {s : S} {ss : List S} : evB cf (s :: ss) env = (evS cf s env).then fun e => evB cf ss e := by
  (conv => lhs; unfold evB)
  first | done | rfl
@[simp] theorem evS_set {t : Tg} {e : E} : evS cf (.set t e) env = (evE cf e env).toS fun d env1 => ofOptS (asg env1 t d) := by
  (conv => lhs; unfold evS)
  first | done | rfl
@[simp] theorem evS_own {i : Nat} {e : E} : evS cf (.own i e) env = if isFresh e then (evE cf e env).toS fun d env1 => match d with
    | .lst xs => ofOptS (put env1 i (.own (.lst xs)))
    | _ => .stuck
    else .stuck := by
  (conv => lhs; unfold evS)
  first | done | rfl
@[simp] theorem evS_par {is : List Nat} {es : List E} : evS cf (.par is es) env = (evA cf es env).toS fun avs env1 => match rds env1 avs with
    | some ds => ofOptS (asgN env1 is ds)
    | none => .stuck := by
  (conv => lhs; unfold evS)
  first | done | rfl
@[simp] theorem evS_expr {e : E} : evS cf (.expr e) env = (evE cf e env).toS fun _ env1 => .nxt env1 := by
  (conv => lhs; unfold evS)
  first | done | rfl
@[simp] theorem evS_retN : evS cf (.ret none) env = .ret .non env := by unfold evS; rfl
@[simp] theorem evS_ret {e : E} : evS cf (.ret (some e)) env = (evE cf e env).toS fun d env1 => .ret d env1 := by
  (conv => lhs; unfold evS)
  first | done | rfl
@[simp] theorem evS_if {c : E} {a b : List S} : evS cf (.ifs c a b) env = (truthR (evE cf c env)).toS fun k env1 => if k then evB cf a env1 else evB cf b env1 := by
  (conv => lhs; unfold evS)
  first | done | rfl
@[simp] theorem evS_raise {x : Nat} : evS cf (.raise x) env = .exn x env := by unfold evS; rfl
@[simp] theorem evS_pass : evS cf .pass env = .nxt env := by unfold evS; rfl
@[simp] theorem evS_brk : evS cf .brk env = .brk env := by unfold evS; rfl
@[simp] theorem evS_cnt : evS cf .cnt env = .cnt env := by unfold evS; rfl
@[simp] theorem truthR_ok {d : D} {e : Env} : truthR (.ok d e) = ofOpt (truth d) e := rfl
@[simp] theorem ofOpt_some {α : Type} {a : α} {e : Env} : ofOpt (some a) e = .ok a e := rfl
@[simp] theorem ofOptS_some {e : Env} : ofOptS (some e) = .nxt e := rfl
@[simp] theorem truth_bl {b : Bool} : truth (.bl b) = some b := rfl
@[simp] theorem truth_non : truth .non = some false := rfl
@[simp] theorem rds_nil : rds env [] = some [] := rfl
@[simp] theorem rds_val {d : D} {r : List AV} : rds env (.val d :: r) = (rds env r).map (d :: ·) := rfl
@[simp] theorem rds_slot {i : Nat} {r : List AV} : rds env (.slot i :: r) = match rd env (.slot i) with
    | some d => (rds env r).map (d :: ·)
    | none => none := rfl
@[simp] theorem rd_slot {i : Nat} : rd env (.slot i) = match env[i]? with
    | some (.val d) => some d
    | some (.own d) => some d
    | some (.io d) => some d
    | _ => none := rfl
@[simp] theorem hand_nil : hand env [] = some [] := rfl
@[simp] theorem hand_val {d : D} {r : List AV} : hand env (.val d :: r) = (hand env r).map (.val d :: ·) := rfl
@[simp] theorem hand_slot {i : Nat} {r : List AV} : hand env (.slot i :: r) = match env[i]? with
    | some (.val d) => (hand env r).map (.val d :: ·)
    | some (.own d) => (hand env r).map (.io d :: ·)
    | some (.io d) => (hand env r).map (.io d :: ·)
    | _ => none := rfl
@[simp] theorem io_nil : ioOf env [] = [] := rfl
@[simp] theorem io_val {d : D} {r : List AV} : ioOf env (.val d :: r) = ioOf env r := rfl
@[simp] theorem io_slot {i : Nat} {r : List AV} : ioOf env (.slot i :: r) = match env[i]? with
    | some (.own _) => i :: ioOf env r
    | some (.io _) => i :: ioOf env r
    | _ => ioOf env r := rfl
@[simp] theorem nodup_nil : nodupB [] = true := rfl
@[simp] theorem nodup_one {i : Nat} : nodupB [i] = true := rfl
@[simp] theorem back_nil : back env [] [] = some env := rfl
@[simp] theorem back_cons {i : Nat} {is : List Nat} {d : D} {ds : List D} : back env (i :: is) (d :: ds) = match env[i]? with
    | some s => back (env.set i (reset d s)) is ds
    | none => none := rfl
@[simp] theorem reset_own {a b : D} : reset a (.own b) = .own a := rfl
@[simp] theorem reset_io {a b : D} : reset a (.io b) = .io a := rfl
@[simp] theorem asg_name {i : Nat} {d : D} : asg env (.name i) d = put env i (.val d) := by unfold asg; rfl
@[simp] theorem asg_tup {ts : List Tg} {ds : List D} : asg env (.tup ts) (.tup ds) = asgs env ts ds := by
  (conv => lhs; unfold asg)
  first | done | rfl
@[simp] theorem asgs_nil : asgs env [] [] = some env := by unfold asgs; rfl
@[simp] theorem asgs_cons {t : Tg} {ts : List Tg} {d : D} {ds : List D} : asgs env (t :: ts) (d :: ds) = match asg env t d with
    | some e => asgs e ts ds
    | none => none := by
  (conv => lhs; unfold asgs)
  first | done | rfl
@[simp] theorem asgN_nil : asgN env [] [] = some env := rfl
@[simp] theorem asgN_cons' {i : Nat} {is : List Nat} {d : D} {ds : List D} : asgN env (i :: is) (d :: ds) = match put env i (.val d) with
    | some e => asgN e is ds
    | none => none := rfl
@[simp] theorem put_none {i : Nat} {s : Sl} {r : Env} : put (.none :: r) 0 s = some (s :: r) := rfl
@[simp] theorem put_val {d : D} {s : Sl} {r : Env} : put (.val d :: r) 0 s = some (s :: r) := rfl
@[simp] theorem put_own {d : D} {s : Sl} {r : Env} : put (.own d :: r) 0 s = some (s :: r) := rfl
@[simp] theorem put_io {d : D} {s : Sl} {r : Env} : put (.io d :: r) 0 s = none := rfl
@[simp] theorem put_succ {t s : Sl} {r : Env} {i : Nat} : put (t :: r) (i + 1) s = (put r i s).map (t :: ·) := by
  unfold put
  simp only [List.getElem?_cons_succ, List.set_cons_succ]
  cases r[i]? with
  | none => rfl
  | some u => cases u <;> rfl
/-! operations -/
@[simp] theorem pv_add' {i j : Int} : pev (.bin .Add) [.int i, .int j] = some (.int (i + j)) := rfl
@[simp] theorem pv_sub' {i j : Int} : pev (.bin .Sub) [.int i, .int j] = some (.int (i - j)) := rfl
@[simp] theorem pv_int' {i : Int} : pev (.call .int) [.int i] = some (.int i) := rfl
@[simp] theorem pv_neg' {i : Int} : pev (.un .USub) [.int i] = some (.int (-i)) := rfl
@[simp] theorem pv_lt' {i j : Int} : pev (.cmp .Lt) [.int i, .int j] = some (.bl (decide (i < j))) := rfl
@[simp] theorem pv_gt' {i j : Int} : pev (.cmp .Gt) [.int i, .int j] = some (.bl (decide (j < i))) := rfl
@[simp] theorem pv_le' {i j : Int} : pev (.cmp .LtE) [.int i, .int j] = some (.bl (decide (i ≤ j))) := rfl
@[simp] theorem pv_ge' {i j : Int} : pev (.cmp .GtE) [.int i, .int j] = some (.bl (decide (j ≤ i))) := rfl
theorem beqd (p : Prop) [Decidable p] (b : Bool) (h : b = true ↔ p) : b = decide p := by
  by_cases hp : p
  · rw [h.mpr hp]; simp [hp]
  · have : b = false := by cases b <;> simp_all
    rw [this]; simp [hp]
theorem sh_int {i : Int} : shaped (.int i) = true := by simp [shaped, toPD, SeqAt.shaped, PyData.canLay0, PyData.depth]
def codesOk (l : List Nat) : Prop := ∀ c ∈ l, c < 1114112
theorem sh_str {i : List Nat} (h : codesOk i) : shaped (.str i) = true := by
  simp [shaped, toPD, SeqAt.shaped, PyData.canLay0, PyData.depth, PyData.strOk]
  intro j hj
  exact h j hj
theorem eqv_i {i j : Int} : eqv (.int i) (.int j) = decide (i = j) := by
  unfold eqv toPD
  simp only [PyData.eqv]
  exact beqd _ _ (by simp)
theorem eqv_s {i j : List Nat} : eqv (.str i) (.str j) = decide (i = j) := by
  unfold eqv toPD
  simp only [PyData.eqv]
  exact beqd _ _ (by simp [Str.mk.injEq])
@[simp] theorem pv_eqi {i j : Int} : pev (.cmp .Eq) [.int i, .int j] = some (.bl (decide (i = j))) := by
  show (eqEv (.int i) (.int j)).map D.bl = _
  unfold eqEv
  rw [sh_int, sh_int, eqv_i]
  rfl
@[simp] theorem pv_nei {i j : Int} : pev (.cmp .NotEq) [.int i, .int j] = some (.bl (!decide (i = j))) := by
  show ((eqEv (.int i) (.int j)).map (!·)).map D.bl = _
  unfold eqEv
  rw [sh_int, sh_int, eqv_i]
  rfl
@[simp] theorem pv_eqs {i j : List Nat} (hi : codesOk i) (hj : codesOk j) : pev (.cmp .Eq) [.str i, .str j] = some (.bl (decide (i = j))) := by
  show (eqEv (.str i) (.str j)).map D.bl = _
  unfold eqEv
  rw [sh_str hi, sh_str hj, eqv_s]
  rfl
@[simp] theorem pv_nes {i j : List Nat} (hi : codesOk i) (hj : codesOk j) : pev (.cmp .NotEq) [.str i, .str j] = some (.bl (!decide (i = j))) := by
  show ((eqEv (.str i) (.str j)).map (!·)).map D.bl = _
  unfold eqEv
  rw [sh_str hi, sh_str hj, eqv_s]
  rfl
@[simp] theorem pv_isb {a b : Bool} : pev (.cmp .Is) [.bl a, .bl b] = some (.bl (decide (a = b))) := rfl
@[simp] theorem pv_isnb {a b : Bool} : pev (.cmp .IsNot) [.bl a, .bl b] = some (.bl (!decide (a = b))) := rfl
@[simp] theorem pv_tup {ds : List D} (h : ds.length ≤ 16777216 := by simp) : pev .tup ds = some (.tup ds) := if_pos h
@[simp] theorem pv_lst {ds : List D} (h : ds.length ≤ 16777216 := by simp) : pev .lst ds = some (.lst ds) := if_pos h
@[simp] theorem pv_lent {xs : List D} : pev (.call .len) [.tup xs] = some (.int xs.length) := rfl
@[simp] theorem pv_lenl {xs : List D} : pev (.call .len) [.lst xs] = some (.int xs.length) := rfl
end Mp
set_option Elab.async false
set_option linter.all false
set_option maxRecDepth 100000
set_option maxHeartbeats 4000000
/-! more rules of simp for the evaluator; equality of data -/
namespace Mp
open PySem
variable {cf : CallF} {env : Env}
@[simp] theorem evS_parO {fs : List Bool} {is : List Nat} {es : List E} : evS cf (.parO fs is es) env = if freshs fs es then (evP cf fs es env).toS fun ds env1 => ofOptS (asgO env1 fs is ds) else .stuck := by
  (conv => lhs; unfold evS)
  first | done | rfl
@[simp] theorem evP_nil : evP cf [] [] env = .ok [] env := rfl
@[simp] theorem evP_cons {f : Bool} {fs : List Bool} {e : E} {es : List E} : evP cf (f :: fs) (e :: es) env = (evE cf e env).bind fun d env1 => if f && !isLst d then .stuck else (evP cf fs es env1).bind fun ds env2 => .ok (d :: ds) env2 := rfl
@[simp] theorem isLst_lst {xs : List D} : isLst (.lst xs) = true := rfl
@[simp] theorem asgO_nil : asgO env [] [] [] = some env := rfl
@[simp] theorem asgO_val {fs : List Bool} {i : Nat} {is : List Nat} {d : D} {ds : List D} : asgO env (false :: fs) (i :: is) (d :: ds) = match put env i (.val d) with
    | some e => asgO e fs is ds
    | none => none := rfl
@[simp] theorem asgO_own {fs : List Bool} {i : Nat} {is : List Nat} {xs : List D} {ds : List D} : asgO env (true :: fs) (i :: is) (.lst xs :: ds) = match put env i (.own (.lst xs)) with
    | some e => asgO e fs is ds
    | none => none := rfl
@[simp] theorem freshs_nil : freshs [] [] = true := rfl
@[simp] theorem freshs_cons {f : Bool} {fs : List Bool} {e : E} {es : List E} : freshs (f :: fs) (e :: es) = ((!f || isFresh e) && freshs fs es) := rfl
@[simp] theorem isF_lst {es : List E} : isFresh (.prim .lst es) = true := rfl
@[simp] theorem isF_add {es : List E} : isFresh (.prim (.bin .Add) es) = true := rfl
@[simp] theorem isF_mul {es : List E} : isFresh (.prim (.bin .Mult) es) = true := rfl
@[simp] theorem isF_list {es : List E} : isFresh (.prim (.call .list) es) = true := rfl
@[simp] theorem isF_rng {es : List E} : isFresh (.prim .rngL es) = true := rfl
@[simp] theorem isF_comp {own : List Nat} {tg : Tg} {k : ItK} {src cnd : List E} {elt : E} : isFresh (.comp own tg k src cnd elt) = true := rfl
@[simp] theorem evS_aug {i : Nat} {op : Operator} {e : E} : evS cf (.aug i op e) env = match env[i]? with
    | some (.val x) => (evE cf e env).toS fun y env1 => match augEv op x y with
      | some z => ofOptS (put env1 i (.val z))
      | none => .stuck
    | some s0 => if isMut s0 && decide (op = .Add) then (evE cf e env).toS fun y env1 => match env1[i]? with
      | some s => augL env1 i s (rd env1 (.slot i)) y
      | none => .stuck
      else .stuck
    | _ => .stuck := by
  (conv => lhs; unfold evS)
  first | done | rfl
@[simp] theorem evS_store {i : Nat} {ix e : E} : evS cf (.store i ix e) env = (evE cf e env).toS fun d env1 => if okMut env1 i then (evE cf ix env1).toS fun k env2 => match env2[i]? with
    | some s => (match isMut s, rd env2 (.slot i) with
      | true, some c => (match storeEv c k d with
        | some c' => .nxt (env2.set i (reset c' s))
        | none => .stuck)
      | _, _ => .stuck)
    | none => .stuck
    else .stuck := by
  (conv => lhs; unfold evS)
  first | done | rfl
@[simp] theorem ev_mu {m : Mu} {i : Nat} {es : List E} : evE cf (.mu m i es) env = if okMut env i then (evA cf es env).bind fun avs env1 => match rds env1 avs with
    | some ds => match env1[i]? with
      | some s => (match isMut s, rd env1 (.slot i) with
        | true, some c => (match muEv m c ds with
          | some (r, c') => .ok r (env1.set i (reset c' s))
          | none => .stuck)
        | _, _ => .stuck)
      | none => .stuck
    | none => .stuck
    else .stuck := by
  (conv => lhs; unfold evE)
  first | done | rfl
@[simp] theorem evS_frz {i : Nat} : evS cf (.frz i) env = match env[i]? with
    | some (.own d) => .nxt (env.set i (.val d))
    | some (.val d) => .nxt env
    | _ => .stuck := by
  (conv => lhs; unfold evS)
  first | done | rfl
@[simp] theorem isMut_own {d : D} : isMut (.own d) = true := rfl
@[simp] theorem isMut_io {d : D} : isMut (.io d) = true := rfl
@[simp] theorem okMut_ {i : Nat} : okMut env i = match env[i]? with
    | some (.own (.lst _)) => true
    | some (.io (.lst _)) => true
    | _ => false := rfl
@[simp] theorem mu_app {xs : List D} {d : D} (h : xs.length < 16777216) : muEv .append (.lst xs) [d] = some (.non, .lst (xs ++ [d])) := if_pos h
@[simp] theorem augL_ {i : Nat} {s : Sl} {xs ys : List D} : augL env i s (some (.lst xs)) (.lst ys) = if isMut s && decide (xs.length + ys.length ≤ 16777216) then .nxt (env.set i (reset (.lst (xs ++ ys)) s)) else .stuck := rfl
/-! ### equality of data -/
-- data of no more than so many layers, texts of good signs
mutual
def gd : Nat → D → Bool
  | _, .non => true
  | _, .bl _ => true
  | _, .int _ => true
  | _, .str s => s.all fun c => decide (c < 1114112)
  | k + 1, .tup xs => gds k xs
  | k + 1, .lst xs => gds k xs
  | _, _ => false
def gds : Nat → List D → Bool
  | _, [] => true
  | k, x :: xs => gd k x && gds k xs
end
mutual
theorem gd_ok : ∀ {k : Nat} {d : D}, gd k d = true → (toPD d).canLay0 = true ∧ (toPD d).depth ≤ k
  | k, .non, _ => by simp [toPD, PyData.canLay0, PyData.depth]
  | k, .bl _, _ => by simp [toPD, PyData.canLay0, PyData.depth]
  | k, .int _, _ => by simp [toPD, PyData.canLay0, PyData.depth]
  | k, .str s, h => by
    have h : (s.all fun c => decide (c < 1114112)) = true := by cases k <;> simpa [gd] using h
    simp only [toPD, PyData.canLay0, PyData.depth, PyData.strOk]
    exact ⟨by simpa using h, Nat.zero_le _⟩
  | k + 1, .tup xs, h => by
    obtain ⟨h1, h2⟩ := gds_ok (k := k) (xs := xs) (by simpa [gd] using h)
    simp only [toPD, PyData.canLay0, PyData.depth]
    exact ⟨h1, by omega⟩
  | k + 1, .lst xs, h => by
    obtain ⟨h1, h2⟩ := gds_ok (k := k) (xs := xs) (by simpa [gd] using h)
    simp only [toPD, PyData.canLay0, PyData.depth]
    exact ⟨h1, by omega⟩
  | 0, .tup _, h => by simp [gd] at h
  | 0, .lst _, h => by simp [gd] at h
  | k, .dct _ _, h => by cases k <;> simp [gd] at h
  | k, .set _, h => by cases k <;> simp [gd] at h
  | k, .scr _, h => by cases k <;> simp [gd] at h
theorem gds_ok : ∀ {k : Nat} {xs : List D}, gds k xs = true → PyData.canLayAll0 (toPDs xs) = true ∧ PyData.depthAll (toPDs xs) ≤ k
  | k, [], _ => by simp [toPDs, PyData.canLayAll0, PyData.depthAll]
  | k, x :: xs, h => by
    have h : gd k x = true ∧ gds k xs = true := by simpa [gds] using h
    obtain ⟨h1, h2⟩ := gd_ok h.1
    obtain ⟨h3, h4⟩ := gds_ok h.2
    simp only [toPDs, PyData.canLayAll0, PyData.depthAll]
    exact ⟨by rw [h1, h3]; rfl, by omega⟩
end
theorem sh_gd {d : D} {k : Nat} (h : gd k d = true) (hk : k ≤ 64) : shaped d = true := by
  obtain ⟨h1, h2⟩ := gd_ok h
  unfold shaped SeqAt.shaped
  rw [h1, decide_eq_true (by omega)]
  rfl
theorem pv_eq {a b : D} (ha : gd 64 a = true) (hb : gd 64 b = true) : pev (.cmp .Eq) [a, b] = some (.bl (eqv a b)) := by
  show (eqEv a b).map D.bl = _
  unfold eqEv
  rw [sh_gd ha (Nat.le_refl _), sh_gd hb (Nat.le_refl _)]
  rfl
theorem pv_ne {a b : D} (ha : gd 64 a = true) (hb : gd 64 b = true) : pev (.cmp .NotEq) [a, b] = some (.bl (!eqv a b)) := by
  show ((eqEv a b).map (!·)).map D.bl = _
  unfold eqEv
  rw [sh_gd ha (Nat.le_refl _), sh_gd hb (Nat.le_refl _)]
  rfl
mutual
theorem gd_mono : ∀ {k m : Nat} {d : D}, k ≤ m → gd k d = true → gd m d = true
  | k, m, .non, _, _ => by cases m <;> rfl
  | k, m, .bl _, _, _ => by cases m <;> rfl
  | k, m, .int _, _, _ => by cases m <;> rfl
  | k, m, .str s, _, h => by
    have h : (s.all fun c => decide (c < 1114112)) = true := by cases k <;> simpa [gd] using h
    cases m <;> simpa [gd] using h
  | k + 1, m + 1, .tup xs, l, h => by
    have := gds_mono (k := k) (m := m) (xs := xs) (by omega) (by simpa [gd] using h)
    simpa [gd] using this
  | k + 1, m + 1, .lst xs, l, h => by
    have := gds_mono (k := k) (m := m) (xs := xs) (by omega) (by simpa [gd] using h)
    simpa [gd] using this
  | k + 1, 0, .tup _, l, _ => by omega
  | k + 1, 0, .lst _, l, _ => by omega
  | 0, _, .tup _, _, h => by simp [gd] at h
  | 0, _, .lst _, _, h => by simp [gd] at h
  | k, _, .dct _ _, _, h => by cases k <;> simp [gd] at h
  | k, _, .set _, _, h => by cases k <;> simp [gd] at h
  | k, _, .scr _, _, h => by cases k <;> simp [gd] at h
theorem gds_mono : ∀ {k m : Nat} {xs : List D}, k ≤ m → gds k xs = true → gds m xs = true
  | k, m, [], _, _ => by simp [gds]
  | k, m, x :: xs, l, h => by
    have h : gd k x = true ∧ gds k xs = true := by simpa [gds] using h
    have h1 := gd_mono l h.1
    have h2 := gds_mono l h.2
    simp [gds, h1, h2]
end
theorem gds_all {k : Nat} {xs : List D} (h : ∀ x ∈ xs, gd k x = true) : gds k xs = true := by
  induction xs with
  | nil => simp [gds]
  | cons x xs ih =>
    have h1 := h x List.mem_cons_self
    have h2 := ih fun y hy => h y (List.mem_cons_of_mem _ hy)
    simp [gds, h1, h2]
theorem gd_tup {k : Nat} {xs : List D} (h : ∀ x ∈ xs, gd k x = true) : gd (k + 1) (.tup xs) = true := by
  have := gds_all h
  simpa [gd] using this
theorem gd_lst {k : Nat} {xs : List D} (h : ∀ x ∈ xs, gd k x = true) : gd (k + 1) (.lst xs) = true := by
  have := gds_all h
  simpa [gd] using this
theorem eqvs_nil : ∀ {xs : List D}, PyData.eqvAll (toPDs xs) [] = xs.isEmpty
  | [] => rfl
  | _ :: _ => rfl
theorem eqv_t0 {xs : List D} : eqv (.tup xs) (.tup []) = xs.isEmpty := eqvs_nil
theorem eqv_l0 {xs : List D} : eqv (.lst xs) (.lst []) = xs.isEmpty := eqvs_nil
theorem eqvs_map {α : Type} [DecidableEq α] {f : α → D} (hf : ∀ x y, eqv (f x) (f y) = decide (x = y)) : ∀ (xs ys : List α), PyData.eqvAll (toPDs (xs.map f)) (toPDs (ys.map f)) = decide (xs = ys)
  | [], [] => by simp [toPDs, PyData.eqvAll]
  | [], _ :: _ => by simp [toPDs, PyData.eqvAll]
  | _ :: _, [] => by simp [toPDs, PyData.eqvAll]
  | x :: xs, y :: ys => by
    have := eqvs_map hf xs ys
    have h2 := hf x y
    unfold eqv at h2
    simp only [List.map_cons, toPDs, PyData.eqvAll, this, h2]
    by_cases e : x = y <;> by_cases e2 : xs = ys <;> simp [e, e2]
theorem eqv_tm {α : Type} [DecidableEq α] {f : α → D} (hf : ∀ x y, eqv (f x) (f y) = decide (x = y)) (xs ys : List α) : eqv (.tup (xs.map f)) (.tup (ys.map f)) = decide (xs = ys) := eqvs_map hf xs ys
theorem eqv_lm {α : Type} [DecidableEq α] {f : α → D} (hf : ∀ x y, eqv (f x) (f y) = decide (x = y)) (xs ys : List α) : eqv (.lst (xs.map f)) (.lst (ys.map f)) = decide (xs = ys) := eqvs_map hf xs ys
mutual
theorem eqv_refl : ∀ {k : Nat} {d : D}, gd k d = true → eqv d d = true
  | _, .non, _ => rfl
  | _, .bl b, _ => by show (b == b) = true; simp
  | _, .int i, _ => by show (i == i) = true; simp
  | _, .str s, _ => by
    rw [eqv_s]; simp
  | k + 1, .tup xs, h => eqvs_refl (k := k) (xs := xs) (by simpa [gd] using h)
  | k + 1, .lst xs, h => eqvs_refl (k := k) (xs := xs) (by simpa [gd] using h)
  | 0, .tup _, h => by simp [gd] at h
  | 0, .lst _, h => by simp [gd] at h
  | k, .dct _ _, h => by cases k <;> simp [gd] at h
  | k, .set _, h => by cases k <;> simp [gd] at h
  | k, .scr _, h => by cases k <;> simp [gd] at h
theorem eqvs_refl : ∀ {k : Nat} {xs : List D}, gds k xs = true → PyData.eqvAll (toPDs xs) (toPDs xs) = true
  | _, [], _ => rfl
  | k, x :: xs, h => by
    have h : gd k x = true ∧ gds k xs = true := by simpa [gds] using h
    have h1 := eqv_refl h.1
    have h2 := eqvs_refl h.2
    unfold eqv at h1
    simp only [toPDs, PyData.eqvAll, h1, h2]
    rfl
end
/-- a tuple of ints -/
def tu (os : List Int) : D := .tup (os.map .int)
theorem tu_gd (os : List Int) : gd 1 (tu os) = true := gd_tup fun x hx => by
  obtain ⟨i, _, rfl⟩ := List.mem_map.mp hx
  rfl
theorem tu_eqv (a b : List Int) : eqv (tu a) (tu b) = decide (a = b) := eqv_tm (fun x y => eqv_i) a b
@[simp] theorem pv_eqtu {a b : List Int} : pev (.cmp .Eq) [tu a, tu b] = some (.bl (decide (a = b))) := by
  rw [pv_eq (gd_mono (by decide) (tu_gd a)) (gd_mono (by decide) (tu_gd b)), tu_eqv]
@[simp] theorem pv_netu {a b : List Int} : pev (.cmp .NotEq) [tu a, tu b] = some (.bl (!decide (a = b))) := by
  rw [pv_ne (gd_mono (by decide) (tu_gd a)) (gd_mono (by decide) (tu_gd b)), tu_eqv]
theorem tu_nil : tu [] = .tup [] := rfl
@[simp] theorem pv_lentu {a : List Int} : pev (.call .len) [tu a] = some (.int a.length) := by
  show some (D.int ((a.map D.int).length : Nat)) = _
  rw [List.length_map]
theorem ix_nat {α : Type} {xs : List α} {i : Nat} (h : i < xs.length) : getIx xs (i : Int) = xs[i]? := by
  unfold getIx ixN
  rw [if_pos (by omega), if_pos (by omega)]
  simp
theorem pv_ixtu {a : List Int} {i : Nat} (h : i < a.length) : pev .idx [tu a, .int i] = some (.int a[i]) := by
  show getIx (a.map D.int) (i : Int) = _
  rw [ix_nat (by simpa using h)]
  simp [h]
theorem pv_ixt {xs : List D} {i : Nat} (h : i < xs.length) : pev .idx [.tup xs, .int i] = some xs[i] := by
  show getIx xs (i : Int) = _
  rw [ix_nat h]
  simp [h]
theorem pv_ixl {xs : List D} {i : Nat} (h : i < xs.length) : pev .idx [.lst xs, .int i] = some xs[i] := by
  show getIx xs (i : Int) = _
  rw [ix_nat h]
  simp [h]
/-- xs[-1] -/
theorem ix_last {α : Type} {xs : List α} {x : α} : getIx (xs ++ [x]) (-1) = some x := by
  unfold getIx ixN
  rw [if_neg (by decide), if_pos (by simp; omega)]
  simp
  have : ((-1 : Int) + ((xs.length : Int) + 1)).toNat = xs.length := by omega
  rw [this]
  simp
theorem pv_lastl {xs : List D} {x : D} : pev .idx [.lst (xs ++ [x]), .int (-1)] = some x := ix_last
theorem pv_lastt {xs : List D} {x : D} : pev .idx [.tup (xs ++ [x]), .int (-1)] = some x := ix_last
theorem pv_cat {a b : List Int} (h : a.length + b.length ≤ 16777216) : pev (.bin .Add) [tu a, tu b] = some (tu (a ++ b)) := by
  show lenOk _ _ = _
  unfold lenOk tu
  rw [if_pos (by simpa using h), List.map_append]
theorem pv_catl {a b : List D} (h : a.length + b.length ≤ 16777216) : pev (.bin .Add) [.lst a, .lst b] = some (.lst (a ++ b)) := if_pos h
theorem pv_catt {a b : List D} (h : a.length + b.length ≤ 16777216) : pev (.bin .Add) [.tup a, .tup b] = some (.tup (a ++ b)) := if_pos h
theorem cut_map {α β : Type} (f : α → β) (xs : List α) (lo hi : Option Int) : cut (xs.map f) lo hi = (cut xs lo hi).map f := by
  unfold cut
  simp [List.map_take, List.map_drop]
theorem sIx_nat {n i d : Nat} (h : i ≤ n) : HT.sIx n d (some (i : Int)) = i := by
  show (if (i : Int) < 0 then ((i : Int) + (n : Int)).toNat else min (i : Int).toNat n) = i
  rw [if_neg (by omega), Int.toNat_natCast]
  omega
theorem cut_n {α : Type} {xs : List α} {i j : Nat} (hi : i ≤ xs.length) (hj : j ≤ xs.length) : cut xs (some (i : Int)) (some (j : Int)) = (xs.drop i).take (j - i) := by
  unfold cut
  rw [sIx_nat hi, sIx_nat hj]
theorem cut_lo {α : Type} {xs : List α} {i : Nat} (hi : i ≤ xs.length) : cut xs (some (i : Int)) none = xs.drop i := by
  unfold cut
  rw [sIx_nat hi]
  have : HT.sIx xs.length xs.length none = xs.length := rfl
  rw [this]
  exact List.take_of_length_le (by simp)
theorem cut_hi {α : Type} {xs : List α} {j : Nat} (hj : j ≤ xs.length) : cut xs none (some (j : Int)) = xs.take j := by
  unfold cut
  rw [sIx_nat hj]
  have : HT.sIx xs.length 0 none = 0 := rfl
  rw [this]
  simp
theorem pv_slcn {a : List Int} {i j : Nat} (hi : i ≤ a.length) (hj : j ≤ a.length) : pev (.slc true true) [tu a, .int i, .int j] = some (tu ((a.drop i).take (j - i))) := by
  show some (D.tup (cut (a.map D.int) (some (i : Int)) (some (j : Int)))) = _
  rw [cut_map, cut_n hi hj]
  rfl
theorem pv_slclo {a : List Int} {i : Nat} (hi : i ≤ a.length) : pev (.slc true false) [tu a, .int i] = some (tu (a.drop i)) := by
  show some (D.tup (cut (a.map D.int) (some (i : Int)) none)) = _
  rw [cut_map, cut_lo hi]
  rfl
theorem pv_slchi {a : List Int} {j : Nat} (hj : j ≤ a.length) : pev (.slc false true) [tu a, .int j] = some (tu (a.take j)) := by
  show some (D.tup (cut (a.map D.int) none (some (j : Int)))) = _
  rw [cut_map, cut_hi hj]
  rfl
theorem pv_revtu {a : List Int} : pev .rev [tu a] = some (tu a.reverse) := by
  show some (D.tup (a.map D.int).reverse) = _
  rw [← List.map_reverse]
  rfl
end Mp
set_option Elab.async false
set_option linter.all false
set_option maxRecDepth 100000
set_option maxHeartbeats 4000000
/-! files, edits: the mathematics, no program in sight -/
namespace K16
inductive Stp | K | C | P
  deriving DecidableEq
open Stp
/-- how many cuts and puts lead from one file to another at least -/
def dist : List Int → List Int → Nat
  | [], b => b.length
  | _ :: a, [] => a.length + 1
  | x :: a, y :: b => if x = y then dist a b else 1 + min (dist a (y :: b)) (dist (x :: a) b)
termination_by a b => a.length + b.length
theorem dist_nil (b : List Int) : dist [] b = b.length := by unfold dist; rfl
theorem dist_nil' (a : List Int) : dist a [] = a.length := by cases a <;> (unfold dist; rfl)
theorem dist_eq (x : Int) (a b : List Int) : dist (x :: a) (x :: b) = dist a b := by rw [dist]; simp
theorem dist_ne {x y : Int} (h : x ≠ y) (a b : List Int) : dist (x :: a) (y :: b) = 1 + min (dist a (y :: b)) (dist (x :: a) b) := by rw [dist]; simp [h]
/-- the steps lead from the one to the other -/
inductive Path : List Stp → List Int → List Int → Prop
  | nil : Path [] [] []
  | keep {s : List Stp} {a b : List Int} (x : Int) : Path s a b → Path (K :: s) (x :: a) (x :: b)
  | cut {s : List Stp} {a b : List Int} (x : Int) : Path s a b → Path (C :: s) (x :: a) b
  | put {s : List Stp} {a b : List Int} (y : Int) : Path s a b → Path (P :: s) a (y :: b)
def cost : List Stp → Nat
  | [] => 0
  | K :: s => cost s
  | C :: s => cost s + 1
  | P :: s => cost s + 1
theorem cost_app : ∀ s t : List Stp, cost (s ++ t) = cost s + cost t
  | [], t => by simp [cost]
  | K :: s, t => by simp [cost, cost_app s t]
  | C :: s, t => by simp [cost, cost_app s t]; omega
  | P :: s, t => by simp [cost, cost_app s t]; omega
theorem cost_keep : ∀ n : Nat, cost (List.replicate n K) = 0
  | 0 => rfl
  | n + 1 => by rw [List.replicate_succ]; exact cost_keep n
/-- one octet more is one step more, at most -/
theorem dist_lip : ∀ (n : Nat) (a b : List Int), a.length + b.length ≤ n → (∀ x, dist a b ≤ dist (x :: a) b + 1 ∧ dist (x :: a) b ≤ dist a b + 1) ∧ ∀ y, dist a b ≤ dist a (y :: b) + 1 ∧ dist a (y :: b) ≤ dist a b + 1
  | 0, a, b, h => by
    have ha : a = [] := List.eq_nil_of_length_eq_zero (by omega)
    have hb : b = [] := List.eq_nil_of_length_eq_zero (by omega)
    subst ha hb
    refine ⟨fun x => ?_, fun y => ?_⟩
    · rw [dist_nil', dist_nil']; simp
    · rw [dist_nil, dist_nil]; simp
  | n + 1, a, b, h => by
    refine ⟨fun x => ?_, fun y => ?_⟩
    · cases b with
      | nil => rw [dist_nil', dist_nil']; simp only [List.length_cons]; omega
      | cons y b =>
        by_cases e : x = y
        · subst e
          rw [dist_eq]
          have := (dist_lip n a b (by simp at h; omega)).2 x
          omega
        · rw [dist_ne e]
          have h1 := (dist_lip n a b (by simp at h; omega)).1 x
          have h2 := (dist_lip n a b (by simp at h; omega)).2 y
          omega
    · cases a with
      | nil => rw [dist_nil, dist_nil]; simp only [List.length_cons]; omega
      | cons x a =>
        by_cases e : x = y
        · subst e
          rw [dist_eq]
          have := (dist_lip n a b (by simp at h; omega)).1 x
          omega
        · rw [dist_ne e]
          have h1 := (dist_lip n a b (by simp at h; omega)).1 x
          have h2 := (dist_lip n a b (by simp at h; omega)).2 y
          omega
theorem dist_cons (x : Int) (a b : List Int) : dist a b ≤ dist (x :: a) b + 1 ∧ dist (x :: a) b ≤ dist a b + 1 := (dist_lip _ a b (Nat.le_refl _)).1 x
theorem dist_cons' (y : Int) (a b : List Int) : dist a b ≤ dist a (y :: b) + 1 ∧ dist a (y :: b) ≤ dist a b + 1 := (dist_lip _ a b (Nat.le_refl _)).2 y
theorem dist_le {s : List Stp} {a b : List Int} (h : Path s a b) : dist a b ≤ cost s := by
  induction h with
  | nil => rw [dist_nil]; simp
  | keep x _ ih => rw [dist_eq]; exact ih
  | cut x _ ih =>
    rename_i a b _
    have := (dist_cons x a b).2
    simp only [cost]; omega
  | put y _ ih =>
    rename_i a b _
    have := (dist_cons' y a b).2
    simp only [cost]; omega
/-- the program's way through the table -/
def walk : List Int → List Int → List Stp
  | [], [] => []
  | [], _ :: b => P :: walk [] b
  | _ :: a, [] => C :: walk a []
  | x :: a, y :: b => if x = y then K :: walk a b else if dist (x :: a) (y :: b) = 1 + dist a (y :: b) then C :: walk a (y :: b) else P :: walk (x :: a) b
termination_by a b => a.length + b.length
theorem walk_path : ∀ (n : Nat) (a b : List Int), a.length + b.length ≤ n → Path (walk a b) a b ∧ cost (walk a b) = dist a b
  | _, [], [], _ => by rw [walk]; exact ⟨.nil, by rw [dist_nil]; rfl⟩
  | 0, [], _ :: _, h => by simp at h
  | 0, _ :: _, _, h => by simp at h
  | n + 1, [], y :: b, h => by
    obtain ⟨h1, h2⟩ := walk_path n [] b (by simp at h ⊢; omega)
    rw [walk]
    refine ⟨.put y h1, ?_⟩
    rw [dist_nil] at h2 ⊢
    simp [cost, h2]
  | n + 1, x :: a, [], h => by
    obtain ⟨h1, h2⟩ := walk_path n a [] (by simp at h ⊢; omega)
    rw [walk]
    refine ⟨.cut x h1, ?_⟩
    rw [dist_nil'] at h2 ⊢
    simp [cost, h2]
  | n + 1, x :: a, y :: b, h => by
    rw [walk]
    by_cases e : x = y
    · subst e
      rw [if_pos rfl, dist_eq]
      obtain ⟨h1, h2⟩ := walk_path n a b (by simp at h; omega)
      exact ⟨.keep x h1, h2⟩
    · rw [if_neg e]
      by_cases c : dist (x :: a) (y :: b) = 1 + dist a (y :: b)
      · rw [if_pos c]
        obtain ⟨h1, h2⟩ := walk_path n a (y :: b) (by simp at h ⊢; omega)
        exact ⟨.cut x h1, by simp only [cost]; omega⟩
      · rw [if_neg c]
        obtain ⟨h1, h2⟩ := walk_path n (x :: a) b (by simp at h ⊢; omega)
        refine ⟨.put y h1, ?_⟩
        have := dist_ne e a b
        simp only [cost]
        omega
theorem walk_ok (a b : List Int) : Path (walk a b) a b := (walk_path _ a b (Nat.le_refl _)).1
theorem walk_cost (a b : List Int) : cost (walk a b) = dist a b := (walk_path _ a b (Nat.le_refl _)).2
theorem Path.app {s t : List Stp} {a b c d : List Int} (h : Path s a b) (g : Path t c d) : Path (s ++ t) (a ++ c) (b ++ d) := by
  induction h with
  | nil => exact g
  | keep x _ ih => exact .keep x ih
  | cut x _ ih => exact .cut x ih
  | put y _ ih => exact .put y ih
theorem path_keeps : ∀ u : List Int, Path (List.replicate u.length K) u u
  | [] => .nil
  | x :: u => .keep x (path_keeps u)
theorem path_cuts : ∀ u : List Int, Path (List.replicate u.length C) u []
  | [] => .nil
  | x :: u => .cut x (path_cuts u)
theorem path_puts : ∀ u : List Int, Path (List.replicate u.length P) [] u
  | [] => .nil
  | x :: u => .put x (path_puts u)
theorem Path.rev {s : List Stp} {a b : List Int} (h : Path s a b) : Path s.reverse a.reverse b.reverse := by
  induction h with
  | nil => exact .nil
  | keep x _ ih => simp only [List.reverse_cons]; exact ih.app (.keep x .nil)
  | cut x _ ih =>
    simp only [List.reverse_cons]
    have := ih.app (.cut x .nil)
    simpa using this
  | put y _ ih =>
    simp only [List.reverse_cons]
    have := ih.app (.put y .nil)
    simpa using this
theorem cost_rev : ∀ s : List Stp, cost s.reverse = cost s
  | [] => rfl
  | K :: s => by rw [List.reverse_cons, cost_app, cost_rev s]; simp [cost]
  | C :: s => by rw [List.reverse_cons, cost_app, cost_rev s]; simp [cost]
  | P :: s => by rw [List.reverse_cons, cost_app, cost_rev s]; simp [cost]
theorem dist_rev (a b : List Int) : dist a.reverse b.reverse = dist a b := by
  have h1 := dist_le (walk_ok a b).rev
  rw [cost_rev, walk_cost] at h1
  have h2 := dist_le (walk_ok a.reverse b.reverse).rev
  rw [cost_rev, walk_cost, List.reverse_reverse, List.reverse_reverse] at h2
  omega
def swap : Stp → Stp
  | K => K | C => P | P => C
theorem Path.sym {s : List Stp} {a b : List Int} (h : Path s a b) : Path (s.map swap) b a := by
  induction h with
  | nil => exact .nil
  | keep x _ ih => exact .keep x ih
  | cut x _ ih => exact .put x ih
  | put y _ ih => exact .cut y ih
theorem cost_sym : ∀ s : List Stp, cost (s.map swap) = cost s
  | [] => rfl
  | K :: s => cost_sym s
  | C :: s => by simp [cost, swap, cost_sym s]
  | P :: s => by simp [cost, swap, cost_sym s]
theorem dist_sym (a b : List Int) : dist a b = dist b a := by
  have h1 := dist_le (walk_ok a b).sym
  rw [cost_sym, walk_cost] at h1
  have h2 := dist_le (walk_ok b a).sym
  rw [cost_sym, walk_cost] at h2
  omega
theorem dist_pre (u : List Int) : ∀ a b : List Int, dist (u ++ a) (u ++ b) = dist a b := by
  induction u with
  | nil => intro a b; rfl
  | cons x u ih => intro a b; rw [List.cons_append, List.cons_append, dist_eq]; exact ih a b
theorem dist_suf (u a b : List Int) : dist (a ++ u) (b ++ u) = dist a b := by
  rw [← dist_rev, List.reverse_append, List.reverse_append, dist_pre, dist_rev]
/-- cut all, put all -/
theorem dist_all (a b : List Int) : dist a b ≤ a.length + b.length := by
  have := dist_le ((path_cuts a).app (path_puts b))
  simp only [List.append_nil, List.nil_append, cost_app] at this
  have c1 : ∀ n, cost (List.replicate n C) = n := fun n => by
    induction n with
    | zero => rfl
    | succ n ih => rw [List.replicate_succ]; simp [cost, ih]
  have c2 : ∀ n, cost (List.replicate n P) = n := fun n => by
    induction n with
    | zero => rfl
    | succ n ih => rw [List.replicate_succ]; simp [cost, ih]
  rw [c1, c2] at this
  exact this
theorem dist_zero : ∀ {a b : List Int}, dist a b = 0 → a = b
  | [], b, h => by
    rw [dist_nil] at h
    exact (List.eq_nil_of_length_eq_zero h).symm
  | x :: a, [], h => by rw [dist_nil'] at h; simp at h
  | x :: a, y :: b, h => by
    by_cases e : x = y
    · subst e
      rw [dist_eq] at h
      rw [dist_zero h]
    · rw [dist_ne e] at h; omega
theorem dist_self (a : List Int) : dist a a = 0 := by
  have := dist_le (path_keeps a)
  rw [cost_keep] at this
  omega
/-- two ways, one behind the other -/
theorem path_tri {s t : List Stp} {a b : List Int} (h : Path s a b) : ∀ {t : List Stp} {c : List Int}, Path t b c → ∃ r, Path r a c ∧ cost r ≤ cost s + cost t := by
  induction h with
  | nil => intro t c g; exact ⟨t, g, by simp [cost]⟩
  | cut x _ ih =>
    intro t c g
    obtain ⟨r, h1, h2⟩ := ih g
    exact ⟨C :: r, .cut x h1, by simp only [cost]; omega⟩
  | keep x h ih =>
    intro t c g
    generalize hb : x :: _ = bb at g
    induction g with
    | nil => cases hb
    | keep y g _ =>
      cases hb
      obtain ⟨r, h1, h2⟩ := ih g
      exact ⟨K :: r, .keep _ h1, by simpa [cost] using h2⟩
    | cut y g _ =>
      cases hb
      obtain ⟨r, h1, h2⟩ := ih g
      exact ⟨C :: r, .cut _ h1, by simp only [cost]; omega⟩
    | put y g ihg =>
      obtain ⟨r, h1, h2⟩ := ihg hb
      exact ⟨P :: r, .put y h1, by simp only [cost] at h2 ⊢; omega⟩
  | put x h ih =>
    intro t c g
    generalize hb : x :: _ = bb at g
    induction g with
    | nil => cases hb
    | keep y g _ =>
      cases hb
      obtain ⟨r, h1, h2⟩ := ih g
      exact ⟨P :: r, .put _ h1, by simp only [cost]; omega⟩
    | cut y g _ =>
      cases hb
      obtain ⟨r, h1, h2⟩ := ih g
      exact ⟨r, h1, by simp only [cost]; omega⟩
    | put y g ihg =>
      obtain ⟨r, h1, h2⟩ := ihg hb
      exact ⟨P :: r, .put y h1, by simp only [cost] at h2 ⊢; omega⟩
theorem dist_tri (a b c : List Int) : dist a c ≤ dist a b + dist b c := by
  obtain ⟨r, h1, h2⟩ := path_tri (t := []) (walk_ok a b) (walk_ok b c)
  have := dist_le h1
  rw [walk_cost, walk_cost] at h2
  omega
end K16
set_option Elab.async false
set_option linter.all false
set_option maxRecDepth 100000
set_option maxHeartbeats 4000000
/-! edits, steps joined: the mathematics -/
namespace K16
open Stp
inductive Ed | keep (n : Nat) | cut (xs : List Int) | put (ys : List Int)
inductive PathE : List Ed → List Int → List Int → Prop
  | nil : PathE [] [] []
  | keep {E : List Ed} {a b : List Int} (u : List Int) : PathE E a b → PathE (.keep u.length :: E) (u ++ a) (u ++ b)
  | cut {E : List Ed} {a b : List Int} (u : List Int) : PathE E a b → PathE (.cut u :: E) (u ++ a) b
  | put {E : List Ed} {a b : List Int} (u : List Int) : PathE E a b → PathE (.put u :: E) a (u ++ b)
def costE : List Ed → Nat
  | [] => 0
  | .keep _ :: E => costE E
  | .cut u :: E => u.length + costE E
  | .put u :: E => u.length + costE E
theorem costE_app : ∀ E F : List Ed, costE (E ++ F) = costE E + costE F
  | [], F => by simp [costE]
  | .keep _ :: E, F => by simp [costE, costE_app E F]
  | .cut u :: E, F => by simp [costE, costE_app E F]; omega
  | .put u :: E, F => by simp [costE, costE_app E F]; omega
theorem PathE.app {E F : List Ed} {a b c d : List Int} (h : PathE E a b) (g : PathE F c d) : PathE (E ++ F) (a ++ c) (b ++ d) := by
  induction h with
  | nil => exact g
  | keep u _ ih => rw [List.append_assoc, List.append_assoc]; exact .keep u ih
  | cut u _ ih => rw [List.append_assoc]; exact .cut u ih
  | put u _ ih => rw [List.append_assoc]; exact .put u ih
/-- edits put on octets -/
def app : List Ed → List Int → List Int → Option (List Int)
  | [], a, f => if a = [] then some f else none
  | .keep n :: E, a, f => if n ≤ a.length then app E (a.drop n) (f ++ a.take n) else none
  | .cut u :: E, a, f => if a.take u.length = u then app E (a.drop u.length) f else none
  | .put u :: E, a, f => app E a (f ++ u)
theorem path_app {E : List Ed} {a b : List Int} (h : PathE E a b) : ∀ f, app E a f = some (f ++ b) := by
  induction h with
  | nil => intro f; simp [app]
  | keep u _ ih =>
    intro f
    unfold app
    rw [if_pos (by simp), List.drop_left, List.take_left, ih]
    simp
  | cut u _ ih =>
    intro f
    unfold app
    rw [List.take_left, if_pos rfl, List.drop_left, ih]
  | put u _ ih =>
    intro f
    unfold app
    rw [ih]
    simp
def knd : Ed → Nat
  | .keep _ => 0
  | .cut _ => 1
  | .put _ => 2
/-- what may stand next to one another -/
def nx (e f : Ed) : Bool := knd e != knd f && !(knd e == 2 && knd f == 1)
def adj : List Ed → Bool
  | e :: f :: r => nx e f && adj (f :: r)
  | _ => true
theorem adj_zip : ∀ E : List Ed, (E.zip E.tail).all (fun p => nx p.1 p.2) = adj E
  | [] => rfl
  | [_] => rfl
  | e :: f :: r => by
    have := adj_zip (f :: r)
    simp only [List.tail_cons] at this ⊢
    rw [List.zip_cons_cons, List.all_cons, this]
    rfl
theorem adj_snoc : ∀ (E : List Ed) (e : Ed), adj (E ++ [e]) = (adj E && match E.getLast? with | some f => nx f e | none => true)
  | [], e => rfl
  | [f], e => by simp [adj]
  | f :: g :: r, e => by
    have := adj_snoc (g :: r) e
    simp only [List.cons_append] at this ⊢
    unfold adj
    rw [this, List.getLast?_cons_cons, Bool.and_assoc]
/-- an edit that is let: no more octets than that -/
def okE (m : Nat) : Ed → Prop
  | .keep n => 1 ≤ n ∧ n ≤ m
  | .cut u => u ≠ [] ∧ u.length ≤ m ∧ ∀ o ∈ u, 0 ≤ o ∧ o ≤ 255
  | .put u => u ≠ [] ∧ u.length ≤ m ∧ ∀ o ∈ u, 0 ≤ o ∧ o ≤ 255
/-! ### steps joined -/
def flush (f : List Ed) (g w : List Int) : List Ed := f ++ ((if g = [] then [] else [.cut g]) ++ (if w = [] then [] else [.put w]))
def addK (f : List Ed) : List Ed := match f.getLast? with
  | some (.keep n) => f.dropLast ++ [.keep (n + 1)]
  | _ => f ++ [.keep 1]
structure JS where
  f : List Ed
  g : List Int
  w : List Int
  a : List Int
  b : List Int
def jstep (s : JS) : Stp → JS
  | C => ⟨s.f, s.g ++ s.a.take 1, s.w, s.a.drop 1, s.b⟩
  | P => ⟨s.f, s.g, s.w ++ s.b.take 1, s.a, s.b.drop 1⟩
  | K => ⟨addK (flush s.f s.g s.w), [], [], s.a.drop 1, s.b.drop 1⟩
def jrun (S : List Stp) (s : JS) : JS := S.foldl jstep s
def jn (S : List Stp) (one other : List Int) : List Ed := let s := jrun S ⟨[], [], [], one, other⟩; flush s.f s.g s.w
def lastK (f : List Ed) : Nat := match f.getLast? with
  | some (.keep n) => n
  | _ => 0
def firstK : List Ed → Nat
  | .keep n :: _ => n
  | _ => 0
/-- none, or a keep at the end -/
def Endk (f : List Ed) : Prop := f = [] ∨ ∃ r n, f = r ++ [.keep n] ∧ 1 ≤ n
theorem lastK_snoc (r : List Ed) (n : Nat) : lastK (r ++ [.keep n]) = n := by simp [lastK]
theorem addK_snoc (r : List Ed) (n : Nat) : addK (r ++ [.keep n]) = r ++ [.keep (n + 1)] := by simp [addK]
theorem addK_nil : addK [] = [.keep 1] := rfl
theorem addK_cut (r : List Ed) (u : List Int) : addK (r ++ [.cut u]) = r ++ [.cut u] ++ [.keep 1] := by simp [addK]
theorem addK_put (r : List Ed) (u : List Int) : addK (r ++ [.put u]) = r ++ [.put u] ++ [.keep 1] := by simp [addK]
/-- what a flush leaves, by cases -/
theorem flush_cases (f : List Ed) (g w : List Int) : (g = [] ∧ w = [] ∧ flush f g w = f) ∨ (g ≠ [] ∧ w = [] ∧ flush f g w = f ++ [.cut g]) ∨ (w ≠ [] ∧ ∃ r, flush f g w = r ++ [.put w] ∧ ((g = [] ∧ r = f) ∨ (g ≠ [] ∧ r = f ++ [.cut g]))) := by
  unfold flush
  by_cases hg : g = [] <;> by_cases hw : w = [] <;> simp [hg, hw]
theorem addK_end {f : List Ed} {g w : List Int} (h : Endk f) : ∃ r n, addK (flush f g w) = r ++ [.keep n] ∧ 1 ≤ n ∧ (g = [] ∧ w = [] → n = lastK f + 1) := by
  rcases flush_cases f g w with ⟨h1, h2, e⟩ | ⟨h1, h2, e⟩ | ⟨h1, r, e, _⟩
  · rw [e]
    rcases h with rfl | ⟨r, n, rfl, hn⟩
    · exact ⟨[], 1, rfl, by omega, fun _ => rfl⟩
    · exact ⟨r, n + 1, addK_snoc _ _, by omega, fun _ => by rw [lastK_snoc]⟩
  · rw [e, addK_cut]
    exact ⟨_, 1, rfl, by omega, fun z => absurd z.1 h1⟩
  · rw [e, addK_put]
    exact ⟨_, 1, rfl, by omega, fun z => absurd z.2 h1⟩
/-- what holds on the way: of all that is told -/
structure JI (m : Nat) (one other : List Int) (s : JS) : Prop where
  ek : Endk s.f
  ad : adj s.f = true
  ok : ∀ e ∈ s.f, okE m e
  pa : ∃ u v, PathE s.f u v ∧ one = u ++ s.g ++ s.a ∧ other = v ++ s.w ++ s.b
theorem lastN {m : Nat} {one other : List Int} {s : JS} (I : JI m one other s) (hm : one.length ≤ m) : lastK s.f ≤ one.length := by
  obtain ⟨u, v, p, e1, e2⟩ := I.pa
  rcases I.ek with e | ⟨r, n, e, hn⟩
  · rw [e]; simp [lastK]
  · rw [e, lastK_snoc]
    rw [e] at p
    have : ∀ (r : List Ed) (n : Nat) (u v : List Int), PathE (r ++ [.keep n]) u v → n ≤ u.length := by
      intro r
      induction r with
      | nil =>
        intro n u v p
        cases p with
        | keep u' p => simp
      | cons e r ih =>
        intro n u v p
        cases p with
        | keep u' p => have := ih _ _ _ p; simp; omega
        | cut u' p => have := ih _ _ _ p; simp; omega
        | put u' p => exact ih _ _ _ p
    have := this _ _ _ _ p
    rw [e1]; simp; omega
theorem adj_keep {f : List Ed} (h : Endk f) (ha : adj f = true) (e : Ed) (hk : knd e ≠ 0) : adj (f ++ [e]) = true := by
  rw [adj_snoc, ha, Bool.true_and]
  rcases h with rfl | ⟨r, n, rfl, _⟩
  · rfl
  · rw [List.getLast?_append]
    cases e <;> simp [nx, knd] at hk ⊢
theorem flush_adj {f : List Ed} {g w : List Int} (h : Endk f) (ha : adj f = true) : adj (flush f g w) = true := by
  rcases flush_cases f g w with ⟨h1, h2, e⟩ | ⟨h1, h2, e⟩ | ⟨h1, r, e, ⟨h2, e2⟩ | ⟨h2, e2⟩⟩
  · rw [e]; exact ha
  · rw [e]; exact adj_keep h ha _ (by simp [knd])
  · rw [e, e2]; exact adj_keep h ha _ (by simp [knd])
  · rw [e, e2, adj_snoc, adj_keep h ha _ (by simp [knd])]
    simp [nx, knd]
theorem addK_adj {f : List Ed} {g w : List Int} (h : Endk f) (ha : adj f = true) : adj (addK (flush f g w)) = true := by
  have hf := flush_adj (g := g) (w := w) h ha
  rcases flush_cases f g w with ⟨h1, h2, e⟩ | ⟨h1, h2, e⟩ | ⟨h1, r, e, _⟩
  · rw [e]
    rcases h with rfl | ⟨r, n, rfl, hn⟩
    · rfl
    · rw [addK_snoc]
      rw [adj_snoc] at ha ⊢
      simp only [Bool.and_eq_true] at ha ⊢
      refine ⟨ha.1, ?_⟩
      have := ha.2
      revert this
      cases r.getLast? with
      | none => intro _; rfl
      | some z => cases z <;> simp [nx, knd]
  · rw [e] at hf ⊢
    rw [addK_cut, adj_snoc, hf]
    simp [nx, knd]
  · rw [e] at hf ⊢
    rw [addK_put, adj_snoc, hf]
    simp [nx, knd]
theorem flush_ok {m : Nat} {f : List Ed} {g w : List Int} (h : ∀ e ∈ f, okE m e) (hg : g.length ≤ m ∧ ∀ o ∈ g, 0 ≤ o ∧ o ≤ 255) (hw : w.length ≤ m ∧ ∀ o ∈ w, 0 ≤ o ∧ o ≤ 255) : ∀ e ∈ flush f g w, okE m e := by
  intro e he
  unfold flush at he
  rcases List.mem_append.mp he with he | he
  · exact h e he
  · rcases List.mem_append.mp he with he | he
    · by_cases z : g = []
      · simp [z] at he
      · simp [z] at he; subst he; exact ⟨z, hg⟩
    · by_cases z : w = []
      · simp [z] at he
      · simp [z] at he; subst he; exact ⟨z, hw⟩
theorem flush_path {f : List Ed} {g w u v : List Int} (h : PathE f u v) : PathE (flush f g w) (u ++ g) (v ++ w) := by
  unfold flush
  refine h.app ?_
  by_cases hg : g = [] <;> by_cases hw : w = []
  · subst hg hw; exact .nil
  · subst hg
    simp only [if_true, if_neg hw, List.nil_append]
    have := PathE.put w .nil
    simpa using this
  · subst hw
    simp only [if_true, if_neg hg, List.append_nil]
    have := PathE.cut g .nil
    simpa using this
  · simp only [if_neg hg, if_neg hw]
    have := PathE.cut g (PathE.put w .nil)
    simpa using this
theorem flush_cost (f : List Ed) (g w : List Int) : costE (flush f g w) = costE f + g.length + w.length := by
  unfold flush
  by_cases hg : g = [] <;> by_cases hw : w = [] <;> simp [hg, hw, costE_app, costE] <;> omega
theorem addK_cost (f : List Ed) : costE (addK f) = costE f := by
  unfold addK
  split
  · rename_i n e
    obtain ⟨r, rfl⟩ : ∃ r, f = r ++ [.keep n] := by
      have := List.getLast?_eq_some_iff.mp e
      exact this
    simp [costE_app, costE]
  · simp [costE_app, costE]
theorem addK_path {f : List Ed} {u v : List Int} (x : Int) (h : PathE f u v) : PathE (addK f) (u ++ [x]) (v ++ [x]) := by
  unfold addK
  split
  · rename_i n e
    obtain ⟨r, rfl⟩ : ∃ r, f = r ++ [.keep n] := List.getLast?_eq_some_iff.mp e
    rw [List.dropLast_concat]
    have : ∀ (r : List Ed) (u v : List Int), PathE (r ++ [.keep n]) u v → PathE (r ++ [.keep (n + 1)]) (u ++ [x]) (v ++ [x]) := by
      intro r
      induction r with
      | nil =>
        intro u v p
        cases p with
        | keep u' p =>
          cases p
          have := PathE.keep (u' ++ [x]) .nil
          simpa using this
      | cons e r ih =>
        intro u v p
        cases p with
        | keep u' p => rw [List.append_assoc, List.append_assoc]; exact .keep u' (ih _ _ p)
        | cut u' p => rw [List.append_assoc]; exact .cut u' (ih _ _ p)
        | put u' p => rw [List.append_assoc]; exact .put u' (ih _ _ p)
    exact this r u v h
  · have := PathE.keep [x] .nil
    exact h.app (by simpa using this)
theorem oct_sub {u v w z : List Int} (h : ∀ o ∈ u ++ v ++ w ++ z, 0 ≤ o ∧ o ≤ 255) : ∀ o ∈ v, 0 ≤ o ∧ o ≤ 255 := fun o ho => h o (by simp [ho])
/-- on the way: what is told leads from what is behind to what is behind -/
theorem jrun_ok {m : Nat} {one other : List Int} (hm : one.length ≤ m ∧ other.length ≤ m) (o1 : ∀ o ∈ one, 0 ≤ o ∧ o ≤ 255) (o2 : ∀ o ∈ other, 0 ≤ o ∧ o ≤ 255) : ∀ {S : List Stp} {a b : List Int}, Path S a b → ∀ s : JS, s.a = a → s.b = b → JI m one other s →
    JI m one other (jrun S s) ∧ (jrun S s).a = [] ∧ (jrun S s).b = [] ∧ costE (jrun S s).f + (jrun S s).g.length + (jrun S s).w.length = costE s.f + s.g.length + s.w.length + cost S := by
  intro S a b p
  induction p with
  | nil => exact fun s e1 e2 I => ⟨I, e1, e2, by simp [jrun, cost]⟩
  | @keep S' a' b' x _ ih =>
    intro s e1 e2 I
    have e0 : jrun (K :: S') s = jrun S' (jstep s K) := rfl
    rw [e0]
    obtain ⟨u, v, pe, h1, h2⟩ := I.pa
    obtain ⟨r, n, e, hn, hl⟩ := addK_end (g := s.g) (w := s.w) I.ek
    have q := ih (jstep s K) (by simp [jstep, e1]) (by simp [jstep, e2]) ⟨.inr ⟨r, n, e, hn⟩, addK_adj I.ek I.ad, ?_, u ++ s.g ++ [x], v ++ s.w ++ [x], addK_path x (flush_path pe), ?_, ?_⟩
    · refine ⟨q.1, q.2.1, q.2.2.1, ?_⟩
      have c1 : costE (jstep s K).f = costE s.f + s.g.length + s.w.length := (addK_cost _).trans (flush_cost _ _ _)
      have c2 : (jstep s K).g.length = 0 := rfl
      have c3 : (jstep s K).w.length = 0 := rfl
      have c4 : cost (K :: S') = cost S' := rfl
      have := q.2.2.2
      omega
    · -- the keep is no longer than all
      have fo := flush_ok (g := s.g) (w := s.w) I.ok ⟨by have := congrArg List.length h1; simp at this; omega, fun o ho => o1 o (by rw [h1]; simp [ho])⟩ ⟨by have := congrArg List.length h2; simp at this; omega, fun o ho => o2 o (by rw [h2]; simp [ho])⟩
      intro e' he'
      have he' : e' ∈ addK (flush s.f s.g s.w) := he'
      have hp := addK_path x (flush_path (g := s.g) (w := s.w) pe)
      rw [e] at he' hp
      rcases List.mem_append.mp he' with he2 | he2
      · -- an older one
        unfold addK at e
        split at e
        · rename_i k ek
          obtain ⟨r', e3⟩ := List.getLast?_eq_some_iff.mp ek
          rw [e3, List.dropLast_concat] at e
          have := List.append_inj' e rfl
          exact fo e' (by rw [e3, this.1]; simp [he2])
        · have := List.append_inj' e rfl
          exact fo e' (by rw [this.1]; exact he2)
      · simp at he2
        subst he2
        refine ⟨hn, ?_⟩
        have : ∀ (r : List Ed) (n : Nat) (u v : List Int), PathE (r ++ [.keep n]) u v → n ≤ u.length := by
          intro r
          induction r with
          | nil =>
            intro n u v p
            cases p with
            | keep u' p => simp
          | cons e r ih =>
            intro n u v p
            cases p with
            | keep u' p => have := ih _ _ _ p; simp; omega
            | cut u' p => have := ih _ _ _ p; simp; omega
            | put u' p => exact ih _ _ _ p
        have h3 := this _ _ _ _ hp
        have h4 := congrArg List.length h1
        rw [e1] at h4
        simp at h3 h4
        omega
    · rw [h1, e1]; simp [jstep, e1]
    · rw [h2, e2]; simp [jstep, e2]
  | @cut S' a' b' x _ ih =>
    intro s e1 e2 I
    have e0 : jrun (C :: S') s = jrun S' (jstep s C) := rfl
    rw [e0]
    obtain ⟨u, v, pe, h1, h2⟩ := I.pa
    have q := ih (jstep s C) (by simp [jstep, e1]) (by simp [jstep, e2]) ⟨I.ek, I.ad, I.ok, u, v, pe, by rw [h1, e1]; simp [jstep, e1], by rw [h2, e2]; simp [jstep, e2]⟩
    refine ⟨q.1, q.2.1, q.2.2.1, ?_⟩
    have c1 : (jstep s C).f = s.f := rfl
    have c2 : (jstep s C).g.length = s.g.length + 1 := by simp [jstep, e1]
    have c3 : (jstep s C).w = s.w := rfl
    have c4 : cost (C :: S') = cost S' + 1 := rfl
    have := q.2.2.2
    rw [c1, c3] at this
    omega
  | @put S' a' b' x _ ih =>
    intro s e1 e2 I
    have e0 : jrun (P :: S') s = jrun S' (jstep s P) := rfl
    rw [e0]
    obtain ⟨u, v, pe, h1, h2⟩ := I.pa
    have q := ih (jstep s P) (by simp [jstep, e1]) (by simp [jstep, e2]) ⟨I.ek, I.ad, I.ok, u, v, pe, by rw [h1, e1]; simp [jstep, e1], by rw [h2, e2]; simp [jstep, e2]⟩
    refine ⟨q.1, q.2.1, q.2.2.1, ?_⟩
    have c1 : (jstep s P).f = s.f := rfl
    have c2 : (jstep s P).w.length = s.w.length + 1 := by simp [jstep, e2]
    have c3 : (jstep s P).g = s.g := rfl
    have c4 : cost (P :: S') = cost S' + 1 := rfl
    have := q.2.2.2
    rw [c1, c3] at this
    omega
theorem jn_ok {m : Nat} {one other : List Int} (hm : one.length ≤ m ∧ other.length ≤ m) (o1 : ∀ o ∈ one, 0 ≤ o ∧ o ≤ 255) (o2 : ∀ o ∈ other, 0 ≤ o ∧ o ≤ 255) {S : List Stp} (p : Path S one other) :
    PathE (jn S one other) one other ∧ costE (jn S one other) = cost S ∧ adj (jn S one other) = true ∧ ∀ e ∈ jn S one other, okE m e := by
  obtain ⟨I, ea, eb, ec⟩ := jrun_ok hm o1 o2 p ⟨[], [], [], one, other⟩ rfl rfl ⟨.inl rfl, rfl, fun e he => (by cases he), [], [], .nil, by simp, by simp⟩
  obtain ⟨u, v, pe, h1, h2⟩ := I.pa
  have h1' := congrArg List.length h1
  have h2' := congrArg List.length h2
  simp at h1' h2'
  refine ⟨?_, ?_, flush_adj I.ek I.ad, flush_ok I.ok ⟨by omega, fun o ho => o1 o (by rw [h1]; simp [ho])⟩ ⟨by omega, fun o ho => o2 o (by rw [h2]; simp [ho])⟩⟩
  · have := flush_path (g := (jrun S ⟨[], [], [], one, other⟩).g) (w := (jrun S ⟨[], [], [], one, other⟩).w) pe
    rw [ea, List.append_nil] at h1
    rw [eb, List.append_nil] at h2
    unfold jn
    rw [← h1, ← h2] at this
    exact this
  · unfold jn
    rw [flush_cost]
    simpa [costE] using ec
/-! ### the ends -/
theorem firstK_le : ∀ (S : List Stp) (s : JS), firstK s.f ≤ firstK (jrun S s).f
  | [], s => Nat.le_refl _
  | t :: S, s => by
    refine Nat.le_trans ?_ (firstK_le S (jstep s t))
    cases t with
    | K =>
      show firstK s.f ≤ firstK (addK (flush s.f s.g s.w))
      cases hf : s.f with
      | nil => exact Nat.zero_le _
      | cons e r =>
        cases e with
        | keep n =>
          unfold flush addK
          split
          · rename_i k ek
            cases hr : (.keep n :: r ++ ((if s.g = [] then [] else [.cut s.g]) ++ (if s.w = [] then [] else [.put s.w])) : List Ed) with
            | nil => simp at hr
            | cons e2 r2 =>
              have e3 : e2 = .keep n := by simp at hr; exact hr.1.symm
              rw [hr] at ek
              cases r2 with
              | nil => simp at ek; rw [e3] at ek; cases ek; show n ≤ n + 1; omega
              | cons e4 r4 => rw [List.dropLast_cons₂, e3]; exact Nat.le_refl _
          · exact Nat.le_refl _
        | _ => exact Nat.zero_le _
    | C => exact Nat.le_refl _
    | P => exact Nat.le_refl _
theorem firstK_flush (f : List Ed) (g w : List Int) : firstK f ≤ firstK (flush f g w) := by
  unfold flush
  cases f with
  | nil => exact Nat.zero_le _
  | cons e r => cases e <;> exact Nat.le_refl _
theorem jrun_keeps : ∀ (k n : Nat) (a b : List Int), ∃ a' b', jrun (List.replicate k K) ⟨[.keep n], [], [], a, b⟩ = ⟨[.keep (n + k)], [], [], a', b'⟩
  | 0, n, a, b => ⟨a, b, rfl⟩
  | k + 1, n, a, b => by
    obtain ⟨a', b', e⟩ := jrun_keeps k (n + 1) (a.drop 1) (b.drop 1)
    refine ⟨a', b', ?_⟩
    rw [List.replicate_succ]
    show jrun (List.replicate k K) (jstep ⟨[.keep n], [], [], a, b⟩ K) = _
    have : jstep ⟨[.keep n], [], [], a, b⟩ K = ⟨[.keep (n + 1)], [], [], a.drop 1, b.drop 1⟩ := rfl
    rw [this, e, show n + 1 + k = n + (k + 1) by omega]
theorem jn_first (k : Nat) (S : List Stp) (a b : List Int) : k ≤ firstK (jn (List.replicate k K ++ S) a b) := by
  cases k with
  | zero => exact Nat.zero_le _
  | succ k =>
    unfold jn
    refine Nat.le_trans ?_ (firstK_flush _ _ _)
    unfold jrun
    rw [List.foldl_append]
    refine Nat.le_trans ?_ (firstK_le S _)
    rw [List.replicate_succ]
    obtain ⟨a', b', e⟩ := jrun_keeps k 1 (a.drop 1) (b.drop 1)
    show k + 1 ≤ firstK (jrun (List.replicate k K) ⟨[.keep 1], [], [], a.drop 1, b.drop 1⟩).f
    rw [e]
    show k + 1 ≤ 1 + k
    omega
theorem jrun_last : ∀ (k n : Nat) (s : JS), s.g = [] → s.w = [] → Endk s.f → n ≤ lastK s.f → (jrun (List.replicate k K) s).g = [] ∧ (jrun (List.replicate k K) s).w = [] ∧ n + k ≤ lastK (jrun (List.replicate k K) s).f
  | 0, n, s, h1, h2, _, h3 => ⟨h1, h2, h3⟩
  | k + 1, n, s, h1, h2, h4, h3 => by
    rw [List.replicate_succ]
    obtain ⟨r, m, e, hm, hl⟩ := addK_end (g := s.g) (w := s.w) h4
    have := jrun_last k (n + 1) (jstep s K) rfl rfl (.inr ⟨r, m, e, hm⟩) (by
      show n + 1 ≤ lastK (addK (flush s.f s.g s.w))
      rw [e, lastK_snoc, hl ⟨h1, h2⟩]
      omega)
    rw [show n + (k + 1) = n + 1 + k by omega]
    exact this
theorem jrun_end : ∀ (S : List Stp) (s : JS), Endk s.f → Endk (jrun S s).f
  | [], s, h => h
  | t :: S, s, h => by
    refine jrun_end S (jstep s t) ?_
    cases t with
    | K => obtain ⟨r, m, e, hm, _⟩ := addK_end (g := s.g) (w := s.w) h; exact .inr ⟨r, m, e, hm⟩
    | C => exact h
    | P => exact h
theorem jn_last (k : Nat) (S : List Stp) (a b : List Int) : k ≤ lastK (jn (S ++ List.replicate k K) a b) := by
  cases k with
  | zero => exact Nat.zero_le _
  | succ k =>
    unfold jn jrun
    rw [List.foldl_append, List.replicate_succ]
    have h0 : Endk (jrun S ⟨[], [], [], a, b⟩).f := jrun_end S _ (.inl rfl)
    generalize hs : jrun S ⟨[], [], [], a, b⟩ = s at h0
    have hs' : List.foldl jstep ⟨[], [], [], a, b⟩ S = s := hs
    rw [hs']
    obtain ⟨r, m, e, hm, _⟩ := addK_end (g := s.g) (w := s.w) h0
    obtain ⟨h1, h2, h3⟩ := jrun_last k 1 (jstep s K) rfl rfl (.inr ⟨r, m, e, hm⟩) (by
      show 1 ≤ lastK (addK (flush s.f s.g s.w))
      rw [e, lastK_snoc]; exact hm)
    show k + 1 ≤ lastK (flush (jrun (List.replicate k K) (jstep s K)).f (jrun (List.replicate k K) (jstep s K)).g (jrun (List.replicate k K) (jstep s K)).w)
    rw [h1, h2]
    have : ∀ f, flush f [] [] = f := fun f => by simp [flush]
    rw [this]
    omega
theorem jn_all (a : List Int) (h : a ≠ []) (b c : List Int) : jn (List.replicate a.length K) b c = [.keep a.length] := by
  cases a with
  | nil => exact absurd rfl h
  | cons x a =>
    unfold jn
    rw [List.length_cons, List.replicate_succ]
    obtain ⟨a', b', e⟩ := jrun_keeps a.length 1 (b.drop 1) (c.drop 1)
    have : jrun (K :: List.replicate a.length K) ⟨[], [], [], b, c⟩ = jrun (List.replicate a.length K) ⟨[.keep 1], [], [], b.drop 1, c.drop 1⟩ := rfl
    rw [this, e]
    simp [flush, Nat.add_comm]
end K16
set_option Elab.async false
set_option linter.all false
set_option maxRecDepth 100000
set_option maxHeartbeats 4000000
namespace K16
open PySem L2 Mp
def top (i : Nat) : Stmt := PySem.Challenge.pw_layersheld_k16_whole_fewest_edits_of_all.main.body.getD i (.Pass ⟨0, 0, 0, 0⟩)
def b_is_whole : List S := [.ret (some (.bop true [(.prim (.isi .int) [(.var 0)]), (.neg (.prim (.isi .bool) [(.var 0)])), (.prim (.chain .LtE .LtE) [(.var 1), (.var 0), (.var 2)])]))]
def b_is_tuple_of : List S := [.ret (some (.bop true [(.prim (.isi .tuple) [(.var 0)]), (.prim (.chain .LtE .LtE) [(.var 1), (.prim (.call .len) [(.var 0)]), (.var 2)])]))]
def b_fits_octets : List S := [.ret (some (.bop true [(.call 2 [(.var 0), (.con (.int 0)), (.var 1)]), (.prim (.call .all) [(.comp [2] (.name 2) .seq [(.var 0)] [] (.call 0 [(.var 2), (.con (.int 0)), (.con (.int 255))]))])]))]
def b_fits_edits : List S := [.ifs (.bop false [(.neg (.call 2 [(.var 0), (.con (.int 0)), (.prim (.bin .Add) [(.prim (.bin .Mult) [(.con (.int 2)), (.glob "OCTETS" (.int 1000))]), (.con (.int 1))])])), (.neg (.prim (.call .all) [(.comp [4] (.name 4) .seq [(.var 0)] [] (.call 2 [(.var 4), (.con (.int 2)), (.con (.int 2))]))]))]) [.ret (some (.con (.bl false)))] [], .for (.tup [(.name 1), (.name 2)]) .seq [(.var 0)] [.ifs (.bop false [(.neg (.prim (.isi .str) [(.var 1)])), (.prim (.cmp .NotIn) [(.var 1), (.prim .tup [(.con (.str [107, 101, 101, 112])), (.con (.str [99, 117, 116])), (.con (.str [112, 117, 116]))])])]) [.ret (some (.con (.bl false)))] [], .ifs (.ife (.prim (.cmp .Eq) [(.var 1), (.con (.str [107, 101, 101, 112]))]) (.neg (.call 0 [(.var 2), (.con (.int 1)), (.glob "OCTETS" (.int 1000))])) (.bop false [(.prim (.cmp .Eq) [(.var 2), (.prim .tup [])]), (.neg (.call 4 [(.var 2), (.glob "OCTETS" (.int 1000))]))])) [.ret (some (.con (.bl false)))] []], .set (.name 3) (.comp [4, 5] (.tup [(.name 4), (.name 5)]) .zip [(.var 0), (.prim (.slc true false) [(.var 0), (.con (.int 1))])] [] (.prim .tup [(.prim .idx [(.var 4), (.con (.int 0))]), (.prim .idx [(.var 5), (.con (.int 0))])])), .ret (some (.prim (.call .all) [(.comp [4, 5] (.tup [(.name 4), (.name 5)]) .seq [(.var 3)] [] (.bop true [(.prim (.cmp .NotEq) [(.var 4), (.var 5)]), (.prim (.cmp .NotEq) [(.prim .tup [(.var 4), (.var 5)]), (.prim .tup [(.con (.str [112, 117, 116])), (.con (.str [99, 117, 116]))])])]))]))]
def b_alike_ends : List S := [.set (.name 2) (.con (.int 0)), .while (.bop true [(.prim (.cmp .Lt) [(.var 2), (.prim (.call .min) [(.prim (.call .len) [(.var 0)]), (.prim (.call .len) [(.var 1)])])]), (.prim (.cmp .Eq) [(.prim .idx [(.var 0), (.var 2)]), (.prim .idx [(.var 1), (.var 2)])])]) [.set (.name 2) (.prim (.bin .Add) [(.var 2), (.con (.int 1))])], .par [3, 4] [(.prim (.bin .Sub) [(.prim (.call .min) [(.prim (.call .len) [(.var 0)]), (.prim (.call .len) [(.var 1)])]), (.var 2)]), (.con (.int 0))], .while (.bop true [(.prim (.cmp .Lt) [(.var 4), (.var 3)]), (.prim (.cmp .Eq) [(.prim .idx [(.var 0), (.prim (.bin .Sub) [(.prim (.bin .Sub) [(.prim (.call .len) [(.var 0)]), (.var 4)]), (.con (.int 1))])]), (.prim .idx [(.var 1), (.prim (.bin .Sub) [(.prim (.bin .Sub) [(.prim (.call .len) [(.var 1)]), (.var 4)]), (.con (.int 1))])])])]) [.set (.name 4) (.prim (.bin .Add) [(.var 4), (.con (.int 1))])], .ret (some (.prim .tup [(.var 2), (.var 4)]))]
def b_least_table : List S := [.own 2 (.prim .lst [(.comp [6] (.name 6) .range [(.prim (.bin .Add) [(.prim (.call .len) [(.var 1)]), (.con (.int 1))])] [] (.prim (.bin .Sub) [(.prim (.call .len) [(.var 1)]), (.var 6)]))]), .for (.name 3) .seq [(.prim .rev [(.var 0)])] [.parO [true, false] [4, 5] [(.prim .lst [(.prim (.call .len) [(.peek 2)])]), (.prim .idx [(.peek 2), (.prim (.un .USub) [(.con (.int 1))])])], .for (.name 6) .range [(.prim (.bin .Sub) [(.prim (.call .len) [(.var 1)]), (.con (.int 1))]), (.prim (.un .USub) [(.con (.int 1))]), (.prim (.un .USub) [(.con (.int 1))])] [.set (.name 7) (.prim (.bin .Add) [(.con (.int 1)), (.prim (.call .min) [(.prim .idx [(.peek 4), (.prim (.un .USub) [(.con (.int 1))])]), (.prim .idx [(.var 5), (.var 6)])])]), .expr (.mu .append 4 [(.ife (.prim (.cmp .Eq) [(.var 3), (.prim .idx [(.var 1), (.var 6)])]) (.prim .idx [(.var 5), (.prim (.bin .Add) [(.var 6), (.con (.int 1))])]) (.var 7))])], .expr (.mu .append 2 [(.prim .rev [(.peek 4)])])], .ret (some (.prim .rev [(.peek 2)]))]
def b_edits_in : List S := [.set (.tup [(.name 2), (.name 3)]) (.call 8 [(.var 0), (.var 1)]), .par [4, 5] [(.prim (.slc true true) [(.var 0), (.var 2), (.prim (.bin .Sub) [(.prim (.call .len) [(.var 0)]), (.var 3)])]), (.prim (.slc true true) [(.var 1), (.var 2), (.prim (.bin .Sub) [(.prim (.call .len) [(.var 1)]), (.var 3)])])], .own 6 (.prim (.bin .Mult) [(.prim .lst [(.con (.str [107, 101, 101, 112]))]), (.var 2)]), .ifs (.prim (.cmp .Gt) [(.prim (.bin .Mult) [(.prim (.bin .Add) [(.prim (.call .len) [(.var 4)]), (.con (.int 1))]), (.prim (.bin .Add) [(.prim (.call .len) [(.var 5)]), (.con (.int 1))])]), (.glob "CELLS" (.int 40000))]) [.aug 6 .Add (.prim (.bin .Add) [(.prim (.bin .Mult) [(.prim .lst [(.con (.str [99, 117, 116]))]), (.prim (.call .len) [(.var 4)])]), (.prim (.bin .Mult) [(.prim .lst [(.con (.str [112, 117, 116]))]), (.prim (.call .len) [(.var 5)])])])] [.par [7, 8, 9] [(.call 10 [(.var 4), (.var 5)]), (.con (.int 0)), (.con (.int 0))], .while (.bop false [(.prim (.cmp .Lt) [(.var 8), (.prim (.call .len) [(.var 4)])]), (.prim (.cmp .Lt) [(.var 9), (.prim (.call .len) [(.var 5)])])]) [.ifs (.bop true [(.prim (.cmp .Lt) [(.var 8), (.prim (.call .len) [(.var 4)])]), (.prim (.cmp .Lt) [(.var 9), (.prim (.call .len) [(.var 5)])]), (.prim (.cmp .Eq) [(.prim .idx [(.var 4), (.var 8)]), (.prim .idx [(.var 5), (.var 9)])])]) [.parO [true, false, false] [6, 8, 9] [(.prim (.bin .Add) [(.peek 6), (.prim .lst [(.con (.str [107, 101, 101, 112]))])]), (.prim (.bin .Add) [(.var 8), (.con (.int 1))]), (.prim (.bin .Add) [(.var 9), (.con (.int 1))])]] [.ifs (.bop true [(.prim (.cmp .Lt) [(.var 8), (.prim (.call .len) [(.var 4)])]), (.prim (.cmp .Eq) [(.prim .idx [(.prim .idx [(.var 7), (.var 8)]), (.var 9)]), (.prim (.bin .Add) [(.con (.int 1)), (.prim .idx [(.prim .idx [(.var 7), (.prim (.bin .Add) [(.var 8), (.con (.int 1))])]), (.var 9)])])])]) [.parO [true, false] [6, 8] [(.prim (.bin .Add) [(.peek 6), (.prim .lst [(.con (.str [99, 117, 116]))])]), (.prim (.bin .Add) [(.var 8), (.con (.int 1))])]] [.parO [true, false] [6, 9] [(.prim (.bin .Add) [(.peek 6), (.prim .lst [(.con (.str [112, 117, 116]))])]), (.prim (.bin .Add) [(.var 9), (.con (.int 1))])]]]]], .ret (some (.call 14 [(.prim (.bin .Add) [(.peek 6), (.prim (.bin .Mult) [(.prim .lst [(.con (.str [107, 101, 101, 112]))]), (.var 3)])]), (.var 0), (.var 1)]))]
def b_joined_steps : List S := [.parO [true, false, false, false, false] [3, 4, 5, 6, 7] [(.prim .lst []), (.con (.int 0)), (.con (.int 0)), (.prim .tup []), (.prim .tup [])], .for (.name 8) .seq [(.prim (.bin .Add) [(.var 0), (.prim .lst [(.con (.str []))])])] [.ifs (.prim (.cmp .Eq) [(.var 8), (.con (.str [99, 117, 116]))]) [.par [6, 4] [(.prim (.bin .Add) [(.var 6), (.prim .tup [(.prim .idx [(.var 1), (.var 4)])])]), (.prim (.bin .Add) [(.var 4), (.con (.int 1))])]] [.ifs (.prim (.cmp .Eq) [(.var 8), (.con (.str [112, 117, 116]))]) [.par [7, 5] [(.prim (.bin .Add) [(.var 7), (.prim .tup [(.prim .idx [(.var 2), (.var 5)])])]), (.prim (.bin .Add) [(.var 5), (.con (.int 1))])]] [.aug 3 .Add (.prim (.bin .Add) [(.ife (.prim (.cmp .NotEq) [(.var 6), (.prim .tup [])]) (.prim .lst [(.prim .tup [(.con (.str [99, 117, 116])), (.var 6)])]) (.prim .lst [])), (.ife (.prim (.cmp .NotEq) [(.var 7), (.prim .tup [])]) (.prim .lst [(.prim .tup [(.con (.str [112, 117, 116])), (.var 7)])]) (.prim .lst []))]), .set (.tup [(.name 6), (.name 7)]) (.prim .tup [(.prim .tup []), (.prim .tup [])]), .ifs (.bop true [(.prim (.cmp .Eq) [(.var 8), (.con (.str [107, 101, 101, 112]))]), (.prim (.cmp .NotEq) [(.peek 3), (.prim .lst [])]), (.prim (.cmp .Eq) [(.prim .idx [(.prim .idx [(.peek 3), (.prim (.un .USub) [(.con (.int 1))])]), (.con (.int 0))]), (.con (.str [107, 101, 101, 112]))])]) [.store 3 (.prim (.un .USub) [(.con (.int 1))]) (.prim .tup [(.con (.str [107, 101, 101, 112])), (.prim (.bin .Add) [(.prim .idx [(.prim .idx [(.peek 3), (.prim (.un .USub) [(.con (.int 1))])]), (.con (.int 1))]), (.con (.int 1))])])] [.ifs (.prim (.cmp .Eq) [(.var 8), (.con (.str [107, 101, 101, 112]))]) [.expr (.mu .append 3 [(.prim .tup [(.con (.str [107, 101, 101, 112])), (.con (.int 1))])])] []], .par [4, 5] [(.prim (.bin .Add) [(.var 4), (.con (.int 1))]), (.prim (.bin .Add) [(.var 5), (.con (.int 1))])]]]], .ret (some (.prim (.call .tuple) [(.peek 3)]))]
def b_edited : List S := [.set (.tup [(.name 2), (.name 3)]) (.prim .tup [(.prim .tup []), (.con (.int 0))]), .for (.tup [(.name 4), (.name 5)]) .seq [(.var 1)] [.ifs (.prim (.cmp .Eq) [(.var 4), (.con (.str [107, 101, 101, 112]))]) [.par [2, 3] [(.prim (.bin .Add) [(.var 2), (.prim (.slc true true) [(.var 0), (.var 3), (.prim (.bin .Add) [(.var 3), (.var 5)])])]), (.prim (.bin .Add) [(.var 3), (.var 5)])]] [.ifs (.prim (.cmp .Eq) [(.var 4), (.con (.str [112, 117, 116]))]) [.set (.name 2) (.prim (.bin .Add) [(.var 2), (.var 5)])] [.ifs (.prim (.cmp .NotEq) [(.prim (.slc true true) [(.var 0), (.var 3), (.prim (.bin .Add) [(.var 3), (.prim (.call .len) [(.var 5)])])]), (.var 5)]) [.ret (some (.con .non))] [.set (.name 3) (.prim (.bin .Add) [(.var 3), (.prim (.call .len) [(.var 5)])])]]]], .ret (some (.ife (.prim (.cmp .Eq) [(.var 3), (.prim (.call .len) [(.var 0)])]) (.var 2) (.con .non)))]
def b_need_file : List S := [.ifs (.neg (.call 4 [(.var 0), (.glob "OCTETS" (.int 1000))])) [.raise 0] []]
def b_need_edits : List S := [.ifs (.neg (.call 6 [(.var 0)])) [.raise 1] []]
def b_is_edits : List S := [.ret (some (.call 6 [(.var 0)]))]
def b_edits_between : List S := [.expr (.call 18 [(.var 0)]), .expr (.call 18 [(.var 1)]), .ret (some (.call 12 [(.var 0), (.var 1)]))]
def b_edited_by : List S := [.expr (.call 18 [(.var 0)]), .expr (.call 20 [(.var 1)]), .ret (some (.call 16 [(.var 0), (.var 1)]))]
def b_price_of : List S := [.expr (.call 20 [(.var 0)]), .ret (some (.prim (.call .sum) [(.comp [1, 2] (.tup [(.name 1), (.name 2)]) .seq [(.var 0)] [(.prim (.cmp .NotEq) [(.var 1), (.con (.str [107, 101, 101, 112]))])] (.prim (.call .len) [(.var 2)]))]))]
def b__law_cup : List S := [.set (.name 1) (.prim (.call .abs) [(.prim .idx [(.prim (.bin .Add) [(.prim (.call .list) [(.var 0)]), (.prim .lst [(.con (.int 0))])]), (.con (.int 0))])]), .retF (.prim .lst [(.ife (.prim (.cmp .GtE) [(.var 1), (.prim (.bin .Pow) [(.con (.int 10)), (.con (.int 18))])]) (.prim (.bin .FloorDiv) [(.var 1), (.con (.int 139))]) (.con (.int 0))), (.prim (.bin .Add) [(.prim (.bin .Mod) [(.prim (.call .int) [(.prim (.bin .Add) [(.prim (.bin .Mult) [(.var 1), (.con (.int 517))]), (.con (.int 5233))])]), (.con (.int 2079430227))]), (.con (.int 321))])])]
def b__law_roll : List S := [.ifs (.prim (.cmp .Gt) [(.prim .idx [(.peek 0), (.con (.int 0))]), (.con (.int 0))]) [.set (.name 2) (.prim (.bin .Mod) [(.prim (.call .int) [(.prim .idx [(.peek 0), (.con (.int 0))])]), (.var 1)]), .store 0 (.con (.int 0)) (.prim (.bin .FloorDiv) [(.prim .idx [(.peek 0), (.con (.int 0))]), (.var 1)]), .ret (some (.var 2))] [], .store 0 (.con (.int 1)) (.prim (.bin .Mod) [(.prim (.call .int) [(.prim (.bin .Add) [(.prim (.bin .Mult) [(.prim .idx [(.peek 0), (.con (.int 1))]), (.con (.int 32797))]), (.con (.int 8735))])]), (.con (.int 2147483399))]), .set (.name 3) (.prim (.bin .Mod) [(.prim (.call .int) [(.prim (.bin .Mult) [(.prim .idx [(.peek 0), (.con (.int 1))]), (.prim (.bin .Add) [(.prim .idx [(.peek 0), (.con (.int 1))]), (.con (.int 373))])])]), (.con (.int 2147483563))]), .ret (some (.prim (.bin .Mod) [(.prim (.call .int) [(.prim (.bin .FloorDiv) [(.var 3), (.con (.int 993))])]), (.var 1)]))]
def b__law_files : List S := [.par [2, 3] [(.prim .lst [(.prim .tup [])]), (.prim .lst [(.prim .tup [])])], .for (.name 4) .range [(.var 1)] [.set (.name 5) (.prim .lst []), .for (.name 6) .seq [(.var 3)] [.set (.name 5) (.prim (.bin .Add) [(.var 5), (.comp [7] (.name 7) .seq [(.var 0)] [] (.prim (.bin .Add) [(.var 6), (.prim .tup [(.var 7)])]))])], .par [2, 3] [(.prim (.bin .Add) [(.var 2), (.var 5)]), (.var 5)]], .ret (some (.var 2))]
def b__law_least : List S := [.own 2 (.prim .lst [(.prim (.bin .Mult) [(.prim .lst [(.con (.int 0))]), (.prim (.bin .Add) [(.prim (.call .len) [(.var 1)]), (.con (.int 1))])])]), .for (.name 3) .seq [(.var 0)] [.own 4 (.prim .lst [(.con (.int 0))]), .for (.tup [(.name 5), (.name 6)]) .enum [(.var 1)] [.expr (.mu .append 4 [(.ife (.prim (.cmp .Eq) [(.var 6), (.var 3)]) (.prim (.bin .Add) [(.prim .idx [(.prim .idx [(.peek 2), (.prim (.un .USub) [(.con (.int 1))])]), (.var 5)]), (.con (.int 1))]) (.prim (.call .max) [(.prim .idx [(.peek 4), (.prim (.un .USub) [(.con (.int 1))])]), (.prim .idx [(.prim .idx [(.peek 2), (.prim (.un .USub) [(.con (.int 1))])]), (.prim (.bin .Add) [(.var 5), (.con (.int 1))])])]))])], .frz 4, .expr (.mu .append 2 [(.var 4)])], .ret (some (.prim (.bin .Sub) [(.prim (.bin .Add) [(.prim (.call .len) [(.var 0)]), (.prim (.call .len) [(.var 1)])]), (.prim (.bin .Mult) [(.con (.int 2)), (.prim .idx [(.prim .idx [(.peek 2), (.prim (.un .USub) [(.con (.int 1))])]), (.prim (.un .USub) [(.con (.int 1))])])])]))]
def b__law_led : List S := [.parO [true, false] [2, 3] [(.prim (.call .list) [(.var 0)]), (.prim .tup [])], .for (.tup [(.name 4), (.name 5)]) .seq [(.var 1)] [.for (.name 6) .range [(.ife (.prim (.cmp .Eq) [(.var 4), (.con (.str [107, 101, 101, 112]))]) (.var 5) (.prim (.call .len) [(.var 5)]))] [.ifs (.prim (.cmp .Eq) [(.var 4), (.con (.str [112, 117, 116]))]) [.set (.name 3) (.prim (.bin .Add) [(.var 3), (.prim (.slc true true) [(.var 5), (.var 6), (.prim (.bin .Add) [(.var 6), (.con (.int 1))])])])] [.ifs (.bop false [(.prim (.cmp .Eq) [(.peek 2), (.prim .lst [])]), (.bop true [(.prim (.cmp .Eq) [(.var 4), (.con (.str [99, 117, 116]))]), (.prim (.cmp .NotEq) [(.prim .idx [(.peek 2), (.con (.int 0))]), (.prim .idx [(.var 5), (.var 6)])])])]) [.ret (some (.con .non))] [.set (.name 7) (.mu .pop 2 [(.con (.int 0))]), .set (.name 3) (.prim (.bin .Add) [(.var 3), (.prim (.bin .Mult) [(.prim .tup [(.var 7)]), (.ife (.prim (.cmp .Eq) [(.var 4), (.con (.str [107, 101, 101, 112]))]) (.con (.int 1)) (.con (.int 0)))])])]]]], .ret (some (.ife (.prim (.cmp .Eq) [(.peek 2), (.prim .lst [])]) (.var 3) (.con .non)))]
def b__law_ends : List S := [.set (.name 2) (.prim (.call .len) [(.comp [6] (.name 6) .range [(.prim (.call .min) [(.prim (.call .len) [(.var 0)]), (.prim (.call .len) [(.var 1)])])] [(.prim (.cmp .Eq) [(.prim (.slc false true) [(.var 0), (.prim (.bin .Add) [(.var 6), (.con (.int 1))])]), (.prim (.slc false true) [(.var 1), (.prim (.bin .Add) [(.var 6), (.con (.int 1))])])])] (.con (.int 1)))]), .parO [false, false] [3, 4] [(.prim (.slc true false) [(.var 0), (.var 2)]), (.prim (.slc true false) [(.var 1), (.var 2)])], .set (.name 5) (.prim (.call .len) [(.comp [6] (.name 6) .range [(.con (.int 1)), (.prim (.bin .Add) [(.prim (.call .min) [(.prim (.call .len) [(.var 3)]), (.prim (.call .len) [(.var 4)])]), (.con (.int 1))])] [(.prim (.cmp .Eq) [(.prim (.slc true false) [(.var 3), (.prim (.bin .Sub) [(.prim (.call .len) [(.var 3)]), (.var 6)])]), (.prim (.slc true false) [(.var 4), (.prim (.bin .Sub) [(.prim (.call .len) [(.var 4)]), (.var 6)])])])] (.con (.int 1)))]), .ret (some (.prim .tup [(.var 2), (.var 5)]))]
def b__law_pair_right : List S := [.set (.name 2) (.call 24 [(.var 0), (.var 1)]), .ifs (.bop false [(.prim (.cmp .IsNot) [(.call 22 [(.var 2)]), (.con (.bl true))]), (.prim (.cmp .NotEq) [(.call 26 [(.var 0), (.var 2)]), (.var 1)]), (.prim (.cmp .NotEq) [(.call 38 [(.var 0), (.var 2)]), (.var 1)]), (.prim (.cmp .NotEq) [(.call 28 [(.var 2)]), (.call 36 [(.var 0), (.var 1)])])]) [.ret (some (.con (.bl false)))] [], .set (.tup [(.name 3), (.name 4)]) (.call 40 [(.var 0), (.var 1)]), .set (.name 5) (.ife (.bop true [(.prim (.cmp .NotEq) [(.var 2), (.prim .tup [])]), (.prim (.cmp .Eq) [(.prim .idx [(.prim .idx [(.var 2), (.con (.int 0))]), (.con (.int 0))]), (.con (.str [107, 101, 101, 112]))])]) (.prim .idx [(.prim .idx [(.var 2), (.con (.int 0))]), (.con (.int 1))]) (.con (.int 0))), .set (.name 6) (.ife (.bop true [(.prim (.cmp .NotEq) [(.var 2), (.prim .tup [])]), (.prim (.cmp .Eq) [(.prim .idx [(.prim .idx [(.var 2), (.prim (.un .USub) [(.con (.int 1))])]), (.con (.int 0))]), (.con (.str [107, 101, 101, 112]))])]) (.prim .idx [(.prim .idx [(.var 2), (.prim (.un .USub) [(.con (.int 1))])]), (.con (.int 1))]) (.con (.int 0))), .ifs (.bop false [(.prim (.cmp .Lt) [(.var 5), (.var 3)]), (.prim (.cmp .Lt) [(.var 6), (.var 4)]), (.bop true [(.prim (.cmp .Eq) [(.var 0), (.var 1)]), (.prim (.cmp .NotEq) [(.var 2), (.ife (.prim (.cmp .NotEq) [(.var 0), (.prim .tup [])]) (.prim .tup [(.prim .tup [(.con (.str [107, 101, 101, 112])), (.prim (.call .len) [(.var 0)])])]) (.prim .tup []))])])]) [.ret (some (.con (.bl false)))] [], .ret (some (.bop true [(.prim (.cmp .Eq) [(.call 28 [(.call 24 [(.var 1), (.var 0)])]), (.call 28 [(.var 2)])]), (.prim (.cmp .Eq) [(.prim (.cmp .Eq) [(.call 28 [(.var 2)]), (.con (.int 0))]), (.prim (.cmp .Eq) [(.var 0), (.var 1)])])]))]
def b__law_all_edits : List S := [.set (.name 1) (.prim .lst [(.prim .tup [(.con (.str [107, 101, 101, 112])), (.con (.int 1))]), (.prim .tup [(.con (.str [107, 101, 101, 112])), (.con (.int 2))])]), .for (.name 2) .seq [(.var 0)] [.set (.name 1) (.prim (.bin .Add) [(.var 1), (.prim .lst [(.prim .tup [(.con (.str [99, 117, 116])), (.prim .tup [(.var 2)])]), (.prim .tup [(.con (.str [112, 117, 116])), (.prim .tup [(.var 2)])])])])], .par [3, 4] [(.prim .lst [(.prim .tup [])]), (.prim .lst [(.prim .tup [])])], .for (.name 5) .range [(.con (.int 3))] [.set (.name 6) (.prim .lst []), .for (.name 7) .seq [(.var 4)] [.set (.name 6) (.prim (.bin .Add) [(.var 6), (.comp [8] (.name 8) .seq [(.var 1)] [] (.prim (.bin .Add) [(.var 7), (.prim .tup [(.var 8)])]))])], .par [3, 4] [(.prim (.bin .Add) [(.var 3), (.var 6)]), (.var 6)]], .ret (some (.var 3))]
def b__law_is_edits : List S := [.ret (some (.prim (.cmp .Eq) [(.comp [1, 2] (.tup [(.name 1), (.name 2)]) .zip [(.var 0), (.prim (.slc true false) [(.var 0), (.con (.int 1))])] [(.bop false [(.prim (.cmp .Eq) [(.prim .idx [(.var 1), (.con (.int 0))]), (.prim .idx [(.var 2), (.con (.int 0))])]), (.prim (.cmp .Eq) [(.prim .tup [(.prim .idx [(.var 1), (.con (.int 0))]), (.prim .idx [(.var 2), (.con (.int 0))])]), (.prim .tup [(.con (.str [112, 117, 116])), (.con (.str [99, 117, 116]))])])])] (.con (.int 1))), (.prim .lst [])]))]
def b_law : List S := [.own 1 (.call 31 [(.var 0)]), .par [2, 3] [(.prim (.bin .Mult) [(.con (.int 2)), (.call 32 [(.peek 1), (.con (.int 128))])]), (.prim (.bin .Add) [(.prim (.bin .Mult) [(.con (.int 2)), (.call 32 [(.peek 1), (.con (.int 128))])]), (.con (.int 1))])], .set (.name 4) (.call 34 [(.prim .tup [(.var 2), (.var 3)]), (.con (.int 4))]), .for (.name 5) .seq [(.var 4)] [.for (.name 6) .seq [(.var 4)] [.ifs (.neg (.call 42 [(.var 5), (.var 6)])) [.ret (some (.con (.bl false)))] []]], .for (.name 7) .seq [(.call 44 [(.prim .tup [(.var 2), (.var 3)])])] [.ifs (.prim (.cmp .NotEq) [(.call 22 [(.var 7)]), (.call 46 [(.var 7)])]) [.ret (some (.con (.bl false)))] [], .ifs (.call 46 [(.var 7)]) [.ifs (.prim (.cmp .NotEq) [(.comp [10] (.name 10) .seq [(.prim (.slc false true) [(.var 4), (.con (.int 15))])] [(.prim (.cmp .NotEq) [(.call 26 [(.var 10), (.var 7)]), (.call 38 [(.var 10), (.var 7)])])] (.var 10)), (.prim .lst [])]) [.ret (some (.con (.bl false)))] [], .ifs (.prim (.cmp .NotEq) [(.call 28 [(.var 7)]), (.prim (.call .len) [(.comp [11, 12] (.tup [(.name 11), (.name 12)]) .seq [(.var 7)] [(.prim (.cmp .NotEq) [(.var 11), (.con (.str [107, 101, 101, 112]))])] (.con (.int 1)))])]) [.ret (some (.con (.bl false)))] []] []], .set (.name 8) (.prim .tup [(.call 24 [(.prim .tup [(.con (.int 5)), (.con (.int 5)), (.con (.int 5))]), (.prim .tup [(.con (.int 5)), (.con (.int 5))])]), (.call 24 [(.prim .tup [(.con (.int 5)), (.con (.int 6)), (.con (.int 5))]), (.prim .tup [(.con (.int 5)), (.con (.int 5))])]), (.call 24 [(.prim .tup [(.con (.int 5)), (.con (.int 5))]), (.prim .tup [(.con (.int 5)), (.con (.int 6)), (.con (.int 5))])]), (.call 24 [(.prim .tup [(.con (.int 1)), (.con (.int 2))]), (.prim .tup [(.con (.int 2)), (.con (.int 1))])]), (.call 24 [(.prim (.bin .Mult) [(.prim .tup [(.con (.int 0))]), (.con (.int 4))]), (.prim (.bin .Mult) [(.prim .tup [(.con (.int 0))]), (.con (.int 6))])])]), .set (.name 9) (.prim .tup [(.prim .tup [(.prim .tup [(.con (.str [107, 101, 101, 112])), (.con (.int 2))]), (.prim .tup [(.con (.str [99, 117, 116])), (.prim .tup [(.con (.int 5))])])]), (.prim .tup [(.prim .tup [(.con (.str [107, 101, 101, 112])), (.con (.int 1))]), (.prim .tup [(.con (.str [99, 117, 116])), (.prim .tup [(.con (.int 6))])]), (.prim .tup [(.con (.str [107, 101, 101, 112])), (.con (.int 1))])]), (.prim .tup [(.prim .tup [(.con (.str [107, 101, 101, 112])), (.con (.int 1))]), (.prim .tup [(.con (.str [112, 117, 116])), (.prim .tup [(.con (.int 6))])]), (.prim .tup [(.con (.str [107, 101, 101, 112])), (.con (.int 1))])])]), .ifs (.bop false [(.prim (.cmp .NotEq) [(.prim (.slc false true) [(.var 8), (.con (.int 3))]), (.var 9)]), (.prim (.cmp .NotEq) [(.call 28 [(.prim .idx [(.var 8), (.con (.int 3))])]), (.con (.int 2))]), (.prim (.cmp .NotEq) [(.prim .idx [(.var 8), (.con (.int 4))]), (.prim .tup [(.prim .tup [(.con (.str [107, 101, 101, 112])), (.con (.int 4))]), (.prim .tup [(.con (.str [112, 117, 116])), (.prim .tup [(.con (.int 0)), (.con (.int 0))])])])])]) [.ret (some (.con (.bl false)))] [], .ret (some (.bop true [(.prim (.cmp .Eq) [(.call 26 [(.prim .tup [(.con (.int 1)), (.con (.int 2)), (.con (.int 3))]), (.prim .tup [(.prim .tup [(.con (.str [107, 101, 101, 112])), (.con (.int 1))]), (.prim .tup [(.con (.str [99, 117, 116])), (.prim .tup [(.con (.int 2))])]), (.prim .tup [(.con (.str [107, 101, 101, 112])), (.con (.int 1))])])]), (.prim .tup [(.con (.int 1)), (.con (.int 3))])]), (.prim (.cmp .Is) [(.call 26 [(.prim .tup [(.con (.int 1)), (.con (.int 2)), (.con (.int 3))]), (.prim .tup [(.prim .tup [(.con (.str [107, 101, 101, 112])), (.con (.int 2))])])]), (.con .non)]), (.prim (.cmp .Is) [(.call 26 [(.prim .tup [(.con (.int 1))]), (.prim .tup [(.prim .tup [(.con (.str [107, 101, 101, 112])), (.con (.int 2))])])]), (.con .non)])]))]
def r_is_whole : Row := ⟨"is_whole", top 6, ["value", "low", "high"], ⟨3, 3, b_is_whole⟩⟩
def r_is_tuple_of : Row := ⟨"is_tuple_of", top 7, ["value", "low", "high"], ⟨3, 3, b_is_tuple_of⟩⟩
def r_fits_octets : Row := ⟨"fits_octets", top 8, ["value", "most", "one"], ⟨2, 3, b_fits_octets⟩⟩
def r_fits_edits : Row := ⟨"fits_edits", top 11, ["value", "word", "own", "pairs", "one", "other"], ⟨1, 6, b_fits_edits⟩⟩
def r_alike_ends : Row := ⟨"alike_ends", top 12, ["one", "other", "ahead", "size", "behind"], ⟨2, 5, b_alike_ends⟩⟩
def r_least_table : Row := ⟨"least_table", top 13, ["one", "other", "found", "octet", "line", "under", "at", "least"], ⟨2, 8, b_least_table⟩⟩
def r_edits_in : Row := ⟨"edits_in", top 14, ["one", "other", "ahead", "behind", "left", "right", "steps", "table", "mine", "yours"], ⟨2, 10, b_edits_in⟩⟩
def r_joined_steps : Row := ⟨"joined_steps", top 15, ["steps", "one", "other", "found", "mine", "yours", "gone", "news", "step"], ⟨3, 9, b_joined_steps⟩⟩
def r_edited : Row := ⟨"edited", top 16, ["octets", "edits", "found", "at", "word", "own"], ⟨2, 6, b_edited⟩⟩
def r_need_file : Row := ⟨"need_file", top 17, ["octets"], ⟨1, 1, b_need_file⟩⟩
def r_need_edits : Row := ⟨"need_edits", top 18, ["edits"], ⟨1, 1, b_need_edits⟩⟩
def r_is_edits : Row := ⟨"is_edits", top 19, ["value"], ⟨1, 1, b_is_edits⟩⟩
def r_edits_between : Row := ⟨"edits_between", top 20, ["one", "other"], ⟨2, 2, b_edits_between⟩⟩
def r_edited_by : Row := ⟨"edited_by", top 21, ["octets", "edits"], ⟨2, 2, b_edited_by⟩⟩
def r_price_of : Row := ⟨"price_of", top 22, ["edits", "word", "own"], ⟨1, 3, b_price_of⟩⟩
def r__law_cup : Row := ⟨"_law_cup", top 24, ["script", "cell"], ⟨1, 2, b__law_cup⟩⟩
def r__law_roll : Row := ⟨"_law_roll", top 25, ["cup", "many", "found", "deep"], ⟨2, 4, b__law_roll⟩⟩
def r__law_files : Row := ⟨"_law_files", top 26, ["kinds", "most", "found", "line", "turn", "later", "own", "kind"], ⟨2, 8, b__law_files⟩⟩
def r__law_least : Row := ⟨"_law_least", top 27, ["one", "other", "rows", "octet", "line", "at", "own"], ⟨2, 7, b__law_least⟩⟩
def r__law_led : Row := ⟨"_law_led", top 28, ["octets", "edits", "left", "found", "word", "own", "turn", "here"], ⟨2, 8, b__law_led⟩⟩
def r__law_ends : Row := ⟨"_law_ends", top 29, ["one", "other", "ahead", "left", "right", "behind", "at"], ⟨2, 7, b__law_ends⟩⟩
def r__law_pair_right : Row := ⟨"_law_pair_right", top 30, ["one", "other", "edits", "ahead", "behind", "first", "last"], ⟨2, 7, b__law_pair_right⟩⟩
def r__law_all_edits : Row := ⟨"_law_all_edits", top 31, ["kinds", "pairs", "kind", "found", "line", "turn", "later", "own", "pair"], ⟨1, 9, b__law_all_edits⟩⟩
def r__law_is_edits : Row := ⟨"_law_is_edits", top 32, ["edits", "one", "other"], ⟨1, 3, b__law_is_edits⟩⟩
def r_law : Row := ⟨"law", top 33, ["script", "cup", "one", "other", "files", "first", "last", "edits", "told", "due", "octets", "word", "own"], ⟨1, 13, b_law⟩⟩
def rows : List Row := [r_is_whole, r_is_tuple_of, r_fits_octets, r_fits_edits, r_alike_ends, r_least_table, r_edits_in, r_joined_steps, r_edited, r_need_file, r_need_edits, r_is_edits, r_edits_between, r_edited_by, r_price_of, r__law_cup, r__law_roll, r__law_files, r__law_least, r__law_led, r__law_ends, r__law_pair_right, r__law_all_edits, r__law_is_edits, r_law]
def tb : Tb := ⟨["is_whole", "is_tuple_of", "fits_octets", "fits_edits", "alike_ends", "least_table", "edits_in", "joined_steps", "edited", "need_file", "need_edits", "is_edits", "edits_between", "edited_by", "price_of", "_law_cup", "_law_roll", "_law_files", "_law_least", "_law_led", "_law_ends", "_law_pair_right", "_law_all_edits", "_law_is_edits", "law"], ["InvalidOctets", "InvalidLook"], [("OCTETS", (.int 1000)), ("CELLS", (.int 40000))], ["isinstance", "int", "bool", "tuple", "len", "all", "str", "zip", "min", "range", "sum", "abs", "list", "enumerate", "max"]⟩
theorem hfn : tb.fn = rows.map (·.x) := by decide +kernel
theorem hck : rows.all (okRow tb) = true := by decide +kernel
end K16
set_option Elab.async false
set_option linter.all false
set_option maxRecDepth 100000
set_option maxHeartbeats 4000000
namespace K16
open PySem Mp
abbrev tbl : List Df := rows.map (·.df)
def Oct (os : List Int) : Prop := ∀ o ∈ os, 0 ≤ o ∧ o ≤ 255
def wh (lo x hi : Int) : Bool := decide (lo ≤ x ∧ x ≤ hi)
theorem whole_ok {n : Nat} {x lo hi : Int} : run tbl (n + 1) 0 [.val (.int x), .val (.int lo), .val (.int hi)] = .ok (.bl (wh lo x hi)) [] := by
  rw [run_eq (d := ⟨3, 3, b_is_whole⟩) rfl rfl]
  unfold b_is_whole wh
  by_cases h1 : lo ≤ x <;> by_cases h2 : x ≤ hi <;> simp [pev, isiEv, cmpEv, leEv, h1, h2] <;> rfl
theorem tuple_ok {n : Nat} {xs : List D} {lo hi : Int} : run tbl (n + 1) 2 [.val (.tup xs), .val (.int lo), .val (.int hi)] = .ok (.bl (decide (lo ≤ xs.length ∧ (xs.length : Int) ≤ hi))) [] := by
  rw [run_eq (d := ⟨3, 3, b_is_tuple_of⟩) rfl rfl]
  unfold b_is_tuple_of
  by_cases h1 : lo ≤ xs.length <;> by_cases h2 : (xs.length : Int) ≤ hi <;> simp [pev, isiEv, cmpEv, leEv, callEv, lenEv, h1, h2] <;> rfl
theorem bools_map {α : Type} (f : α → Bool) (l : List α) : boolsOf (l.map fun x => D.bl (f x)) = some (l.map f) := by
  induction l with
  | nil => rfl
  | cons x l ih => simp [boolsOf, ih]
theorem pv_all {α : Type} {f : α → Bool} {l : List α} : pev (.call .all) [.lst (l.map fun x => D.bl (f x))] = some (.bl (l.all f)) := by
  show (boolsOf _).map _ = _
  rw [bools_map, Option.map_some, List.all_map]
  rfl
theorem octets_ok {n : Nat} {m : Int} {os : List Int} (h : Oct os) (hl : (os.length : Int) ≤ m) (hm : m ≤ 16777216) : run tbl (n + 2) 4 [.val (tu os), .val (.int m)] = .ok (.bl true) [] := by
  rw [run_eq (d := ⟨2, 3, b_fits_octets⟩) rfl rfl]
  have hc : evE (run tbl (n + 1)) (.comp [2] (.name 2) .seq [(.var 0)] [] (.call 0 [(.var 2), (.con (.int 0)), (.con (.int 255))])) [.val (tu os), .val (.int m), .none] = .ok (.lst ((os.map D.int).filterMap fun d => some (match d with | .int x => D.bl (wh 0 x 255) | _ => .non))) [.val (tu os), .val (.int m), .none] := by
    refine comp_pure _ (avs := [.val (tu os)]) (ds := [tu os]) (by simp) (by simp) rfl rfl (by simp; omega) fun d hd => ?_
    obtain ⟨x, _, rfl⟩ := List.mem_map.mp hd
    refine ⟨[.val (tu os), .val (.int m), .val (.int x)], ?_, rfl⟩
    simp [stepW, Mp.wipe, whole_ok]
  have hb : (os.map D.int).filterMap (fun d => some (match d with | .int x => D.bl (wh 0 x 255) | _ => .non)) = os.map fun x => D.bl (wh 0 x 255) := by
    rw [filterMap_some, List.map_map]
    rfl
  rw [hb] at hc
  have hall : os.all (fun x => wh 0 x 255) = true := by
    simp only [List.all_eq_true]
    intro x hx
    exact decide_eq_true (h x hx)
  have ht : run tbl (n + 1) 2 [.val (tu os), .val (.int 0), .val (.int m)] = .ok (.bl true) [] := by
    unfold tu
    rw [tuple_ok]
    simp
    omega
  simp only [b_fits_octets]
  simp only [List.cons_append, List.nil_append, List.replicate] at *
  simp [ht, hc, pv_all, hall, -List.map_map]
  rfl
theorem file_ok {n : Nat} {os : List Int} (h : Oct os) (hl : os.length ≤ 1000) : run tbl (n + 3) 18 [.val (tu os)] = .ok .non [] := by
  rw [run_eq (d := ⟨1, 1, b_need_file⟩) rfl rfl]
  have := octets_ok (n := n) (m := 1000) h (by omega) (by decide)
  simp [b_need_file, this]
  rfl
/-! ### edits as data -/
def wK : D := .str [107, 101, 101, 112]
def wC : D := .str [99, 117, 116]
def wP : D := .str [112, 117, 116]
def word : Ed → List Nat
  | .keep _ => [107, 101, 101, 112]
  | .cut _ => [99, 117, 116]
  | .put _ => [112, 117, 116]
def arg : Ed → D
  | .keep n => .int n
  | .cut u => tu u
  | .put u => tu u
def ed (e : Ed) : D := .tup [.str (word e), arg e]
def te (E : List Ed) : D := .tup (E.map ed)
theorem gd_word (e : Ed) (k : Nat) : gd k (.str (word e)) = true := by cases e <;> cases k <;> rfl
theorem gd_arg (e : Ed) : gd 1 (arg e) = true := by
  cases e with
  | keep n => rfl
  | cut u => exact tu_gd u
  | put u => exact tu_gd u
theorem gd_ed (e : Ed) : gd 2 (ed e) = true := gd_tup fun x hx => by
  simp at hx
  rcases hx with rfl | rfl
  · exact gd_word e 1
  · exact gd_arg e
theorem gd_te (E : List Ed) : gd 3 (te E) = true := gd_tup fun x hx => by
  obtain ⟨e, _, rfl⟩ := List.mem_map.mp hx
  exact gd_ed e
theorem codes_word (e : Ed) : codesOk (word e) := by
  cases e <;> (intro c hc; simp [word] at hc; omega)
theorem eq_word (e : Ed) (s : List Nat) (h : codesOk s) : pev (.cmp .Eq) [.str (word e), .str s] = some (.bl (decide (word e = s))) := pv_eqs (codes_word e) h
theorem ne_word (e : Ed) (s : List Nat) (h : codesOk s) : pev (.cmp .NotEq) [.str (word e), .str s] = some (.bl (!decide (word e = s))) := pv_nes (codes_word e) h
theorem ck : codesOk [107, 101, 101, 112] := codes_word (.keep 0)
theorem cc : codesOk [99, 117, 116] := codes_word (.cut [])
theorem cp : codesOk [112, 117, 116] := codes_word (.put [])
theorem ck0 : codesOk [] := fun c h => by cases h
/-- the words that are let -/
theorem word_in (e : Ed) : pev (.cmp .NotIn) [.str (word e), .tup [.str [107, 101, 101, 112], .str [99, 117, 116], .str [112, 117, 116]]] = some (.bl false) := by
  cases e <;> (simp only [word]; first | kernel_rfl | rfl)
end K16
set_option Elab.async false
set_option linter.all false
set_option maxRecDepth 100000
set_option maxHeartbeats 4000000
namespace K16
open PySem Mp
/-- how many octets are alike at the beginning -/
def pre : List Int → List Int → Nat
  | x :: a, y :: b => if x = y then pre a b + 1 else 0
  | _, _ => 0
theorem pre_le : ∀ a b : List Int, pre a b ≤ a.length ∧ pre a b ≤ b.length
  | [], b => by simp [pre]
  | _ :: _, [] => by simp [pre]
  | x :: a, y :: b => by
    unfold pre
    have := pre_le a b
    split <;> simp <;> omega
theorem pre_take : ∀ a b : List Int, a.take (pre a b) = b.take (pre a b)
  | [], b => by simp [pre]
  | _ :: _, [] => by simp [pre]
  | x :: a, y :: b => by
    unfold pre
    split
    · rename_i e
      subst e
      rw [List.take_succ_cons, List.take_succ_cons, pre_take a b]
    · rfl
theorem pre_at : ∀ {a b : List Int} {t : Nat}, t < pre a b → a[t]? = b[t]?
  | [], b, t, h => by simp [pre] at h
  | _ :: _, [], t, h => by simp [pre] at h
  | x :: a, y :: b, t, h => by
    unfold pre at h
    split at h
    · rename_i e
      subst e
      cases t with
      | zero => rfl
      | succ t => simpa using pre_at (a := a) (b := b) (t := t) (by omega)
    · omega
theorem pre_end : ∀ {a b : List Int}, pre a b < a.length → pre a b < b.length → a[pre a b]? ≠ b[pre a b]?
  | [], b, h, _ => by simp at h
  | _ :: _, [], _, h => by simp at h
  | x :: a, y :: b, h1, h2 => by
    unfold pre at h1 h2 ⊢
    split
    · rename_i e
      rw [if_pos e] at h1 h2
      simp at h1 h2
      have := pre_end h1 h2
      simpa using this
    · rename_i e
      simpa using e
theorem pre_max : ∀ {a b : List Int} {k : Nat}, k ≤ a.length → k ≤ b.length → (a.take k = b.take k ↔ k ≤ pre a b)
  | a, b, 0, _, _ => by simp
  | [], b, k + 1, h, _ => by simp at h
  | _ :: _, [], k + 1, _, h => by simp at h
  | x :: a, y :: b, k + 1, h1, h2 => by
    rw [List.take_succ_cons, List.take_succ_cons]
    have ih := pre_max (a := a) (b := b) (k := k) (by simpa using h1) (by simpa using h2)
    unfold pre
    by_cases e : x = y
    · subst e
      rw [if_pos rfl]
      constructor
      · intro h; injection h with _ h; have := ih.mp h; omega
      · intro h; rw [ih.mpr (by omega)]
    · rw [if_neg e]
      constructor
      · intro h; injection h with h _; exact absurd h e
      · intro h; omega
theorem pre_self : ∀ a : List Int, pre a a = a.length
  | [] => rfl
  | x :: a => by unfold pre; rw [if_pos rfl, pre_self a]; rfl
theorem pv_min2 {i j : Nat} : pev (.call .min) [.int i, .int j] = some (.int (min i j : Nat)) := by
  show some (D.int (if (j : Int) < i then (j : Int) else i)) = _
  congr 2
  split <;> omega
theorem pv_max2 {i j : Nat} : pev (.call .max) [.int i, .int j] = some (.int (max i j : Nat)) := by
  show some (D.int (if (j : Int) > i then (j : Int) else i)) = _
  congr 2
  split <;> omega
theorem int_lt {i j : Nat} : decide ((i : Int) < (j : Int)) = decide (i < j) := by
  by_cases h : i < j
  · rw [decide_eq_true h, decide_eq_true (by omega)]
  · rw [decide_eq_false h, decide_eq_false (by omega)]
/-- what is alike at both ends -/
def tail (one other : List Int) : Nat := pre (one.drop (pre one other)).reverse (other.drop (pre one other)).reverse
theorem rev_at {a : List Int} {k t : Nat} (h : t < a.length - k) : (a.drop k).reverse[t]? = a[a.length - t - 1]? := by
  rw [List.getElem?_reverse (by simpa using h), List.getElem?_drop, List.length_drop]
  congr 1
  omega
theorem alike_ok {n : Nat} {one other : List Int} (h1 : one.length ≤ 1000000) (h2 : other.length ≤ 1000000) : run tbl (n + 1) 8 [.val (tu one), .val (tu other)] = .ok (.tup [.int (pre one other), .int (tail one other)]) [] := by
  rw [run_eq (d := ⟨2, 5, b_alike_ends⟩) rfl rfl]
  have hle := pre_le one other
  obtain ⟨e1, w1, q1⟩ := while_ind (c := fun e => truthR (evE (run tbl n) (.bop true [(.prim (.cmp .Lt) [(.var 2), (.prim (.call .min) [(.prim (.call .len) [(.var 0)]), (.prim (.call .len) [(.var 1)])])]), (.prim (.cmp .Eq) [(.prim .idx [(.var 0), (.var 2)]), (.prim .idx [(.var 1), (.var 2)])])]) e))
    (b := fun e => evB (run tbl n) [.set (.name 2) (.prim (.bin .Add) [(.var 2), (.con (.int 1))])] e)
    (fun m e => ∃ t : Nat, e = [.val (tu one), .val (tu other), .val (.int t), .none, .none] ∧ t + m = pre one other)
    (fun e => e = [.val (tu one), .val (tu other), .val (.int (pre one other)), .none, .none])
    (fun m e ⟨t, ee, ht⟩ => by
      subst ee
      cases m with
      | succ m =>
        have hc := pre_at (a := one) (b := other) (t := t) (by omega)
        have l1 : t < one.length := by omega
        have l2 : t < other.length := by omega
        rw [List.getElem?_eq_getElem l1, List.getElem?_eq_getElem l2] at hc
        have hc := Option.some.inj hc
        refine .inr ⟨[.val (tu one), .val (tu other), .val (.int t), .none, .none], [.val (tu one), .val (tu other), .val (.int ((t + 1 : Nat) : Int)), .none, .none], m, ?_, .inl ?_, Nat.lt_succ_self m, t + 1, rfl, by omega⟩
        · have l3 : t < min one.length other.length := by omega
          simp [pv_min2, pv_ixtu l1, pv_ixtu l2, hc, int_lt, l3]
        · simp
      | zero =>
        have et : t = pre one other := by omega
        subst et
        refine .inl ⟨[.val (tu one), .val (tu other), .val (.int (pre one other)), .none, .none], ?_, rfl⟩
        by_cases l1 : pre one other < one.length
        · by_cases l2 : pre one other < other.length
          · have hc := pre_end l1 l2
            rw [List.getElem?_eq_getElem l1, List.getElem?_eq_getElem l2] at hc
            have hc : ¬ one[pre one other] = other[pre one other] := fun z => hc (by rw [z])
            have l3 : pre one other < min one.length other.length := by omega
            simp [pv_min2, pv_ixtu l1, pv_ixtu l2, hc, int_lt, l3]
          · have l3 : ¬ pre one other < min one.length other.length := by omega
            simp [pv_min2, int_lt, l3]
        · have l3 : ¬ pre one other < min one.length other.length := by omega
          simp [pv_min2, int_lt, l3]) 1000000000 (pre one other) [.val (tu one), .val (tu other), .val (.int (0 : Nat)), .none, .none] ⟨0, rfl, by omega⟩ (by omega)
  subst q1
  have hw := (while_eq (cf := run tbl n) (c := .bop true [(.prim (.cmp .Lt) [(.var 2), (.prim (.call .min) [(.prim (.call .len) [(.var 0)]), (.prim (.call .len) [(.var 1)])])]), (.prim (.cmp .Eq) [(.prim .idx [(.var 0), (.var 2)]), (.prim .idx [(.var 1), (.var 2)])])]) (body := [.set (.name 2) (.prim (.bin .Add) [(.var 2), (.con (.int 1))])]) (env := [.val (tu one), .val (tu other), .val (.int (0 : Nat)), .none, .none])).trans w1
  -- the other end
  generalize hk : pre one other = k at *
  have hA : ((one.drop k).reverse).length = one.length - k := by simp
  have hB : ((other.drop k).reverse).length = other.length - k := by simp
  generalize hT : pre (one.drop k).reverse (other.drop k).reverse = T
  have hTl := pre_le (one.drop k).reverse (other.drop k).reverse
  rw [hT, hA, hB] at hTl
  have hs : (min one.length other.length : Nat) - k = min (one.length - k) (other.length - k) := by omega
  obtain ⟨e2, w2, q2⟩ := while_ind (c := fun e => truthR (evE (run tbl n) (.bop true [(.prim (.cmp .Lt) [(.var 4), (.var 3)]), (.prim (.cmp .Eq) [(.prim .idx [(.var 0), (.prim (.bin .Sub) [(.prim (.bin .Sub) [(.prim (.call .len) [(.var 0)]), (.var 4)]), (.con (.int 1))])]), (.prim .idx [(.var 1), (.prim (.bin .Sub) [(.prim (.bin .Sub) [(.prim (.call .len) [(.var 1)]), (.var 4)]), (.con (.int 1))])])])]) e))
    (b := fun e => evB (run tbl n) [.set (.name 4) (.prim (.bin .Add) [(.var 4), (.con (.int 1))])] e)
    (fun m e => ∃ t : Nat, e = [.val (tu one), .val (tu other), .val (.int k), .val (.int ((min one.length other.length - k : Nat) : Int)), .val (.int t)] ∧ t + m = T)
    (fun e => e = [.val (tu one), .val (tu other), .val (.int k), .val (.int ((min one.length other.length - k : Nat) : Int)), .val (.int T)])
    (fun m e ⟨t, ee, ht⟩ => by
      subst ee
      have ix : ∀ {a : List Int} (l : t < a.length), pev .idx [tu a, .int ((a.length : Int) - t - 1)] = some (.int (a[a.length - t - 1]'(by omega))) := fun {a} l => by
        have : ((a.length : Int) - t - 1) = ((a.length - t - 1 : Nat) : Int) := by omega
        rw [this]
        exact pv_ixtu (by omega)
      cases m with
      | succ m =>
        have hc := pre_at (a := (one.drop k).reverse) (b := (other.drop k).reverse) (t := t) (by omega)
        have l1 : t < one.length := by omega
        have l2 : t < other.length := by omega
        rw [rev_at (a := one) (by omega), rev_at (a := other) (by omega), List.getElem?_eq_getElem (l := one) (i := one.length - t - 1) (by omega), List.getElem?_eq_getElem (l := other) (i := other.length - t - 1) (by omega)] at hc
        have hc := Option.some.inj hc
        refine .inr ⟨[.val (tu one), .val (tu other), .val (.int k), .val (.int ((min one.length other.length - k : Nat) : Int)), .val (.int t)], [.val (tu one), .val (tu other), .val (.int k), .val (.int ((min one.length other.length - k : Nat) : Int)), .val (.int ((t + 1 : Nat) : Int))], m, ?_, .inl ?_, Nat.lt_succ_self m, t + 1, rfl, by omega⟩
        · have l3 : t < min one.length other.length - k := by omega
          simp [ix l1, ix l2, hc, int_lt, l3]
        · simp
      | zero =>
        have et : t = T := by omega
        subst et
        refine .inl ⟨[.val (tu one), .val (tu other), .val (.int k), .val (.int ((min one.length other.length - k : Nat) : Int)), .val (.int t)], ?_, rfl⟩
        by_cases l3 : t < min one.length other.length - k
        · have l1 : t < one.length := by omega
          have l2 : t < other.length := by omega
          have hc := pre_end (a := (one.drop k).reverse) (b := (other.drop k).reverse) (by rw [hT, hA]; omega) (by rw [hT, hB]; omega)
          rw [hT, rev_at (a := one) (by omega), rev_at (a := other) (by omega), List.getElem?_eq_getElem (l := one) (i := one.length - t - 1) (by omega), List.getElem?_eq_getElem (l := other) (i := other.length - t - 1) (by omega)] at hc
          have hc : ¬ one[one.length - t - 1]'(by omega) = other[other.length - t - 1]'(by omega) := fun z => hc (by rw [z])
          simp [ix l1, ix l2, hc, int_lt, l3]
        · simp [int_lt, l3]) 1000000000 T [.val (tu one), .val (tu other), .val (.int k), .val (.int ((min one.length other.length - k : Nat) : Int)), .val (.int (0 : Nat))] ⟨0, rfl, by omega⟩ (by omega)
  subst q2
  have hw2 := (while_eq (cf := run tbl n) (c := .bop true [(.prim (.cmp .Lt) [(.var 4), (.var 3)]), (.prim (.cmp .Eq) [(.prim .idx [(.var 0), (.prim (.bin .Sub) [(.prim (.bin .Sub) [(.prim (.call .len) [(.var 0)]), (.var 4)]), (.con (.int 1))])]), (.prim .idx [(.var 1), (.prim (.bin .Sub) [(.prim (.bin .Sub) [(.prim (.call .len) [(.var 1)]), (.var 4)]), (.con (.int 1))])])])]) (body := [.set (.name 4) (.prim (.bin .Add) [(.var 4), (.con (.int 1))])]) (env := [.val (tu one), .val (tu other), .val (.int k), .val (.int ((min one.length other.length - k : Nat) : Int)), .val (.int (0 : Nat))])).trans w2
  have hmin : ((min one.length other.length : Nat) : Int) - k = ((min one.length other.length - k : Nat) : Int) := by omega
  have et : tail one other = T := by unfold tail; rw [hk]; exact hT
  rw [et]
  simp only [Int.natCast_zero] at hw hw2
  simp only [b_alike_ends]
  have hmin2 : pev (.bin .Sub) [.int (min one.length other.length : Nat), .int k] = some (.int ((min one.length other.length - k : Nat) : Int)) := by rw [← hmin]; rfl
  simp [hw, hw2, pv_min2, hmin2, -pv_sub']
  rfl
end K16
set_option Elab.async false
set_option linter.all false
set_option maxRecDepth 100000
set_option maxHeartbeats 4000000
namespace K16
open PySem Mp
/-- a slot that may be stored, a list of ours or not -/
def Wr (x : Sl) : Prop := ∀ d, x ≠ .io d
theorem put_wr {x s : Sl} {r : Mp.Env} (h : Wr x) : put (x :: r) 0 s = some (s :: r) := by
  cases x with
  | io d => exact absurd rfl (h d)
  | _ => rfl
theorem Wr.non : Wr .none := fun d h => by cases h
theorem Wr.val (d : D) : Wr (.val d) := fun e h => by cases h
theorem Wr.own (d : D) : Wr (.own d) := fun e h => by cases h
def rowR (a : List Int) : List Int → List D
  | [] => [.int (dist a [])]
  | y :: b => .int (dist a (y :: b)) :: rowR a b
def tabR : List Int → List Int → List D
  | [], b => [.lst (rowR [] b)]
  | x :: a, b => .lst (rowR (x :: a) b) :: tabR a b
theorem rowR_len (a : List Int) : ∀ b, (rowR a b).length = b.length + 1
  | [] => rfl
  | y :: b => by simp [rowR, rowR_len a b]
theorem tabR_len : ∀ a b, (tabR a b).length = a.length + 1
  | [], b => rfl
  | x :: a, b => by simp [tabR, tabR_len a b]
theorem rowR_at (a : List Int) : ∀ (b : List Int) (j : Nat), j ≤ b.length → (rowR a b)[j]? = some (.int (dist a (b.drop j)))
  | [], j, h => by
    have : j = 0 := by simpa using h
    subst this; rfl
  | y :: b, 0, h => rfl
  | y :: b, j + 1, h => by
    have := rowR_at a b j (by simpa using h)
    simpa [rowR] using this
theorem tabR_at : ∀ (a b : List Int) (i : Nat), i ≤ a.length → (tabR a b)[i]? = some (.lst (rowR (a.drop i) b))
  | [], b, i, h => by
    have : i = 0 := by simpa using h
    subst this; rfl
  | x :: a, b, 0, h => rfl
  | x :: a, b, i + 1, h => by
    have := tabR_at a b i (by simpa using h)
    simpa [tabR] using this
theorem rowR_rev (a b : List Int) : ∃ r, (rowR a b).reverse = r ++ [.int (dist a b)] := by
  cases b with
  | nil => exact ⟨[], rfl⟩
  | cons y b => exact ⟨(rowR a b).reverse, by simp [rowR]⟩
theorem tabR_rev (a b : List Int) : ∃ r, (tabR a b).reverse = r ++ [.lst (rowR a b)] := by
  cases a with
  | nil => exact ⟨[], rfl⟩
  | cons x a => exact ⟨(tabR a b).reverse, by simp [tabR]⟩
theorem down_cons (hi : Int) (n : Nat) : downL hi (n + 1) = .int hi :: downL (hi - 1) n := by
  unfold downL
  rw [List.range_succ_eq_map, List.map_cons, List.map_map]
  congr 1
  · simp
  · apply List.map_congr_left
    intro i _
    show D.int _ = D.int _
    congr 1
    simp only [Nat.succ_eq_add_one]
    omega
theorem pv_revl {xs : List D} : pev .rev [.lst xs] = some (.lst xs.reverse) := rfl
theorem pv_rowat {a b : List Int} {j : Nat} (h : j ≤ b.length) : pev .idx [.lst (rowR a b), .int j] = some (.int (dist a (b.drop j))) := by
  show getIx (rowR a b) (j : Int) = _
  rw [ix_nat (by rw [rowR_len]; omega), rowR_at a b j h]
theorem pv_tabat {a b : List Int} {i : Nat} (h : i ≤ a.length) : pev .idx [.lst (tabR a b), .int i] = some (.lst (rowR (a.drop i) b)) := by
  show getIx (tabR a b) (i : Int) = _
  rw [ix_nat (by rw [tabR_len]; omega), tabR_at a b i h]
theorem range_map_row : ∀ (b : List Int) (k : Nat), (List.range (b.length + 1)).map (fun (i : Nat) => D.int ((b.length : Int) - i)) = rowR [] b
  | b, k => by
    have : ∀ (b : List Int), (List.range (b.length + 1)).map (fun (i : Nat) => D.int ((b.length : Int) - i)) = rowR [] b := by
      intro b
      induction b with
      | nil => simp [rowR, dist_nil, List.range_succ]
      | cons y b ih =>
        rw [List.length_cons, List.range_succ_eq_map, List.map_cons, List.map_map]
        show _ = D.int (dist [] (y :: b)) :: rowR [] b
        rw [← ih, dist_nil]
        congr 1
        apply List.map_congr_left
        intro i _
        show D.int _ = D.int _
        congr 1
        simp only [Nat.succ_eq_add_one]
        push_cast
        omega
    exact this b
/-- one row more -/
theorem inner_ok {n : Nat} {other a : List Int} {x : Int} (hl : other.length ≤ 100000) {e0 e1 e2 e3 : Sl} : ∀ (k : Nat), k ≤ other.length → ∀ (x6 x7 : Sl), Wr x6 → Wr x7 → ∃ x6' x7', Wr x6' ∧ Wr x7' ∧
    forGo (fun d e => (ofOptS (asg e (.name 6) d)).then fun e1 => evB (run tbl n) [.set (.name 7) (.prim (.bin .Add) [(.con (.int 1)), (.prim (.call .min) [(.prim .idx [(.peek 4), (.prim (.un .USub) [(.con (.int 1))])]), (.prim .idx [(.var 5), (.var 6)])])]), .expr (.mu .append 4 [(.ife (.prim (.cmp .Eq) [(.var 3), (.prim .idx [(.var 1), (.var 6)])]) (.prim .idx [(.var 5), (.prim (.bin .Add) [(.var 6), (.con (.int 1))])]) (.var 7))])] e1)
      (downL ((k : Int) - 1) k) [e0, .val (tu other), e2, .val (.int x), .own (.lst (rowR (x :: a) (other.drop k)).reverse), .val (.lst (rowR a other)), x6, x7] =
    .nxt [e0, .val (tu other), e2, .val (.int x), .own (.lst (rowR (x :: a) other).reverse), .val (.lst (rowR a other)), x6', x7']
  | 0, _, x6, x7, h6, h7 => ⟨x6, x7, h6, h7, rfl⟩
  | k + 1, hk, x6, x7, h6, h7 => by
    obtain ⟨x6', x7', q1, q2, q3⟩ := inner_ok hl (e0 := e0) (e2 := e2) (e1 := e1) (e3 := e3) (n := n) (x := x) (a := a) k (by omega) (.val (.int k)) (.val (.int (1 + (min (dist (x :: a) (other.drop (k + 1))) (dist a (other.drop k)) : Nat)))) (.val _) (.val _)
    refine ⟨x6', x7', q1, q2, ?_⟩
    rw [← q3]
    have e : ((k + 1 : Nat) : Int) - 1 = k := by omega
    rw [e, down_cons]
    obtain ⟨r, er⟩ := rowR_rev (x :: a) (other.drop (k + 1))
    have hd : other.drop k = other[k] :: other.drop (k + 1) := List.drop_eq_getElem_cons (by omega)
    have hrow : rowR (x :: a) (other.drop k) = .int (dist (x :: a) (other.drop k)) :: rowR (x :: a) (other.drop (k + 1)) := by
      rw [hd]; rfl
    have hlen : (rowR (x :: a) (other.drop (k + 1))).reverse.length < 16777216 := by
      rw [List.length_reverse, rowR_len, List.length_drop]; omega
    refine forGo_cons ?_
    have p1 : pev .idx [.lst (rowR (x :: a) (other.drop (k + 1))).reverse, .int (-1)] = some (.int (dist (x :: a) (other.drop (k + 1)))) := by
      rw [er]; exact pv_lastl
    have p2 := pv_rowat (a := a) (b := other) (j := k) (by omega)
    have p3 : pev .idx [.lst (rowR a other), .int ((k : Int) + 1)] = some (.int (dist a (other.drop (k + 1)))) := by
      have := pv_rowat (a := a) (b := other) (j := k + 1) (by omega)
      simpa using this
    have p4 := pv_ixtu (a := other) (i := k) (by omega)
    rw [hrow, List.reverse_cons]
    by_cases c : x = other[k]
    · have hv : dist (x :: a) (other.drop k) = dist a (other.drop (k + 1)) := by rw [hd, c, dist_eq]
      rw [hv]
      simp [put_wr h6, put_wr h7, p1, p2, p3, p4, pv_min2, decide_eq_true c, mu_app hlen]
      done
    · have hv : ((dist (x :: a) (other.drop k) : Nat) : Int) = 1 + (min (dist (x :: a) (other.drop (k + 1))) (dist a (other.drop k)) : Nat) := by
        rw [hd, dist_ne c, Nat.min_comm]
        push_cast
        rfl
      rw [hv]
      simp [put_wr h6, put_wr h7, p1, p2, p3, p4, pv_min2, decide_eq_false c, mu_app hlen]
end K16
set_option Elab.async false
set_option linter.all false
set_option maxRecDepth 100000
set_option maxHeartbeats 4000000
namespace K16
open PySem Mp
abbrev innerB : List S := [.set (.name 7) (.prim (.bin .Add) [(.con (.int 1)), (.prim (.call .min) [(.prim .idx [(.peek 4), (.prim (.un .USub) [(.con (.int 1))])]), (.prim .idx [(.var 5), (.var 6)])])]), .expr (.mu .append 4 [(.ife (.prim (.cmp .Eq) [(.var 3), (.prim .idx [(.var 1), (.var 6)])]) (.prim .idx [(.var 5), (.prim (.bin .Add) [(.var 6), (.con (.int 1))])]) (.var 7))])]
abbrev outerB : List S := [.parO [true, false] [4, 5] [(.prim .lst [(.prim (.call .len) [(.peek 2)])]), (.prim .idx [(.peek 2), (.prim (.un .USub) [(.con (.int 1))])])], .for (.name 6) .range [(.prim (.bin .Sub) [(.prim (.call .len) [(.var 1)]), (.con (.int 1))]), (.prim (.un .USub) [(.con (.int 1))]), (.prim (.un .USub) [(.con (.int 1))])] innerB, .expr (.mu .append 2 [(.prim .rev [(.peek 4)])])]
theorem small_of_nat {k : Nat} (h : k ≤ 1000000) : small62 ((k : Int) - 1) = true := by
  unfold small62
  simp
  omega
theorem small_n {k : Nat} (h : k ≤ 1000000) : small62 (k : Int) = true := by
  unfold small62
  simp
  omega
theorem table_ok {n : Nat} {one other : List Int} (h1 : one.length ≤ 100000) (h2 : other.length ≤ 100000) : run tbl (n + 1) 10 [.val (tu one), .val (tu other)] = .ok (.lst (tabR one other)) [] := by
  rw [run_eq (d := ⟨2, 8, b_least_table⟩) rfl rfl]
  -- the first row
  have hc : evE (run tbl n) (.comp [6] (.name 6) .range [(.prim (.bin .Add) [(.prim (.call .len) [(.var 1)]), (.con (.int 1))])] [] (.prim (.bin .Sub) [(.prim (.call .len) [(.var 1)]), (.var 6)])) [.val (tu one), .val (tu other), .none, .none, .none, .none, .none, .none] = .ok (.lst (rowR [] other)) [.val (tu one), .val (tu other), .none, .none, .none, .none, .none, .none] := by
    have hit : itEv .range [.int ((other.length : Int) + 1)] = some (rangeL 0 (other.length + 1)) := by
      have hs : small62 ((other.length : Int) + 1) = true := small_n (k := other.length + 1) (by omega)
      show (if small62 ((other.length : Int) + 1) = true then some (rangeL 0 ((other.length : Int) + 1).toNat) else none) = _
      rw [if_pos hs, show ((other.length : Int) + 1).toNat = other.length + 1 by omega]
    have := comp_pure (cf := run tbl n) (own := [6]) (tg := .name 6) (cnd := []) (elt := .prim (.bin .Sub) [(.prim (.call .len) [(.var 1)]), (.var 6)]) (src := [.prim (.bin .Add) [(.prim (.call .len) [(.var 1)]), (.con (.int 1))]]) (env := [.val (tu one), .val (tu other), .none, .none, .none, .none, .none, .none]) (env1 := [.val (tu one), .val (tu other), .none, .none, .none, .none, .none, .none])
      (fun d => some (match d with | .int i => D.int ((other.length : Int) - i) | _ => .non)) (k := .range) (avs := [.val (.int ((other.length : Int) + 1))]) (ds := [.int ((other.length : Int) + 1)]) (by simp) (by simp) hit rfl (by simp [rangeL]; omega) fun d hd => by
        obtain ⟨i, _, rfl⟩ := List.mem_map.mp hd
        refine ⟨[.val (tu one), .val (tu other), .none, .none, .none, .none, .val (.int (0 + (i : Int))), .none], ?_, rfl⟩
        simp [stepW, Mp.wipe]
    rw [this, filterMap_some]
    have e : (rangeL 0 (other.length + 1)).map (fun d => match d with | .int i => D.int ((other.length : Int) - i) | _ => .non) = rowR [] other := by
      rw [← range_map_row other 0]
      unfold rangeL
      rw [List.map_map]
      apply List.map_congr_left
      intro i _
      show D.int ((other.length : Int) - (0 + (i : Int))) = _
      rw [Int.zero_add]
    rw [e]
  obtain ⟨e', w1, rest, a, x3, x4, x5, x6, x7, g1, g2, g3, g4, g5, g6, g7, g8⟩ := forGo_ind (step := fun d e => (ofOptS (asg e (.name 3) d)).then fun e1 => evB (run tbl n) outerB e1)
    (fun ds e => ∃ (rest a : List Int) (x3 x4 x5 x6 x7 : Sl), ds = rest.map .int ∧ one = rest.reverse ++ a ∧ Wr x3 ∧ Wr x4 ∧ Wr x5 ∧ Wr x6 ∧ Wr x7 ∧ e = [.val (tu one), .val (tu other), .own (.lst (tabR a other).reverse), x3, x4, x5, x6, x7])
    (fun d ds e ⟨rest, a, x3, x4, x5, x6, x7, g1, g2, g3, g4, g5, g6, g7, g8⟩ => by
      cases rest with
      | nil => cases g1
      | cons x rest =>
        simp only [List.map_cons, List.cons.injEq] at g1
        obtain ⟨rfl, rfl⟩ := g1
        subst g8
        have hal : a.length < one.length := by
          have := congrArg List.length g2
          simp at this
          omega
        obtain ⟨r, er⟩ := tabR_rev a other
        have p1 : pev .idx [.lst (tabR a other).reverse, .int (-1)] = some (.lst (rowR a other)) := by
          rw [er]; exact pv_lastl
        obtain ⟨y6, y7, q1, q2, q3⟩ := inner_ok (n := n) (a := a) (x := x) h2 (e0 := .val (tu one)) (e2 := .own (.lst (tabR a other).reverse)) (e1 := .none) (e3 := .none) other.length (Nat.le_refl _) x6 x7 g6 g7
        have hstart : (rowR (x :: a) (other.drop other.length)).reverse = [.int ((a.length : Int) + 1)] := by
          rw [List.drop_length]
          show [D.int (dist (x :: a) [] : Nat)] = _
          rw [dist_nil']
          simp
        rw [hstart] at q3
        have hf := (for_eq (cf := run tbl n) (t := .name 6) (k := .range) (body := innerB) (src := [(.prim (.bin .Sub) [(.prim (.call .len) [(.var 1)]), (.con (.int 1))]), (.prim (.un .USub) [(.con (.int 1))]), (.prim (.un .USub) [(.con (.int 1))])]) (env := [.val (tu one), .val (tu other), .own (.lst (tabR a other).reverse), .val (.int x), .own (.lst [.int ((a.length : Int) + 1)]), .val (.lst (rowR a other)), x6, x7]) (env1 := [.val (tu one), .val (tu other), .own (.lst (tabR a other).reverse), .val (.int x), .own (.lst [.int ((a.length : Int) + 1)]), .val (.lst (rowR a other)), x6, x7])
          (avs := [.val (.int ((other.length : Int) - 1)), .val (.int (-1)), .val (.int (-1))]) (ds := [.int ((other.length : Int) - 1), .int (-1), .int (-1)]) (items := downL ((other.length : Int) - 1) other.length) (by simp) (by simp) (by
            show (if (small62 _ && small62 (-1) && decide ((-1 : Int) = -1)) = true then some (downL _ _) else none) = _
            rw [if_pos (by rw [small_of_nat (by omega)]; rfl), show ((other.length : Int) - 1 - -1).toNat = other.length by omega])).trans q3
        refine ⟨[.val (tu one), .val (tu other), .own (.lst (tabR (x :: a) other).reverse), .val (.int x), .own (.lst (rowR (x :: a) other).reverse), .val (.lst (rowR a other)), y6, y7], .inl ?_, rest, x :: a, .val (.int x), .own (.lst (rowR (x :: a) other).reverse), .val (.lst (rowR a other)), y6, y7, rfl, by rw [g2]; simp, .val _, .own _, .val _, q1, q2, rfl⟩
        have hlen : (tabR a other).reverse.length < 16777216 := by rw [List.length_reverse, tabR_len]; omega
        have p2 : pev (.call .len) [.lst (tabR a other).reverse] = some (.int ((a.length : Int) + 1)) := by
          show some (D.int ((tabR a other).reverse.length : Nat)) = _
          rw [List.length_reverse, tabR_len]
          simp
        have p3 : pev .rev [.lst (rowR (x :: a) other).reverse] = some (.lst (rowR (x :: a) other)) := by rw [pv_revl, List.reverse_reverse]
        rw [show (tabR (x :: a) other).reverse = (tabR a other).reverse ++ [.lst (rowR (x :: a) other)] from by simp [tabR]]
        simp [put_wr g3, put_wr g4, put_wr g5, p1, p2, hf, p3, mu_app hlen, -pv_lenl]) (one.reverse.map .int) [.val (tu one), .val (tu other), .own (.lst (tabR [] other).reverse), .none, .none, .none, .none, .none] ⟨one.reverse, [], .none, .none, .none, .none, .none, rfl, by simp, .non, .non, .non, .non, .non, rfl⟩
  cases rest with
  | cons _ _ => cases g1
  | nil =>
    have ea : a = one := by simpa using g2.symm
    subst ea
    subst g8
    have hf := (for_eq (cf := run tbl n) (t := .name 3) (k := .seq) (body := outerB) (src := [.prim .rev [(.var 0)]]) (env := [.val (tu a), .val (tu other), .own (.lst (tabR [] other).reverse), .none, .none, .none, .none, .none]) (env1 := [.val (tu a), .val (tu other), .own (.lst (tabR [] other).reverse), .none, .none, .none, .none, .none]) (avs := [.val (tu a.reverse)]) (ds := [tu a.reverse]) (items := a.reverse.map .int) (by simp [pv_revtu]) (by simp) rfl).trans w1
    simp only [b_least_table]
    have e0 : (tabR [] other).reverse = [.lst (rowR [] other)] := rfl
    rw [e0] at hf
    simp [hc, hf, pv_revl]
    rfl
end K16
set_option Elab.async false
set_option linter.all false
set_option maxRecDepth 100000
set_option maxHeartbeats 8000000
namespace K16
open PySem Mp Stp
def sd : Stp → D
  | K => .str [107, 101, 101, 112]
  | C => .str [99, 117, 116]
  | P => .str [112, 117, 116]
theorem walk_len : ∀ (n : Nat) (a b : List Int), a.length + b.length ≤ n → (walk a b).length ≤ a.length + b.length
  | _, [], [], _ => by rw [walk]; simp
  | 0, [], _ :: _, h => by simp at h
  | 0, _ :: _, _, h => by simp at h
  | n + 1, [], y :: b, h => by
    have := walk_len n [] b (by simp at h ⊢; omega)
    rw [walk]; simp at this ⊢; omega
  | n + 1, x :: a, [], h => by
    have := walk_len n a [] (by simp at h ⊢; omega)
    rw [walk]; simp at this ⊢; omega
  | n + 1, x :: a, y :: b, h => by
    rw [walk]
    split
    · have := walk_len n a b (by simp at h; omega)
      simp at this ⊢; omega
    · split
      · have := walk_len n a (y :: b) (by simp at h ⊢; omega)
        simp at this ⊢; omega
      · have := walk_len n (x :: a) b (by simp at h ⊢; omega)
        simp at this ⊢; omega
abbrev condU : E := .bop false [(.prim (.cmp .Lt) [(.var 8), (.prim (.call .len) [(.var 4)])]), (.prim (.cmp .Lt) [(.var 9), (.prim (.call .len) [(.var 5)])])]
abbrev bodyU : List S := [.ifs (.bop true [(.prim (.cmp .Lt) [(.var 8), (.prim (.call .len) [(.var 4)])]), (.prim (.cmp .Lt) [(.var 9), (.prim (.call .len) [(.var 5)])]), (.prim (.cmp .Eq) [(.prim .idx [(.var 4), (.var 8)]), (.prim .idx [(.var 5), (.var 9)])])]) [.parO [true, false, false] [6, 8, 9] [(.prim (.bin .Add) [(.peek 6), (.prim .lst [(.con (.str [107, 101, 101, 112]))])]), (.prim (.bin .Add) [(.var 8), (.con (.int 1))]), (.prim (.bin .Add) [(.var 9), (.con (.int 1))])]] [.ifs (.bop true [(.prim (.cmp .Lt) [(.var 8), (.prim (.call .len) [(.var 4)])]), (.prim (.cmp .Eq) [(.prim .idx [(.prim .idx [(.var 7), (.var 8)]), (.var 9)]), (.prim (.bin .Add) [(.con (.int 1)), (.prim .idx [(.prim .idx [(.var 7), (.prim (.bin .Add) [(.var 8), (.con (.int 1))])]), (.var 9)])])])]) [.parO [true, false] [6, 8] [(.prim (.bin .Add) [(.peek 6), (.prim .lst [(.con (.str [99, 117, 116]))])]), (.prim (.bin .Add) [(.var 8), (.con (.int 1))])]] [.parO [true, false] [6, 9] [(.prim (.bin .Add) [(.peek 6), (.prim .lst [(.con (.str [112, 117, 116]))])]), (.prim (.bin .Add) [(.var 9), (.con (.int 1))])]]]]
def stU (e0 e1 e2 e3 : Sl) (left right : List Int) (S : List Stp) (i j : Nat) : Mp.Env := [e0, e1, e2, e3, .val (tu left), .val (tu right), .own (.lst (S.map sd)), .val (.lst (tabR left right)), .val (.int i), .val (.int j)]
theorem drop_at {a : List Int} {i : Nat} (h : i < a.length) : a.drop i = a[i] :: a.drop (i + 1) := List.drop_eq_getElem_cons h
theorem cast1 (i : Nat) : ((i + 1 : Nat) : Int) = (i : Int) + 1 := by omega
theorem while_ok {n : Nat} {e0 e1 e2 e3 : Sl} {left right : List Int} (hl : left.length ≤ 1000) (hr : right.length ≤ 1000) {S0 : List Stp} (hS : S0.length ≤ 5000) :
    whileGo (fun e => truthR (evE (run tbl n) condU e)) (fun e => evB (run tbl n) bodyU e) 1000000000 (stU e0 e1 e2 e3 left right S0 0 0) = .nxt (stU e0 e1 e2 e3 left right (S0 ++ walk left right) left.length right.length) := by
  obtain ⟨e', w, q⟩ := while_ind (c := fun e => truthR (evE (run tbl n) condU e)) (b := fun e => evB (run tbl n) bodyU e)
    (fun m e => ∃ (S : List Stp) (i j : Nat), e = stU e0 e1 e2 e3 left right S i j ∧ i ≤ left.length ∧ j ≤ right.length ∧ m = (left.length - i) + (right.length - j) ∧ S ++ walk (left.drop i) (right.drop j) = S0 ++ walk left right)
    (fun e => e = stU e0 e1 e2 e3 left right (S0 ++ walk left right) left.length right.length)
    (fun m e ⟨S, i, j, ee, hi, hj, hm, hw⟩ => by
      subst ee
      have hlen : S.length ≤ 10000 := by
        have h1 := congrArg List.length hw
        have h2 := walk_len _ left right (Nat.le_refl _)
        simp only [List.length_append] at h1
        omega
      have cat : ∀ d : D, pev (.bin .Add) [.lst (S.map sd), .lst [d]] = some (.lst (S.map sd ++ [d])) := fun d => pv_catl (by simp; omega)
      have t1 := pv_tabat (a := left) (b := right) hi
      have r1 := pv_rowat (a := left.drop i) (b := right) hj
      by_cases li : i < left.length
      · have t2 : pev .idx [.lst (tabR left right), .int ((i : Int) + 1)] = some (.lst (rowR (left.drop (i + 1)) right)) := by rw [← cast1]; exact pv_tabat (by omega)
        have r2 := pv_rowat (a := left.drop (i + 1)) (b := right) hj
        have x1 := pv_ixtu li
        have dl := drop_at li
        by_cases lj : j < right.length
        · have x2 := pv_ixtu lj
          have dr := drop_at lj
          rw [dl, dr, walk] at hw
          by_cases c : left[i] = right[j]
          · rw [if_pos c] at hw
            refine .inr ⟨stU e0 e1 e2 e3 left right S i j, stU e0 e1 e2 e3 left right (S ++ [K]) (i + 1) (j + 1), (left.length - (i + 1)) + (right.length - (j + 1)), ?_, .inl ?_, by omega, S ++ [K], i + 1, j + 1, rfl, by omega, by omega, rfl, by rw [List.append_assoc]; exact hw⟩
            · simp [stU, int_lt, li]
            · simp [stU, int_lt, li, lj, x1, x2, decide_eq_true c, cat, sd]
          · rw [if_neg c] at hw
            by_cases c2 : dist (left[i] :: left.drop (i + 1)) (right[j] :: right.drop (j + 1)) = 1 + dist (left.drop (i + 1)) (right[j] :: right.drop (j + 1))
            · rw [if_pos c2] at hw
              refine .inr ⟨stU e0 e1 e2 e3 left right S i j, stU e0 e1 e2 e3 left right (S ++ [C]) (i + 1) j, (left.length - (i + 1)) + (right.length - j), ?_, .inl ?_, by omega, S ++ [C], i + 1, j, rfl, by omega, by omega, rfl, by rw [List.append_assoc, dr]; exact hw⟩
              · simp [stU, int_lt, li]
              · rw [← dl, ← dr] at c2
                have c3 : ((dist (left.drop i) (right.drop j) : Nat) : Int) = 1 + (dist (left.drop (i + 1)) (right.drop j) : Nat) := by omega
                simp [stU, int_lt, li, lj, x1, x2, decide_eq_false c, t1, t2, r1, r2, decide_eq_true c3, cat, sd]
            · rw [if_neg c2] at hw
              refine .inr ⟨stU e0 e1 e2 e3 left right S i j, stU e0 e1 e2 e3 left right (S ++ [P]) i (j + 1), (left.length - i) + (right.length - (j + 1)), ?_, .inl ?_, by omega, S ++ [P], i, j + 1, rfl, by omega, by omega, rfl, by rw [List.append_assoc, dl]; exact hw⟩
              · simp [stU, int_lt, li]
              · rw [← dl, ← dr] at c2
                have c3 : ¬ ((dist (left.drop i) (right.drop j) : Nat) : Int) = 1 + (dist (left.drop (i + 1)) (right.drop j) : Nat) := by omega
                simp [stU, int_lt, li, lj, x1, x2, decide_eq_false c, t1, t2, r1, r2, decide_eq_false c3, cat, sd]
        · have ej : j = right.length := by omega
          have dr : right.drop j = [] := by rw [ej, List.drop_length]
          rw [dl, dr, walk] at hw
          refine .inr ⟨stU e0 e1 e2 e3 left right S i j, stU e0 e1 e2 e3 left right (S ++ [C]) (i + 1) j, (left.length - (i + 1)) + (right.length - j), ?_, .inl ?_, by omega, S ++ [C], i + 1, j, rfl, by omega, by omega, rfl, by rw [List.append_assoc, dr]; exact hw⟩
          · simp [stU, int_lt, li]
          · have c3 : ((dist (left.drop i) (right.drop j) : Nat) : Int) = 1 + (dist (left.drop (i + 1)) (right.drop j) : Nat) := by
              rw [dr, dist_nil', dist_nil', List.length_drop, List.length_drop]
              omega
            simp [stU, int_lt, li, lj, x1, t1, t2, r1, r2, decide_eq_true c3, cat, sd]
      · have ei : i = left.length := by omega
        have dl : left.drop i = [] := by rw [ei, List.drop_length]
        by_cases lj : j < right.length
        · have dr := drop_at lj
          rw [dl, dr, walk] at hw
          refine .inr ⟨stU e0 e1 e2 e3 left right S i j, stU e0 e1 e2 e3 left right (S ++ [P]) i (j + 1), (left.length - i) + (right.length - (j + 1)), ?_, .inl ?_, by omega, S ++ [P], i, j + 1, rfl, by omega, by omega, rfl, by rw [List.append_assoc, dl]; exact hw⟩
          · simp [stU, int_lt, li, lj]
          · simp [stU, int_lt, li, lj, cat, sd]
        · have ej : j = right.length := by omega
          have dr : right.drop j = [] := by rw [ej, List.drop_length]
          rw [dl, dr, walk, List.append_nil] at hw
          subst hw
          refine .inl ⟨stU e0 e1 e2 e3 left right (S0 ++ walk left right) i j, ?_, by rw [ei, ej]⟩
          simp [stU, int_lt, li, lj]) 1000000000 (left.length + right.length) (stU e0 e1 e2 e3 left right S0 0 0) ⟨S0, 0, 0, rfl, by omega, by omega, by omega, rfl⟩ (by omega)
  rw [w, q]
end K16
set_option Elab.async false
set_option linter.all false
set_option maxRecDepth 100000
set_option maxHeartbeats 8000000
namespace K16
open PySem Mp Stp
abbrev flushS : S := .aug 3 .Add (.prim (.bin .Add) [(.ife (.prim (.cmp .NotEq) [(.var 6), (.prim .tup [])]) (.prim .lst [(.prim .tup [(.con (.str [99, 117, 116])), (.var 6)])]) (.prim .lst [])), (.ife (.prim (.cmp .NotEq) [(.var 7), (.prim .tup [])]) (.prim .lst [(.prim .tup [(.con (.str [112, 117, 116])), (.var 7)])]) (.prim .lst []))])
abbrev keepS : S := .ifs (.bop true [(.prim (.cmp .Eq) [(.var 8), (.con (.str [107, 101, 101, 112]))]), (.prim (.cmp .NotEq) [(.peek 3), (.prim .lst [])]), (.prim (.cmp .Eq) [(.prim .idx [(.prim .idx [(.peek 3), (.prim (.un .USub) [(.con (.int 1))])]), (.con (.int 0))]), (.con (.str [107, 101, 101, 112]))])]) [.store 3 (.prim (.un .USub) [(.con (.int 1))]) (.prim .tup [(.con (.str [107, 101, 101, 112])), (.prim (.bin .Add) [(.prim .idx [(.prim .idx [(.peek 3), (.prim (.un .USub) [(.con (.int 1))])]), (.con (.int 1))]), (.con (.int 1))])])] [.ifs (.prim (.cmp .Eq) [(.var 8), (.con (.str [107, 101, 101, 112]))]) [.expr (.mu .append 3 [(.prim .tup [(.con (.str [107, 101, 101, 112])), (.con (.int 1))])])] []]
abbrev bodyV : List S := [.ifs (.prim (.cmp .Eq) [(.var 8), (.con (.str [99, 117, 116]))]) [.par [6, 4] [(.prim (.bin .Add) [(.var 6), (.prim .tup [(.prim .idx [(.var 1), (.var 4)])])]), (.prim (.bin .Add) [(.var 4), (.con (.int 1))])]] [.ifs (.prim (.cmp .Eq) [(.var 8), (.con (.str [112, 117, 116]))]) [.par [7, 5] [(.prim (.bin .Add) [(.var 7), (.prim .tup [(.prim .idx [(.var 2), (.var 5)])])]), (.prim (.bin .Add) [(.var 5), (.con (.int 1))])]] [flushS, .set (.tup [(.name 6), (.name 7)]) (.prim .tup [(.prim .tup []), (.prim .tup [])]), keepS, .par [4, 5] [(.prim (.bin .Add) [(.var 4), (.con (.int 1))]), (.prim (.bin .Add) [(.var 5), (.con (.int 1))])]]]]
def stV (e0 : Sl) (one other : List Int) (f : List Ed) (g w : List Int) (i j : Nat) (x : Sl) : Mp.Env := [e0, .val (tu one), .val (tu other), .own (.lst (f.map ed)), .val (.int i), .val (.int j), .val (tu g), .val (tu w), x]
theorem pv_ne0 {a : List Int} : pev (.cmp .NotEq) [tu a, .tup []] = some (.bl (!decide (a = []))) := pv_netu (b := [])
theorem pv_eq0 {a : List Int} : pev (.cmp .Eq) [tu a, .tup []] = some (.bl (decide (a = []))) := pv_eqtu (b := [])
theorem flush_ev {cf : CallF} {e0 : Sl} {one other : List Int} {f : List Ed} {g w : List Int} {i j : Nat} {x : Sl} (hf : f.length ≤ 10000000) : evS cf flushS (stV e0 one other f g w i j x) = .nxt (stV e0 one other (flush f g w) g w i j x) := by
  have c1 : ∀ a b : List D, a.length ≤ 1 → b.length ≤ 1 → pev (.bin .Add) [.lst a, .lst b] = some (.lst (a ++ b)) := fun a b h1 h2 => pv_catl (by omega)
  have h1 : f.length + 1 ≤ 16777216 := by omega
  have h2 : f.length + 2 ≤ 16777216 := by omega
  have h0 : f.length ≤ 16777216 := by omega
  have q : ∀ a b : List D, pev (.bin .Add) [.lst [], .lst []] = some (.lst []) ∧ pev (.bin .Add) [.lst [], .lst b] = (if b.length ≤ 16777216 then some (.lst b) else none) := fun a b => ⟨rfl, by show lenOk _ _ = _; simp [lenOk]⟩
  by_cases hg : g = [] <;> by_cases hw : w = []
  · subst hg hw
    simp [stV, flushS, pv_ne0, c1, flush, h0]
  · subst hg
    simp [stV, flushS, pv_ne0, c1, flush, hw, h1, ed, word, arg]
  · subst hw
    simp [stV, flushS, pv_ne0, c1, flush, hg, h1, ed, word, arg]
  · simp [stV, flushS, pv_ne0, c1, flush, hg, hw, h2, ed, word, arg]
theorem lst_gd (f : List Ed) : gd 3 (.lst (f.map ed)) = true := gd_lst fun x hx => by
  obtain ⟨e, _, rfl⟩ := List.mem_map.mp hx
  exact gd_ed e
theorem pv_nel0 {f : List Ed} : pev (.cmp .NotEq) [.lst (f.map ed), .lst []] = some (.bl (!f.isEmpty)) := by
  rw [pv_ne (gd_mono (by decide) (lst_gd f)) rfl, eqv_l0]
  cases f <;> rfl
theorem ed0 (e : Ed) : pev .idx [ed e, .int 0] = some (.str (word e)) := rfl
theorem ed1 (e : Ed) : pev .idx [ed e, .int 1] = some (arg e) := rfl
theorem keep_ev {cf : CallF} {e0 : Sl} {one other : List Int} {f : List Ed} {g w : List Int} {i j : Nat} (hf : f.length ≤ 10000000) : evS cf keepS (stV e0 one other f g w i j (.val (.str [107, 101, 101, 112]))) = .nxt (stV e0 one other (addK f) g w i j (.val (.str [107, 101, 101, 112]))) := by
  have hl : (f.map ed).length < 16777216 := by rw [List.length_map]; omega
  rcases List.eq_nil_or_concat f with e | ⟨r, e, rfl⟩
  · subst e
    have hm : muEv .append (.lst []) [.tup [.str [107, 101, 101, 112], .int 1]] = some (.non, .lst [.tup [.str [107, 101, 101, 112], .int 1]]) := rfl
    have hz : pev (.cmp .NotEq) [.lst [], .lst []] = some (.bl false) := pv_nel0 (f := [])
    simp [stV, keepS, pv_eqs ck ck, hz, hm, addK_nil, ed, word, arg]
  · have hne : pev (.cmp .NotEq) [.lst (r.map ed ++ [ed e]), .lst []] = some (.bl true) := by
      have := pv_nel0 (f := r ++ [e])
      have h : (r ++ [e]).isEmpty = false := by cases r <;> rfl
      rw [h, List.map_append] at this
      exact this
    have hlast : pev .idx [.lst (r.map ed ++ [ed e]), .int (-1)] = some (ed e) := pv_lastl
    have hlr : r.length < 16777216 - 1 := by simp at hl; omega
    cases e with
    | keep n =>
      have hst : storeEv (.lst (r.map ed ++ [ed (.keep n)])) (.int (-1)) (.tup [.str [107, 101, 101, 112], .int ((n : Int) + 1)]) = some (.lst (r.map ed ++ [ed (.keep (n + 1))])) := by
        show (ixN _ (-1)).map _ = _
        have : Mp.ixN (r.map ed ++ [ed (.keep n)]).length (-1) = some r.length := by
          unfold Mp.ixN
          rw [if_neg (by decide), if_pos (by simp; omega)]
          simp
          omega
        rw [this]
        simp [ed, word, arg]
        first | done | (rw [List.set_append_right _ _ (by simp)]; simp)
      rw [List.concat_eq_append, addK_snoc]
      simp [stV, keepS, pv_eqs ck ck, hne, hlast, ed0, ed1, eq_word, ck, hst, word, arg, -pv_eqs]
      first | done | (simp [pv_eqs ck ck]; done) | (simp [pv_eqs ck ck, hst])
    | cut u =>
      have hm : muEv .append (.lst (r.map ed ++ [ed (.cut u)])) [.tup [.str [107, 101, 101, 112], .int 1]] = some (.non, .lst (r.map ed ++ [ed (.cut u)] ++ [.tup [.str [107, 101, 101, 112], .int 1]])) := mu_app (by simp; omega)
      rw [List.concat_eq_append, addK_cut]
      simp [stV, keepS, pv_eqs ck ck, pv_eqs cc ck, hne, hlast, ed0, ed1, hm, word]
      simp [ed, word, arg]
    | put u =>
      have hm : muEv .append (.lst (r.map ed ++ [ed (.put u)])) [.tup [.str [107, 101, 101, 112], .int 1]] = some (.non, .lst (r.map ed ++ [ed (.put u)] ++ [.tup [.str [107, 101, 101, 112], .int 1]])) := mu_app (by simp; omega)
      rw [List.concat_eq_append, addK_put]
      simp [stV, keepS, pv_eqs ck ck, pv_eqs cp ck, hne, hlast, ed0, ed1, hm, word]
      simp [ed, word, arg]
theorem if_f {cf : CallF} {c : E} {a b : List S} {env env1 : Mp.Env} (h : truthR (evE cf c env) = .ok false env1) : evS cf (.ifs c a b) env = evB cf b env1 := by rw [evS_if, h]; rfl
theorem steps_ok {n : Nat} {e0 : Sl} {one other : List Int} : ∀ {S : List Stp} {a b : List Int}, Path S a b → ∀ (s : JS) (i j : Nat) (x : Sl), s.a = a → s.b = b → a = one.drop i → b = other.drop j → Wr x → s.f.length + s.g.length + s.w.length + 3 * S.length ≤ 1000000 →
    ∃ i' j' x', Wr x' ∧ forGo (fun d e => (ofOptS (asg e (.name 8) d)).then fun e1 => evB (run tbl n) bodyV e1) (S.map sd ++ [.str []]) (stV e0 one other s.f s.g s.w i j x) =
      .nxt (stV e0 one other (flush (jrun S s).f (jrun S s).g (jrun S s).w) [] [] i' j' x') := by
  intro S a b p
  induction p with
  | nil =>
    intro s i j x _ _ _ _ hx hb
    refine ⟨i + 1, j + 1, .val (.str []), .val _, ?_⟩
    have hfl := flush_ev (cf := run tbl n) (e0 := e0) (one := one) (other := other) (f := s.f) (g := s.g) (w := s.w) (i := i) (j := j) (x := .val (.str [])) (by simp at hb; omega)
    refine (forGo_cons (e' := stV e0 one other (flush s.f s.g s.w) [] [] (i + 1) (j + 1) (.val (.str []))) ?_).trans forGo_nil
    have q1 : pev (.cmp .Eq) [.str [], .str [99, 117, 116]] = some (.bl false) := pv_eqs ck0 cc
    have q2 : pev (.cmp .Eq) [.str [], .str [112, 117, 116]] = some (.bl false) := pv_eqs ck0 cp
    have q3 : pev (.cmp .Eq) [.str [], .str [107, 101, 101, 112]] = some (.bl false) := pv_eqs ck0 ck
    have ha : asg (stV e0 one other s.f s.g s.w i j x) (.name 8) (.str []) = some (stV e0 one other s.f s.g s.w i j (.val (.str []))) := by simp [stV, put_wr hx]
    rw [ha]
    simp only [ofOptS_some, SR.then_nxt, bodyV, evB_cons', evB_nil', evS_if]
    have v8 : ∀ f g w, (stV e0 one other f g w i j (.val (.str [])))[8]? = some (.val (.str [])) := fun _ _ _ => rfl
    simp only [ev_prim, evA_cons', ev_var, ev_con, v8, R.bind_ok, evA_nil', rds_val, rds_nil, Option.map_some, q1, q2, ofOpt_some, truthR_ok, truth_bl, R.toS_ok, Bool.false_eq_true, if_false, evB_cons', evB_nil', evS_if, hfl, SR.then_nxt]
    simp [stV, keepS, q3, tu]
  | @keep S' a' b' x0 p ih =>
    intro s i j x e1 e2 e3 e4 hx hb
    have hb' : s.f.length + s.g.length + s.w.length + 3 * (S'.length + 1) ≤ 1000000 := by simpa using hb
    have hfl := flush_ev (cf := run tbl n) (e0 := e0) (one := one) (other := other) (f := s.f) (g := s.g) (w := s.w) (i := i) (j := j) (x := .val (.str [107, 101, 101, 112])) (by omega)
    have hlen : (flush s.f s.g s.w).length ≤ s.f.length + 2 := by
      unfold flush
      by_cases hg : s.g = [] <;> by_cases hw : s.w = [] <;> simp [hg, hw]
    have hkl : (addK (flush s.f s.g s.w)).length ≤ s.f.length + 3 := by
      unfold addK
      split
      · simp; omega
      · simp; omega
    have hkp := keep_ev (cf := run tbl n) (e0 := e0) (one := one) (other := other) (f := flush s.f s.g s.w) (g := []) (w := []) (i := i) (j := j) (by omega)
    have d1 : a' = one.drop (i + 1) := by
      have := congrArg List.tail e3
      simpa using this
    have d2 : b' = other.drop (j + 1) := by
      have := congrArg List.tail e4
      simpa using this
    obtain ⟨i', j', x', q1, q2⟩ := ih (jstep s K) (i + 1) (j + 1) (.val (.str [107, 101, 101, 112])) (by simp [jstep, e1]) (by simp [jstep, e2]) d1 d2 (.val _) (by
      show (addK (flush s.f s.g s.w)).length + 0 + 0 + 3 * S'.length ≤ 1000000
      omega)
    refine ⟨i', j', x', q1, (forGo_cons ?_).trans q2⟩
    have c1 : pev (.cmp .Eq) [.str [107, 101, 101, 112], .str [99, 117, 116]] = some (.bl false) := pv_eqs ck cc
    have c2 : pev (.cmp .Eq) [.str [107, 101, 101, 112], .str [112, 117, 116]] = some (.bl false) := pv_eqs ck cp
    have ha : asg (stV e0 one other s.f s.g s.w i j x) (.name 8) (.str [107, 101, 101, 112]) = some (stV e0 one other s.f s.g s.w i j (.val (.str [107, 101, 101, 112]))) := by simp [stV, put_wr hx]
    show (ofOptS (asg _ (.name 8) (.str [107, 101, 101, 112]))).then _ = _
    rw [ha]
    have v8 : ∀ f g w, (stV e0 one other f g w i j (.val (.str [107, 101, 101, 112])))[8]? = some (.val (.str [107, 101, 101, 112])) := fun _ _ _ => rfl
    have hz : evS (run tbl n) (.set (.tup [(.name 6), (.name 7)]) (.prim .tup [(.prim .tup []), (.prim .tup [])])) (stV e0 one other (flush s.f s.g s.w) s.g s.w i j (.val (.str [107, 101, 101, 112]))) = .nxt (stV e0 one other (flush s.f s.g s.w) [] [] i j (.val (.str [107, 101, 101, 112]))) := by
      simp [stV, tu]
    have h1 : truthR (evE (run tbl n) (.prim (.cmp .Eq) [(.var 8), (.con (.str [99, 117, 116]))]) (stV e0 one other s.f s.g s.w i j (.val (.str [107, 101, 101, 112])))) = .ok false (stV e0 one other s.f s.g s.w i j (.val (.str [107, 101, 101, 112]))) := by simp [stV, c1]
    have h2 : truthR (evE (run tbl n) (.prim (.cmp .Eq) [(.var 8), (.con (.str [112, 117, 116]))]) (stV e0 one other s.f s.g s.w i j (.val (.str [107, 101, 101, 112])))) = .ok false (stV e0 one other s.f s.g s.w i j (.val (.str [107, 101, 101, 112]))) := by simp [stV, c2]
    show evB (run tbl n) bodyV (stV e0 one other s.f s.g s.w i j (.val (.str [107, 101, 101, 112]))) = _
    rw [bodyV, evB_cons', if_f h1, evB_cons', if_f h2, evB_cons', hfl, SR.then_nxt, evB_cons', hz, SR.then_nxt, evB_cons', hkp, SR.then_nxt]
    simp [stV, jstep]
  | @cut S' a' b' x0 p ih =>
    intro s i j x e1 e2 e3 e4 hx hb
    have hb' : s.f.length + s.g.length + s.w.length + 3 * (S'.length + 1) ≤ 1000000 := by simpa using hb
    have li : i < one.length := by
      have := congrArg List.length e3
      simp at this
      omega
    have hx0 : one[i] = x0 := by
      have := drop_at li
      rw [← e3] at this
      injection this with h _
      exact h.symm
    have d1 : a' = one.drop (i + 1) := by
      have := congrArg List.tail e3
      simpa using this
    obtain ⟨i', j', x', q1, q2⟩ := ih (jstep s C) (i + 1) j (.val (.str [99, 117, 116])) (by simp [jstep, e1]) (by simp [jstep, e2]) d1 e4 (.val _) (by
      show s.f.length + (s.g ++ s.a.take 1).length + s.w.length + 3 * S'.length ≤ 1000000
      simp [e1]
      omega)
    refine ⟨i', j', x', q1, (forGo_cons ?_).trans q2⟩
    have c1 : pev (.cmp .Eq) [.str [99, 117, 116], .str [99, 117, 116]] = some (.bl true) := pv_eqs cc cc
    have hix := pv_ixtu li
    rw [hx0] at hix
    have hcat : pev (.bin .Add) [tu s.g, .tup [.int x0]] = some (tu (s.g ++ [x0])) := pv_cat (b := [x0]) (by simp; omega)
    show (ofOptS (asg _ (.name 8) (.str [99, 117, 116]))).then _ = _
    simp [stV, put_wr hx, bodyV, c1, hix, hcat, jstep, e1]
  | @put S' a' b' x0 p ih =>
    intro s i j x e1 e2 e3 e4 hx hb
    have hb' : s.f.length + s.g.length + s.w.length + 3 * (S'.length + 1) ≤ 1000000 := by simpa using hb
    have lj : j < other.length := by
      have := congrArg List.length e4
      simp at this
      omega
    have hx0 : other[j] = x0 := by
      have := drop_at lj
      rw [← e4] at this
      injection this with h _
      exact h.symm
    have d2 : b' = other.drop (j + 1) := by
      have := congrArg List.tail e4
      simpa using this
    obtain ⟨i', j', x', q1, q2⟩ := ih (jstep s P) i (j + 1) (.val (.str [112, 117, 116])) (by simp [jstep, e1]) (by simp [jstep, e2]) e3 d2 (.val _) (by
      show s.f.length + s.g.length + (s.w ++ s.b.take 1).length + 3 * S'.length ≤ 1000000
      simp [e2]
      omega)
    refine ⟨i', j', x', q1, (forGo_cons ?_).trans q2⟩
    have c1 : pev (.cmp .Eq) [.str [112, 117, 116], .str [99, 117, 116]] = some (.bl false) := pv_eqs cp cc
    have c2 : pev (.cmp .Eq) [.str [112, 117, 116], .str [112, 117, 116]] = some (.bl true) := pv_eqs cp cp
    have hix := pv_ixtu lj
    rw [hx0] at hix
    have hcat : pev (.bin .Add) [tu s.w, .tup [.int x0]] = some (tu (s.w ++ [x0])) := pv_cat (b := [x0]) (by simp; omega)
    show (ofOptS (asg _ (.name 8) (.str [112, 117, 116]))).then _ = _
    simp [stV, put_wr hx, bodyV, c1, c2, hix, hcat, jstep, e2]
theorem joined_ok {n : Nat} {one other : List Int} {S : List Stp} (p : Path S one other) (h : S.length ≤ 10000) : run tbl (n + 1) 14 [.val (.lst (S.map sd)), .val (tu one), .val (tu other)] = .ok (te (jn S one other)) [] := by
  rw [run_eq (d := ⟨3, 9, b_joined_steps⟩) rfl rfl]
  obtain ⟨i', j', x', hx, q⟩ := steps_ok (n := n) (e0 := .val (.lst (S.map sd))) p ⟨[], [], [], one, other⟩ 0 0 .none rfl rfl rfl rfl .non (by simp; omega)
  have hf := (for_eq (cf := run tbl n) (t := .name 8) (k := .seq) (body := bodyV) (src := [.prim (.bin .Add) [(.var 0), (.prim .lst [(.con (.str []))])]]) (env := stV (.val (.lst (S.map sd))) one other [] [] [] 0 0 .none) (env1 := stV (.val (.lst (S.map sd))) one other [] [] [] 0 0 .none) (avs := [.val (.lst (S.map sd ++ [.str []]))]) (ds := [.lst (S.map sd ++ [.str []])]) (items := S.map sd ++ [.str []]) (by
    have : pev (.bin .Add) [.lst (S.map sd), .lst [.str []]] = some (.lst (S.map sd ++ [.str []])) := pv_catl (by simp; omega)
    simp [stV, this]) (by simp) rfl).trans q
  have hs : evS (run tbl n) (.parO [true, false, false, false, false] [3, 4, 5, 6, 7] [(.prim .lst []), (.con (.int 0)), (.con (.int 0)), (.prim .tup []), (.prim .tup [])]) ([.val (.lst (S.map sd)), .val (tu one), .val (tu other)] ++ List.replicate (9 - 3) .none) = .nxt (stV (.val (.lst (S.map sd))) one other [] [] [] 0 0 .none) := by
    simp [stV, tu]
  simp only [b_joined_steps, evB_cons', hs, SR.then_nxt, hf]
  simp [stV]
  rfl
end K16
set_option Elab.async false
set_option linter.all false
set_option maxRecDepth 100000
set_option maxHeartbeats 8000000
namespace K16
open PySem Mp Stp
def lft (one other : List Int) : List Int := (one.drop (pre one other)).take (one.length - tail one other - pre one other)
def rgt (one other : List Int) : List Int := (other.drop (pre one other)).take (other.length - tail one other - pre one other)
def big (one other : List Int) : Prop := 40000 < ((lft one other).length + 1) * ((rgt one other).length + 1)
instance (one other : List Int) : Decidable (big one other) := by unfold big; infer_instance
def mid (one other : List Int) : List Stp := if big one other then List.replicate (lft one other).length C ++ List.replicate (rgt one other).length P else walk (lft one other) (rgt one other)
def Sof (one other : List Int) : List Stp := List.replicate (pre one other) K ++ (mid one other ++ List.replicate (tail one other) K)
theorem tail_le (one other : List Int) : tail one other + pre one other ≤ one.length ∧ tail one other + pre one other ≤ other.length := by
  have h1 := pre_le one other
  have h2 := pre_le (one.drop (pre one other)).reverse (other.drop (pre one other)).reverse
  simp only [List.length_reverse, List.length_drop] at h2
  unfold tail
  omega
theorem split_ok (one other : List Int) : ∃ U V, U.length = pre one other ∧ V.length = tail one other ∧ one = U ++ (lft one other ++ V) ∧ other = U ++ (rgt one other ++ V) := by
  have h1 := pre_le one other
  have h2 := tail_le one other
  have ht := pre_take one other
  generalize hk : pre one other = k at *
  have hA := pre_take (one.drop k).reverse (other.drop k).reverse
  have hT : tail one other = pre (one.drop k).reverse (other.drop k).reverse := by unfold tail; rw [hk]
  rw [← hT] at hA
  generalize hTT : tail one other = T at *
  have e1 : (one.drop k).reverse.take T = ((one.drop k).drop (one.length - T - k)).reverse := by
    rw [List.take_reverse, List.length_drop]
    congr 2
    omega
  have e2 : (other.drop k).reverse.take T = ((other.drop k).drop (other.length - T - k)).reverse := by
    rw [List.take_reverse, List.length_drop]
    congr 2
    omega
  rw [e1, e2] at hA
  have hA := List.reverse_inj.mp hA
  refine ⟨one.take k, (one.drop k).drop (one.length - T - k), by rw [List.length_take]; omega, by rw [List.length_drop, List.length_drop]; omega, ?_, ?_⟩
  · unfold lft
    rw [hk, hTT, List.take_append_drop, List.take_append_drop]
  · unfold rgt
    rw [hk, hTT, hA, List.take_append_drop, ht, List.take_append_drop]
theorem Sof_path (one other : List Int) : Path (Sof one other) one other := by
  obtain ⟨U, V, h1, h2, h3, h4⟩ := split_ok one other
  have hm : Path (mid one other) (lft one other) (rgt one other) := by
    unfold mid
    split
    · have := (path_cuts (lft one other)).app (path_puts (rgt one other))
      simpa using this
    · exact walk_ok _ _
  have := (path_keeps U).app (hm.app (path_keeps V))
  rw [← h3, ← h4, h1, h2] at this
  exact this
theorem Sof_cost (one other : List Int) (h : ¬ big one other) : cost (Sof one other) = dist one other := by
  obtain ⟨U, V, h1, h2, h3, h4⟩ := split_ok one other
  unfold Sof mid
  rw [if_neg h, cost_app, cost_app, cost_keep, cost_keep, walk_cost]
  have e0 : dist one other = dist (U ++ (lft one other ++ V)) (U ++ (rgt one other ++ V)) := by rw [← h3, ← h4]
  rw [dist_pre, dist_suf] at e0
  omega
theorem Sof_big (one other : List Int) (h : big one other) : cost (Sof one other) = (lft one other).length + (rgt one other).length := by
  have c1 : ∀ n, cost (List.replicate n C) = n := fun n => by
    induction n with
    | zero => rfl
    | succ n ih => rw [List.replicate_succ]; simp [cost, ih]
  have c2 : ∀ n, cost (List.replicate n P) = n := fun n => by
    induction n with
    | zero => rfl
    | succ n ih => rw [List.replicate_succ]; simp [cost, ih]
  unfold Sof mid
  rw [if_pos h, cost_app, cost_app, cost_app, cost_keep, cost_keep, c1, c2]
  omega
theorem Sof_len (one other : List Int) : (Sof one other).length ≤ one.length + other.length := by
  obtain ⟨U, V, h1, h2, h3, h4⟩ := split_ok one other
  have e1 := congrArg List.length h3
  have e2 := congrArg List.length h4
  simp only [List.length_append] at e1 e2
  have hm : (mid one other).length ≤ (lft one other).length + (rgt one other).length := by
    unfold mid
    split
    · simp
    · exact walk_len _ _ _ (Nat.le_refl _)
  unfold Sof
  simp only [List.length_append, List.length_replicate]
  omega
theorem pv_mulL {d : D} {k : Nat} (h : k ≤ 4000) : pev (.bin .Mult) [.lst [d], .int k] = some (.lst (List.replicate k d)) := by
  show (if [d].length ≤ 4000 ∧ (0 : Int) ≤ k ∧ (k : Int) ≤ 4000 then some (D.lst (List.replicate (k : Int).toNat [d]).flatten) else none) = _
  rw [if_pos (by simp; omega), Int.toNat_natCast]
  congr 2
  induction k with
  | zero => rfl
  | succ k ih => rw [List.replicate_succ, List.flatten_cons, ih (by omega)]; rfl
theorem lft_len (one other : List Int) : (lft one other).length ≤ one.length := by
  unfold lft
  simp
  omega
theorem rgt_len (one other : List Int) : (rgt one other).length ≤ other.length := by
  unfold rgt
  simp
  omega
theorem outs2 (a b : D) (e : Mp.Env) : outsOf (mergeIo [.val a, .val b] e) = [] := by
  cases e with
  | nil => rfl
  | cons x e => cases e <;> rfl
theorem edits_body {cf : CallF} {one other : List Int} (h1 : one.length ≤ 1000) (h2 : other.length ≤ 1000)
    (ha : cf 8 [.val (tu one), .val (tu other)] = .ok (.tup [.int (pre one other), .int (tail one other)]) [])
    (hj : cf 14 [.val (.lst ((Sof one other).map sd)), .val (tu one), .val (tu other)] = .ok (te (jn (Sof one other) one other)) [])
    (htab : cf 10 [.val (tu (lft one other)), .val (tu (rgt one other))] = .ok (.lst (tabR (lft one other) (rgt one other))) [])
    (hwe : evS cf (.while condU bodyU) (stU (.val (tu one)) (.val (tu other)) (.val (.int (pre one other))) (.val (.int (tail one other))) (lft one other) (rgt one other) (List.replicate (pre one other) K) 0 0) = .nxt (stU (.val (tu one)) (.val (tu other)) (.val (.int (pre one other))) (.val (.int (tail one other))) (lft one other) (rgt one other) (List.replicate (pre one other) K ++ walk (lft one other) (rgt one other)) (lft one other).length (rgt one other).length)) :
    ∃ e, evB cf b_edits_in [.val (tu one), .val (tu other), .none, .none, .none, .none, .none, .none, .none, .none] = .ret (te (jn (Sof one other) one other)) e := by
  have hl := lft_len one other
  have hr := rgt_len one other
  have ht := tail_le one other
  have s1 : pev (.slc true true) [tu one, .int (pre one other), .int ((one.length : Int) - (tail one other : Nat))] = some (tu (lft one other)) := by
    have : ((one.length : Int) - (tail one other : Nat)) = ((one.length - tail one other : Nat) : Int) := by omega
    rw [this]
    exact pv_slcn (by omega) (by omega)
  have s2 : pev (.slc true true) [tu other, .int (pre one other), .int ((other.length : Int) - (tail one other : Nat))] = some (tu (rgt one other)) := by
    have : ((other.length : Int) - (tail one other : Nat)) = ((other.length - tail one other : Nat) : Int) := by omega
    rw [this]
    exact pv_slcn (by omega) (by omega)
  have m1 := pv_mulL (d := .str [107, 101, 101, 112]) (k := pre one other) (by omega)
  have m2 := pv_mulL (d := .str [107, 101, 101, 112]) (k := tail one other) (by omega)
  have mm : pev (.bin .Mult) [.int (((lft one other).length : Int) + 1), .int (((rgt one other).length : Int) + 1)] = some (.int ((((lft one other).length : Int) + 1) * (((rgt one other).length : Int) + 1))) := pv_mul (mul_l (by omega) (by omega))
  have hbg : (40000 < (((lft one other).length : Int) + 1) * (((rgt one other).length : Int) + 1)) ↔ big one other := by
    unfold big
    have e : ((((lft one other).length + 1) * ((rgt one other).length + 1) : Nat) : Int) = (((lft one other).length : Int) + 1) * (((rgt one other).length : Int) + 1) := by rw [Int.natCast_mul]; rfl
    rw [← e]
    omega
  by_cases hb : big one other
  · have m3 := pv_mulL (d := .str [99, 117, 116]) (k := (lft one other).length) (by omega)
    have m4 := pv_mulL (d := .str [112, 117, 116]) (k := (rgt one other).length) (by omega)
    have cat := pv_catl (a := List.replicate (lft one other).length (.str [99, 117, 116])) (b := List.replicate (rgt one other).length (.str [112, 117, 116])) (by simp; omega)
    have hs : (Sof one other).map sd = List.replicate (pre one other) (.str [107, 101, 101, 112]) ++ (List.replicate (lft one other).length (.str [99, 117, 116]) ++ List.replicate (rgt one other).length (.str [112, 117, 116])) ++ List.replicate (tail one other) (.str [107, 101, 101, 112]) := by
      unfold Sof mid
      rw [if_pos hb]
      simp [List.map_replicate, sd]
    have cat2 := pv_catl (a := List.replicate (pre one other) (.str [107, 101, 101, 112]) ++ (List.replicate (lft one other).length (.str [99, 117, 116]) ++ List.replicate (rgt one other).length (.str [112, 117, 116]))) (b := List.replicate (tail one other) (.str [107, 101, 101, 112])) (by simp; omega)
    rw [hs] at hj
    have hz : pre one other + ((lft one other).length + (rgt one other).length) ≤ 16777216 := by omega
    simp [b_edits_in, ha, s1, s2, m1, m2, mm, hbg, hb, m3, m4, cat, hz, cat2, hj, -List.append_assoc]
  · simp only [stU, List.map_replicate, sd, Int.natCast_zero] at hwe
    have hs : (Sof one other).map sd = (List.replicate (pre one other) K ++ walk (lft one other) (rgt one other)).map sd ++ List.replicate (tail one other) (.str [107, 101, 101, 112]) := by
      unfold Sof mid
      rw [if_neg hb]
      simp [List.map_replicate, sd]
    have hwl := walk_len _ (lft one other) (rgt one other) (Nat.le_refl _)
    have cat2 := pv_catl (a := (List.replicate (pre one other) K ++ walk (lft one other) (rgt one other)).map sd) (b := List.replicate (tail one other) (.str [107, 101, 101, 112])) (by simp; omega)
    rw [hs] at hj
    simp only [b_edits_in]
    simp [ha, s1, s2, m1, m2, mm, hbg, hb, htab, hwe, cat2, hj, -List.append_assoc, -List.map_append]
theorem edits_in_ok {n : Nat} {one other : List Int} (h1 : one.length ≤ 1000) (h2 : other.length ≤ 1000) : run tbl (n + 2) 12 [.val (tu one), .val (tu other)] = .ok (te (jn (Sof one other) one other)) [] := by
  have hl := lft_len one other
  have hr := rgt_len one other
  have ht := tail_le one other
  have ha := alike_ok (n := n) (one := one) (other := other) (by omega) (by omega)
  have hj := joined_ok (n := n) (Sof_path one other) (by have := Sof_len one other; omega)
  have htab := table_ok (n := n) (one := lft one other) (other := rgt one other) (by omega) (by omega)
  have hw := while_ok (n := n + 1) (e0 := .val (tu one)) (e1 := .val (tu other)) (e2 := .val (.int (pre one other))) (e3 := .val (.int (tail one other))) (left := lft one other) (right := rgt one other) (by omega) (by omega) (S0 := List.replicate (pre one other) K) (by simp; omega)
  have hwe := (while_eq (cf := run tbl (n + 1)) (c := condU) (body := bodyU) (env := stU (.val (tu one)) (.val (tu other)) (.val (.int (pre one other))) (.val (.int (tail one other))) (lft one other) (rgt one other) (List.replicate (pre one other) K) 0 0)).trans hw
  obtain ⟨e, he⟩ := edits_body h1 h2 ha hj htab hwe
  rw [run_eq (d := ⟨2, 10, b_edits_in⟩) rfl rfl]
  show fin 12 [.val (tu one), .val (tu other)] (evB (run tbl (n + 1)) b_edits_in [.val (tu one), .val (tu other), .none, .none, .none, .none, .none, .none, .none, .none]) = _
  rw [he]
  show CR.ok _ (outsOf (mergeIo [.val (tu one), .val (tu other)] e)) = _
  rw [outs2]
theorem between_ok {n : Nat} {one other : List Int} (o1 : Oct one) (o2 : Oct other) (h1 : one.length ≤ 1000) (h2 : other.length ≤ 1000) : run tbl (n + 4) 24 [.val (tu one), .val (tu other)] = .ok (te (jn (Sof one other) one other)) [] := by
  rw [run_eq (d := ⟨2, 2, b_edits_between⟩) rfl rfl]
  simp [b_edits_between, file_ok (n := n) o1 h1, file_ok (n := n) o2 h2, edits_in_ok (n := n + 1) h1 h2]
  rfl
end K16
set_option Elab.async false
set_option linter.all false
set_option maxRecDepth 100000
set_option maxHeartbeats 8000000
namespace K16
open PySem Mp Stp
/-! ### edits put on octets, by the program -/
theorem slc_any {a : List Int} {i j : Nat} (h : i ≤ j) : pev (.slc true true) [tu a, .int i, .int j] = some (tu ((a.drop i).take (j - i))) := by
  show some (D.tup (cut (a.map D.int) (some (i : Int)) (some (j : Int)))) = _
  rw [cut_map]
  have : cut a (some (i : Int)) (some (j : Int)) = (a.drop i).take (j - i) := by
    unfold cut
    rw [HT.sIx_nat, HT.sIx_nat]
    apply List.ext_getElem?
    intro k
    rw [List.getElem?_take, List.getElem?_take, List.getElem?_drop, List.getElem?_drop]
    by_cases h1 : i ≤ a.length
    · have e1 : min i a.length = i := by omega
      rw [e1]
      by_cases h2 : k < j - i
      · rw [if_pos h2]
        by_cases h3 : k < min j a.length - i
        · rw [if_pos h3]
        · rw [if_neg h3, List.getElem?_eq_none (by omega)]
      · rw [if_neg h2, if_neg (by omega)]
    · rw [if_neg (by omega)]
      split
      · rw [List.getElem?_eq_none (by omega)]
      · rfl
  rw [this]
  rfl
/-- what is to come, from a place on -/
def spec (E : List Ed) (a : List Int) (at_ : Nat) (f : List Int) : Option (List Int) := if at_ ≤ a.length then app E (a.drop at_) f else none
abbrev bodyX : List S := [.ifs (.prim (.cmp .Eq) [(.var 4), (.con (.str [107, 101, 101, 112]))]) [.par [2, 3] [(.prim (.bin .Add) [(.var 2), (.prim (.slc true true) [(.var 0), (.var 3), (.prim (.bin .Add) [(.var 3), (.var 5)])])]), (.prim (.bin .Add) [(.var 3), (.var 5)])]] [.ifs (.prim (.cmp .Eq) [(.var 4), (.con (.str [112, 117, 116]))]) [.set (.name 2) (.prim (.bin .Add) [(.var 2), (.var 5)])] [.ifs (.prim (.cmp .NotEq) [(.prim (.slc true true) [(.var 0), (.var 3), (.prim (.bin .Add) [(.var 3), (.prim (.call .len) [(.var 5)])])]), (.var 5)]) [.ret (some (.con .non))] [.set (.name 3) (.prim (.bin .Add) [(.var 3), (.prim (.call .len) [(.var 5)])])]]]]
def stX (e1 : Sl) (a f : List Int) (i : Nat) (x4 x5 : Sl) : Mp.Env := [.val (tu a), e1, .val (tu f), .val (.int i), x4, x5]
/-- no more octets come than that -/
def putN : List Ed → Nat
  | [] => 0
  | .keep n :: E => n + putN E
  | .cut _ :: E => putN E
  | .put u :: E => u.length + putN E
theorem cat_int (i n : Nat) : (i : Int) + (n : Int) = ((i + n : Nat) : Int) := by omega
theorem edited_loop {cf : CallF} {e1 : Sl} {a : List Int} : ∀ (E : List Ed) (f : List Int) (i : Nat) (x4 x5 : Sl), Wr x4 → Wr x5 → f.length + putN E ≤ 10000000 →
    (∃ e, forGo (fun d e => (ofOptS (asg e (.tup [.name 4, .name 5]) d)).then fun e1 => evB cf bodyX e1) (E.map ed) (stX e1 a f i x4 x5) = .ret .non e ∧ spec E a i f = none) ∨
    (∃ f' i' y4 y5, forGo (fun d e => (ofOptS (asg e (.tup [.name 4, .name 5]) d)).then fun e1 => evB cf bodyX e1) (E.map ed) (stX e1 a f i x4 x5) = .nxt (stX e1 a f' i' y4 y5) ∧ spec E a i f = if i' = a.length then some f' else none)
  | [], f, i, x4, x5, _, _, _ => by
    refine .inr ⟨f, i, x4, x5, rfl, ?_⟩
    unfold spec app
    by_cases h : i ≤ a.length
    · rw [if_pos h]
      by_cases h2 : i = a.length
      · rw [if_pos h2, if_pos (by rw [h2, List.drop_length])]
      · rw [if_neg h2, if_neg (fun z => by have := congrArg List.length z; simp at this; omega)]
    · rw [if_neg h, if_neg (by omega)]
  | .keep n :: E, f, i, x4, x5, h4, h5, hb => by
    have hb' : f.length + (n + putN E) ≤ 10000000 := hb
    have hcat := pv_cat (a := f) (b := (a.drop i).take (i + n - i)) (by rw [List.length_take]; omega)
    have hsl := slc_any (a := a) (i := i) (j := i + n) (by omega)
    have hw : pev (.cmp .Eq) [.str (word (.keep n)), .str [107, 101, 101, 112]] = some (.bl true) := pv_eqs ck ck
    have st : (ofOptS (asg (stX e1 a f i x4 x5) (.tup [.name 4, .name 5]) (ed (.keep n)))).then (fun e1 => evB cf bodyX e1) = .nxt (stX e1 a (f ++ (a.drop i).take n) (i + n) (.val (.str (word (.keep n)))) (.val (.int n))) := by
      rw [Nat.add_sub_cancel_left] at hcat hsl
      rw [← cat_int] at hsl
      simp [stX, ed, arg, put_wr h4, put_wr h5, hw, hsl, hcat]
    have hs : spec (.keep n :: E) a i f = spec E a (i + n) (f ++ (a.drop i).take n) := by
      unfold spec
      by_cases h : i ≤ a.length
      · rw [if_pos h]
        show (if n ≤ (a.drop i).length then app E ((a.drop i).drop n) (f ++ (a.drop i).take n) else none) = _
        rw [List.length_drop, List.drop_drop]
        by_cases h2 : n ≤ a.length - i
        · rw [if_pos h2, if_pos (by omega)]
        · rw [if_neg h2, if_neg (by omega)]
      · rw [if_neg h, if_neg (by omega)]
    rw [List.map_cons, forGo_cons st, hs]
    exact edited_loop E _ _ _ _ (.val _) (.val _) (by rw [List.length_append, List.length_take]; omega)
  | .put u :: E, f, i, x4, x5, h4, h5, hb => by
    have hb' : f.length + (u.length + putN E) ≤ 10000000 := hb
    have hcat := pv_cat (a := f) (b := u) (by omega)
    have hw : pev (.cmp .Eq) [.str (word (.put u)), .str [107, 101, 101, 112]] = some (.bl false) := pv_eqs cp ck
    have hw2 : pev (.cmp .Eq) [.str (word (.put u)), .str [112, 117, 116]] = some (.bl true) := pv_eqs cp cp
    have st : (ofOptS (asg (stX e1 a f i x4 x5) (.tup [.name 4, .name 5]) (ed (.put u)))).then (fun e1 => evB cf bodyX e1) = .nxt (stX e1 a (f ++ u) i (.val (.str (word (.put u)))) (.val (tu u))) := by
      simp [stX, ed, arg, put_wr h4, put_wr h5, hw, hw2, hcat]
    have hs : spec (.put u :: E) a i f = spec E a i (f ++ u) := by unfold spec; rfl
    rw [List.map_cons, forGo_cons st, hs]
    exact edited_loop E _ _ _ _ (.val _) (.val _) (by rw [List.length_append]; omega)
  | .cut u :: E, f, i, x4, x5, h4, h5, hb => by
    have hb' : f.length + putN E ≤ 10000000 := hb
    have hw : pev (.cmp .Eq) [.str (word (.cut u)), .str [107, 101, 101, 112]] = some (.bl false) := pv_eqs cc ck
    have hw2 : pev (.cmp .Eq) [.str (word (.cut u)), .str [112, 117, 116]] = some (.bl false) := pv_eqs cc cp
    have hsl := slc_any (a := a) (i := i) (j := i + u.length) (by omega)
    rw [Nat.add_sub_cancel_left, ← cat_int] at hsl
    by_cases c : (a.drop i).take u.length = u
    · have st : (ofOptS (asg (stX e1 a f i x4 x5) (.tup [.name 4, .name 5]) (ed (.cut u)))).then (fun e1 => evB cf bodyX e1) = .nxt (stX e1 a f (i + u.length) (.val (.str (word (.cut u)))) (.val (tu u))) := by
        simp [stX, ed, arg, put_wr h4, put_wr h5, hw, hw2, hsl, c]
      have hs : spec (.cut u :: E) a i f = spec E a (i + u.length) f := by
        unfold spec
        by_cases h : i ≤ a.length
        · rw [if_pos h]
          show (if (a.drop i).take u.length = u then app E ((a.drop i).drop u.length) f else none) = _
          have hl := congrArg List.length c
          rw [List.length_take, List.length_drop] at hl
          rw [if_pos c, List.drop_drop, if_pos (by omega)]
        · rw [if_neg h, if_neg (by omega)]
      rw [List.map_cons, forGo_cons st, hs]
      exact edited_loop E _ _ _ _ (.val _) (.val _) hb'
    · refine .inl ⟨stX e1 a f i (.val (.str (word (.cut u)))) (.val (tu u)), ?_, ?_⟩
      · have st : (ofOptS (asg (stX e1 a f i x4 x5) (.tup [.name 4, .name 5]) (ed (.cut u)))).then (fun e1 => evB cf bodyX e1) = .ret .non (stX e1 a f i (.val (.str (word (.cut u)))) (.val (tu u))) := by
          simp [stX, ed, arg, put_wr h4, put_wr h5, hw, hw2, hsl, c]
        rw [List.map_cons]
        conv => lhs; unfold forGo
        rw [st]
      · unfold spec
        split
        · show (if (a.drop i).take u.length = u then _ else none) = none
          rw [if_neg c]
        · rfl
def ans : Option (List Int) → D
  | some r => tu r
  | none => .non
theorem edited_ok {n : Nat} {a : List Int} {E : List Ed} (h : putN E ≤ 1000000) : run tbl (n + 1) 16 [.val (tu a), .val (te E)] = .ok (ans (app E a [])) [] := by
  rw [run_eq (d := ⟨2, 6, b_edited⟩) rfl rfl]
  generalize run tbl n = cf
  show fin 16 [.val (tu a), .val (te E)] (evB cf b_edited [.val (tu a), .val (te E), .none, .none, .none, .none]) = _
  have hsp : spec E a 0 [] = app E a [] := by unfold spec; rw [if_pos (Nat.zero_le _)]; rfl
  have hs : evS cf (.set (.tup [(.name 2), (.name 3)]) (.prim .tup [(.prim .tup []), (.con (.int 0))])) [.val (tu a), .val (te E), .none, .none, .none, .none] = .nxt (stX (.val (te E)) a [] 0 .none .none) := by
    simp [stX, tu]
  have hfe := for_eq (cf := cf) (t := .tup [.name 4, .name 5]) (k := .seq) (body := bodyX) (src := [.var 1]) (env := stX (.val (te E)) a [] 0 .none .none) (env1 := stX (.val (te E)) a [] 0 .none .none) (avs := [.val (te E)]) (ds := [te E]) (items := E.map ed) (by simp [stX]) (by simp) rfl
  rcases edited_loop (cf := cf) (e1 := .val (te E)) (a := a) E [] 0 .none .none .non .non (by simp; omega) with ⟨e, q, z⟩ | ⟨f', i', y4, y5, q, z⟩
  · rw [hsp] at z
    rw [z, b_edited, evB_cons', hs, SR.then_nxt, evB_cons', hfe, q]
    show CR.ok _ (outsOf (mergeIo _ e)) = _
    rw [outs2]
    rfl
  · rw [hsp] at z
    rw [z, b_edited, evB_cons', hs, SR.then_nxt, evB_cons', hfe, q, SR.then_nxt]
    by_cases c : i' = a.length
    · subst c
      simp [stX, ans]
      rfl
    · have c2 : ¬ (i' : Int) = a.length := by omega
      simp [stX, ans, c, decide_eq_false c2, c2]
      rfl
end K16
set_option Elab.async false
set_option linter.all false
set_option maxRecDepth 100000
set_option maxHeartbeats 8000000
namespace K16
open PySem Mp Stp
/-! ### what edits are, what they cost -/
def Ok (m : Nat) (E : List Ed) : Prop := ∀ e ∈ E, okE m e
abbrev bodyY : List S := [.ifs (.bop false [(.neg (.prim (.isi .str) [(.var 1)])), (.prim (.cmp .NotIn) [(.var 1), (.prim .tup [(.con (.str [107, 101, 101, 112])), (.con (.str [99, 117, 116])), (.con (.str [112, 117, 116]))])])]) [.ret (some (.con (.bl false)))] [], .ifs (.ife (.prim (.cmp .Eq) [(.var 1), (.con (.str [107, 101, 101, 112]))]) (.neg (.call 0 [(.var 2), (.con (.int 1)), (.glob "OCTETS" (.int 1000))])) (.bop false [(.prim (.cmp .Eq) [(.var 2), (.prim .tup [])]), (.neg (.call 4 [(.var 2), (.glob "OCTETS" (.int 1000))]))])) [.ret (some (.con (.bl false)))] []]
theorem isi_str {s : List Nat} : pev (.isi .str) [.str s] = some (.bl true) := rfl
theorem loopY {cf : CallF} {e0 : Sl} {r : Mp.Env} (hw : ∀ n : Nat, 1 ≤ n → n ≤ 1000 → cf 0 [.val (.int n), .val (.int 1), .val (.int 1000)] = .ok (.bl true) []) (ho : ∀ u : List Int, u.length ≤ 1000 → Oct u → cf 4 [.val (tu u), .val (.int 1000)] = .ok (.bl true) []) :
    ∀ (E : List Ed) (x1 x2 : Sl), Ok 1000 E → Wr x1 → Wr x2 → ∃ y1 y2, forGo (fun d e => (ofOptS (asg e (.tup [.name 1, .name 2]) d)).then fun e1 => evB cf bodyY e1) (E.map ed) (e0 :: x1 :: x2 :: r) = .nxt (e0 :: y1 :: y2 :: r) ∧ Wr y1 ∧ Wr y2
  | [], x1, x2, _, h1, h2 => ⟨x1, x2, rfl, h1, h2⟩
  | e :: E, x1, x2, ok, h1, h2 => by
    have okE := ok e List.mem_cons_self
    obtain ⟨y1, y2, q, q1, q2⟩ := loopY hw ho E (.val (.str (word e))) (.val (arg e)) (fun z hz => ok z (List.mem_cons_of_mem _ hz)) (.val _) (.val _)
    refine ⟨y1, y2, ?_, q1, q2⟩
    rw [List.map_cons, forGo_cons ?_]
    · exact q
    have hin := word_in e
    cases e with
    | keep n =>
      have hk : pev (.cmp .Eq) [.str (word (.keep n)), .str [107, 101, 101, 112]] = some (.bl true) := pv_eqs ck ck
      simp [ed, put_wr h1, put_wr h2, hin, isi_str, hk, arg, hw n okE.1 okE.2]
    | cut u =>
      have hk : pev (.cmp .Eq) [.str (word (.cut u)), .str [107, 101, 101, 112]] = some (.bl false) := pv_eqs cc ck
      simp [ed, put_wr h1, put_wr h2, hin, isi_str, hk, arg, pv_eq0, okE.1, ho u okE.2.1 okE.2.2]
    | put u =>
      have hk : pev (.cmp .Eq) [.str (word (.put u)), .str [107, 101, 101, 112]] = some (.bl false) := pv_eqs cp ck
      simp [ed, put_wr h1, put_wr h2, hin, isi_str, hk, arg, pv_eq0, okE.1, ho u okE.2.1 okE.2.2]
def pr (p : Ed × Ed) : D := .tup [.str (word p.1), .str (word p.2)]
theorem drop1 {α : Type} (xs : List α) : cut xs (some 1) none = xs.tail := by
  unfold cut
  have e : HT.sIx xs.length 0 (some ((1 : Nat) : Int)) = min 1 xs.length := HT.sIx_nat _ _ _
  have e2 : HT.sIx xs.length xs.length none = xs.length := rfl
  rw [show (some (1 : Int)) = some ((1 : Nat) : Int) from rfl, e, e2]
  cases xs with
  | nil => rfl
  | cons x xs =>
    have : min 1 (x :: xs).length = 1 := by simp
    rw [this]
    simp
theorem pv_tail (E : List Ed) : pev (.slc true false) [te E, .int 1] = some (te E.tail) := by
  show some (D.tup (cut (E.map ed) (some 1) none)) = _
  rw [drop1]
  cases E <;> rfl
theorem zip_te (E F : List Ed) : itEv .zip [te E, te F] = some ((E.zip F).map fun p => D.tup [ed p.1, ed p.2]) := by
  show some (((E.map ed).zip (F.map ed)).map fun p => D.tup [p.1, p.2]) = _
  rw [List.zip_map, List.map_map]
  rfl
theorem mem_zip {E : List Ed} {p : Ed × Ed} (h : p ∈ E.zip E.tail) : p.1 ∈ E ∧ p.2 ∈ E := by
  obtain ⟨h1, h2⟩ := List.of_mem_zip (a := p.1) (b := p.2) h
  exact ⟨h1, List.mem_of_mem_tail h2⟩
theorem ne_ww (e f : Ed) : pev (.cmp .NotEq) [.str (word e), .str (word f)] = some (.bl (knd e != knd f)) := by
  rw [ne_word e _ (codes_word f)]
  cases e <;> cases f <;> rfl
theorem ne_pc (e f : Ed) : pev (.cmp .NotEq) [.tup [.str (word e), .str (word f)], .tup [.str [112, 117, 116], .str [99, 117, 116]]] = some (.bl (!(knd e == 2 && knd f == 1))) := by
  rw [pv_ne ?_ rfl]
  · cases e <;> cases f <;> (first | rfl | kernel_rfl)
  · exact gd_mono (k := 1) (by decide) (gd_tup fun x hx => by
      simp at hx
      rcases hx with rfl | rfl
      · exact gd_word e 0
      · exact gd_word f 0)
theorem fits_ok {n : Nat} {E : List Ed} (ok : Ok 1000 E) (hl : E.length ≤ 2001) : run tbl (n + 3) 6 [.val (te E)] = .ok (.bl (adj E)) [] := by
  rw [run_eq (d := ⟨1, 6, b_fits_edits⟩) rfl rfl]
  have f1 : run tbl (n + 2) 2 [.val (te E), .val (.int 0), .val (.int 2001)] = .ok (.bl true) [] := by
    unfold te
    rw [tuple_ok]
    simp
    omega
  have f2 : ∀ e : Ed, run tbl (n + 2) 2 [.val (ed e), .val (.int 2), .val (.int 2)] = .ok (.bl true) [] := fun e => by
    unfold ed
    rw [tuple_ok]
    rfl
  have f3 : ∀ m : Nat, 1 ≤ m → m ≤ 1000 → run tbl (n + 2) 0 [.val (.int m), .val (.int 1), .val (.int 1000)] = .ok (.bl true) [] := fun m h1 h2 => by
    rw [whole_ok]
    have : wh 1 m 1000 = true := decide_eq_true ⟨by omega, by omega⟩
    rw [this]
  have f4 : ∀ u : List Int, u.length ≤ 1000 → Oct u → run tbl (n + 2) 4 [.val (tu u), .val (.int 1000)] = .ok (.bl true) [] := fun u h1 h2 => octets_ok (n := n) h2 (by omega) (by decide)
  generalize run tbl (n + 2) = cf at *
  show fin 6 [.val (te E)] (evB cf b_fits_edits [.val (te E), .none, .none, .none, .none, .none]) = _
  have c1 : evE cf (.comp [4] (.name 4) .seq [(.var 0)] [] (.call 2 [(.var 4), (.con (.int 2)), (.con (.int 2))])) [.val (te E), .none, .none, .none, .none, .none] = .ok (.lst ((E.map ed).filterMap fun _ => some (D.bl true))) [.val (te E), .none, .none, .none, .none, .none] := by
    refine comp_pure _ (avs := [.val (te E)]) (ds := [te E]) (by simp) (by simp) rfl rfl (by simp; omega) fun d hd => ?_
    obtain ⟨e, _, rfl⟩ := List.mem_map.mp hd
    refine ⟨[.val (te E), .none, .none, .none, .val (ed e), .none], ?_, rfl⟩
    simp [stepW, Mp.wipe, f2]
  have c1' : (E.map ed).filterMap (fun _ => some (D.bl true)) = E.map fun _ => D.bl true := by
    rw [filterMap_some (f := fun _ => D.bl true), List.map_map]
    rfl
  rw [c1'] at c1
  have all1 : E.all (fun _ => true) = true := by simp
  obtain ⟨y1, y2, q, w1, w2⟩ := loopY (cf := cf) (e0 := .val (te E)) (r := [.none, .none, .none]) f3 f4 E .none .none ok .non .non
  have hfe := (for_eq (cf := cf) (t := .tup [.name 1, .name 2]) (k := .seq) (body := bodyY) (src := [.var 0]) (env := [.val (te E), .none, .none, .none, .none, .none]) (env1 := [.val (te E), .none, .none, .none, .none, .none]) (avs := [.val (te E)]) (ds := [te E]) (items := E.map ed) (by simp) (by simp) rfl).trans q
  have c2 : evE cf (.comp [4, 5] (.tup [(.name 4), (.name 5)]) .zip [(.var 0), (.prim (.slc true false) [(.var 0), (.con (.int 1))])] [] (.prim .tup [(.prim .idx [(.var 4), (.con (.int 0))]), (.prim .idx [(.var 5), (.con (.int 0))])])) [.val (te E), y1, y2, .none, .none, .none] = .ok (.lst (((E.zip E.tail).map fun p => D.tup [ed p.1, ed p.2]).filterMap fun d => some (match d with | .tup [.tup (a :: _), .tup (b :: _)] => D.tup [a, b] | _ => .non))) [.val (te E), y1, y2, .none, .none, .none] := by
    refine comp_pure _ (avs := [.val (te E), .val (te E.tail)]) (ds := [te E, te E.tail]) (by simp [pv_tail]) (by simp) (zip_te E E.tail) rfl (by simp; omega) fun d hd => ?_
    obtain ⟨p, _, rfl⟩ := List.mem_map.mp hd
    refine ⟨[.val (te E), y1, y2, .none, .val (ed p.1), .val (ed p.2)], ?_, rfl⟩
    simp [stepW, Mp.wipe, ed0]
    rfl
  have c2' : ((E.zip E.tail).map fun p => D.tup [ed p.1, ed p.2]).filterMap (fun d => some (match d with | .tup [.tup (a :: _), .tup (b :: _)] => D.tup [a, b] | _ => .non)) = (E.zip E.tail).map pr := by
    rw [filterMap_some, List.map_map]
    rfl
  rw [c2'] at c2
  have c3 : evE cf (.comp [4, 5] (.tup [(.name 4), (.name 5)]) .seq [(.var 3)] [] (.bop true [(.prim (.cmp .NotEq) [(.var 4), (.var 5)]), (.prim (.cmp .NotEq) [(.prim .tup [(.var 4), (.var 5)]), (.prim .tup [(.con (.str [112, 117, 116])), (.con (.str [99, 117, 116]))])])])) [.val (te E), y1, y2, .val (.lst ((E.zip E.tail).map pr)), .none, .none] = .ok (.lst ((E.zip E.tail).map fun p => D.bl (nx p.1 p.2))) [.val (te E), y1, y2, .val (.lst ((E.zip E.tail).map pr)), .none, .none] := by
    obtain ⟨ys, w, g1, g2⟩ := comp_ind (cf := cf) (own := [4, 5]) (tg := .tup [(.name 4), (.name 5)]) (k := .seq) (src := [.var 3]) (cnd := []) (elt := .bop true [(.prim (.cmp .NotEq) [(.var 4), (.var 5)]), (.prim (.cmp .NotEq) [(.prim .tup [(.var 4), (.var 5)]), (.prim .tup [(.con (.str [112, 117, 116])), (.con (.str [99, 117, 116]))])])])
      (env := [.val (te E), y1, y2, .val (.lst ((E.zip E.tail).map pr)), .none, .none]) (env1 := [.val (te E), y1, y2, .val (.lst ((E.zip E.tail).map pr)), .none, .none]) (avs := [.val (.lst ((E.zip E.tail).map pr))]) (ds := [.lst ((E.zip E.tail).map pr)]) (items := (E.zip E.tail).map pr)
      (fun ds acc w => ∃ dn rest, E.zip E.tail = dn ++ rest ∧ ds = rest.map pr ∧ acc = dn.map (fun p => D.bl (nx p.1 p.2)) ∧ w = [.val (te E), y1, y2, .val (.lst ((E.zip E.tail).map pr)), .none, .none])
      (by simp) (by simp) rfl rfl ⟨[], _, rfl, rfl, rfl, rfl⟩ (by rw [List.length_map, List.length_zip]; omega) (fun ds acc w ⟨_, _, _, _, _, e⟩ => by rw [e]) (fun d ds acc w ⟨dn, rest, h1, h2, h3, h4⟩ => by
        cases rest with
        | nil => cases h2
        | cons p rest =>
          simp only [List.map_cons, List.cons.injEq] at h2
          obtain ⟨rfl, rfl⟩ := h2
          subst h4
          refine ⟨some (.bl (nx p.1 p.2)), [.val (te E), y1, y2, .val (.lst ((E.zip E.tail).map pr)), .val (.str (word p.1)), .val (.str (word p.2))], ?_, dn ++ [p], rest, by rw [h1]; simp, rfl, by rw [h3]; simp, rfl⟩
          unfold nx
          cases hk : (knd p.1 != knd p.2) <;> simp [stepW, Mp.wipe, pr, ne_ww, ne_pc, hk])
    obtain ⟨dn, rest, h1, h2, h3, h4⟩ := g2
    cases rest with
    | cons _ _ => cases h2
    | nil =>
      rw [List.append_nil] at h1
      rw [g1, h3, h4, h1]
      rfl
  have hm : pev (.bin .Mult) [.int 2, .int 1000] = some (.int 2000) := pv_mul (by decide)
  have e1 : evS cf (.set (.name 3) (.comp [4, 5] (.tup [(.name 4), (.name 5)]) .zip [(.var 0), (.prim (.slc true false) [(.var 0), (.con (.int 1))])] [] (.prim .tup [(.prim .idx [(.var 4), (.con (.int 0))]), (.prim .idx [(.var 5), (.con (.int 0))])]))) [.val (te E), y1, y2, .none, .none, .none] = .nxt [.val (te E), y1, y2, .val (.lst ((E.zip E.tail).map pr)), .none, .none] := by
    rw [evS_set, c2]
    simp
  have all2 := pv_all (f := fun p : Ed × Ed => nx p.1 p.2) (l := E.zip E.tail)
  rw [adj_zip] at all2
  have all3 := pv_all (f := fun _ : Ed => true) (l := E)
  rw [all1] at all3
  rw [b_fits_edits, evB_cons']
  have e0 : evS cf (.ifs (.bop false [(.neg (.call 2 [(.var 0), (.con (.int 0)), (.prim (.bin .Add) [(.prim (.bin .Mult) [(.con (.int 2)), (.glob "OCTETS" (.int 1000))]), (.con (.int 1))])])), (.neg (.prim (.call .all) [(.comp [4] (.name 4) .seq [(.var 0)] [] (.call 2 [(.var 4), (.con (.int 2)), (.con (.int 2))]))]))]) [.ret (some (.con (.bl false)))] []) [.val (te E), .none, .none, .none, .none, .none] = .nxt [.val (te E), .none, .none, .none, .none, .none] := by
    simp [hm, f1, c1, all3]
  rw [e0, SR.then_nxt, evB_cons', hfe, SR.then_nxt, evB_cons', e1, SR.then_nxt]
  simp [c3, all2]
  rfl
theorem need_ok {n : Nat} {E : List Ed} (ok : Ok 1000 E) (hl : E.length ≤ 2001) (ha : adj E = true) : run tbl (n + 4) 20 [.val (te E)] = .ok .non [] := by
  rw [run_eq (d := ⟨1, 1, b_need_edits⟩) rfl rfl]
  have := fits_ok (n := n) ok hl
  rw [ha] at this
  generalize run tbl (n + 3) = cf at *
  simp [b_need_edits, this]
  rfl
theorem is_ok {n : Nat} {E : List Ed} (ok : Ok 1000 E) (hl : E.length ≤ 2001) : run tbl (n + 4) 22 [.val (te E)] = .ok (.bl (adj E)) [] := by
  rw [run_eq (d := ⟨1, 1, b_is_edits⟩) rfl rfl]
  have := fits_ok (n := n) ok hl
  generalize run tbl (n + 3) = cf at *
  simp [b_is_edits, this]
  rfl
theorem by_ok {n : Nat} {a : List Int} {E : List Ed} (oa : Oct a) (la : a.length ≤ 1000) (ok : Ok 1000 E) (hl : E.length ≤ 2001) (ha : adj E = true) (hp : putN E ≤ 1000000) : run tbl (n + 5) 26 [.val (tu a), .val (te E)] = .ok (ans (app E a [])) [] := by
  rw [run_eq (d := ⟨2, 2, b_edited_by⟩) rfl rfl]
  have h1 := file_ok (n := n + 1) oa la
  have h2 := need_ok (n := n) ok hl ha
  have h3 := edited_ok (n := n + 3) (a := a) hp
  generalize run tbl (n + 4) = cf at *
  simp [b_edited_by, h1, h2, h3]
  rfl
theorem price_ok {n : Nat} {E : List Ed} (ok : Ok 1000 E) (hl : E.length ≤ 2001) (ha : adj E = true) : run tbl (n + 5) 28 [.val (te E)] = .ok (.int (costE E)) [] := by
  rw [run_eq (d := ⟨1, 3, b_price_of⟩) rfl rfl]
  have h2 := need_ok (n := n) ok hl ha
  generalize run tbl (n + 4) = cf at *
  have c : evE cf (.comp [1, 2] (.tup [(.name 1), (.name 2)]) .seq [(.var 0)] [(.prim (.cmp .NotEq) [(.var 1), (.con (.str [107, 101, 101, 112]))])] (.prim (.call .len) [(.var 2)])) [.val (te E), .none, .none] = .ok (.lst ((E.map ed).filterMap fun d => match d with | .tup [.str w, a] => if w = [107, 101, 101, 112] then none else lenEv [a] | _ => none)) [.val (te E), .none, .none] := by
    refine comp_pure _ (avs := [.val (te E)]) (ds := [te E]) (by simp) (by simp) rfl rfl (by simp; omega) fun d hd => ?_
    obtain ⟨e, _, rfl⟩ := List.mem_map.mp hd
    refine ⟨[.val (te E), .val (.str (word e)), .val (arg e)], ?_, rfl⟩
    have hk := ne_word e _ ck
    cases e with
    | keep m => simp [stepW, Mp.wipe, ed, word, pv_nes ck ck]
    | cut u =>
      simp [stepW, Mp.wipe, ed, word, arg, pv_nes cc ck]
      show _ = lenEv [tu u]
      exact pv_lentu.symm
    | put u =>
      simp [stepW, Mp.wipe, ed, word, arg, pv_nes cp ck]
      show _ = lenEv [tu u]
      exact pv_lentu.symm
  have hs : pev (.call .sum) [.lst ((E.map ed).filterMap fun d => match d with | .tup [.str w, a] => if w = [107, 101, 101, 112] then none else lenEv [a] | _ => none)] = some (.int (costE E)) := by
    show (intsOf _).map _ = _
    have : ∀ E : List Ed, ∃ ns, intsOf ((E.map ed).filterMap fun d => match d with | .tup [.str w, a] => if w = [107, 101, 101, 112] then none else lenEv [a] | _ => none) = some ns ∧ ns.sum = (costE E : Int) := by
      intro E
      induction E with
      | nil => exact ⟨[], rfl, rfl⟩
      | cons e E ih =>
        obtain ⟨ns, h1, h2⟩ := ih
        cases e with
        | keep m => exact ⟨ns, by simpa [ed, word, -List.filterMap_map] using h1, h2⟩
        | cut u =>
          have hl : lenEv [tu u] = some (.int u.length) := pv_lentu
          refine ⟨(u.length : Int) :: ns, ?_, by simp [costE, h2]⟩
          simp [ed, word, arg, hl, intsOf, h1, -List.filterMap_map]
        | put u =>
          have hl : lenEv [tu u] = some (.int u.length) := pv_lentu
          refine ⟨(u.length : Int) :: ns, ?_, by simp [costE, h2]⟩
          simp [ed, word, arg, hl, intsOf, h1, -List.filterMap_map]
    obtain ⟨ns, h1, h2⟩ := this E
    rw [h1, Option.map_some, h2]
  simp [b_price_of, h2, c, hs, -List.filterMap_map]
  rfl
end K16
set_option Elab.async false
set_option linter.all false
set_option maxRecDepth 100000
set_option maxHeartbeats 8000000
namespace K16
open PySem Mp Stp
theorem range_cons (lo : Int) (n : Nat) : rangeL lo (n + 1) = .int lo :: rangeL (lo + 1) n := by
  unfold rangeL
  rw [List.range_succ_eq_map, List.map_cons, List.map_map]
  congr 1
  · simp
  · apply List.map_congr_left
    intro i _
    show D.int _ = D.int _
    congr 1
    simp only [Nat.succ_eq_add_one]
    omega
def lu (os : List Int) : D := .lst (os.map .int)
theorem lu_gd (os : List Int) : gd 1 (lu os) = true := gd_lst fun x hx => by
  obtain ⟨i, _, rfl⟩ := List.mem_map.mp hx
  rfl
theorem pv_lu0 {a : List Int} : pev (.cmp .Eq) [lu a, .lst []] = some (.bl (decide (a = []))) := by
  have := pv_eq (a := lu a) (b := lu []) (gd_mono (by decide) (lu_gd a)) (gd_mono (by decide) (lu_gd []))
  have e : eqv (lu a) (lu []) = decide (a = []) := eqv_lm (fun x y => eqv_i) a []
  rw [e] at this
  exact this
theorem lu_pop' {x : Int} {l : List Int} : muEv .pop (.lst (.int x :: l.map .int)) [.int 0] = some (.int x, .lst (l.map .int)) := by
  have h : Mp.ixN (D.int x :: l.map D.int).length 0 = some 0 := by
    unfold Mp.ixN
    rw [if_pos (by decide), if_pos (by simp)]
    rfl
  show (if small62 0 = true then (Mp.ixN (D.int x :: l.map D.int).length 0).bind fun k => ((D.int x :: l.map D.int)[k]?).map fun y => (y, D.lst ((D.int x :: l.map D.int).eraseIdx k)) else none) = _
  rw [if_pos (by decide), h]
  rfl
theorem lu0' {x : Int} {l : List Int} : pev (.cmp .Eq) [.lst (.int x :: l.map .int), .lst []] = some (.bl false) := pv_lu0 (a := x :: l)
theorem lu00 : pev (.cmp .Eq) [.lst [], .lst []] = some (.bl true) := pv_lu0 (a := [])
theorem lu_ix' {x : Int} {l : List Int} : pev .idx [.lst (.int x :: l.map .int), .int 0] = some (.int x) := pv_ixl (xs := (x :: l).map D.int) (i := 0) (by simp)
theorem mul1 {x : Int} : pev (.bin .Mult) [.tup [.int x], .int 1] = some (tu [x]) := rfl
theorem mul0 {x : Int} : pev (.bin .Mult) [.tup [.int x], .int 0] = some (tu []) := rfl
abbrev innerL : List S := [.ifs (.prim (.cmp .Eq) [(.var 4), (.con (.str [112, 117, 116]))]) [.set (.name 3) (.prim (.bin .Add) [(.var 3), (.prim (.slc true true) [(.var 5), (.var 6), (.prim (.bin .Add) [(.var 6), (.con (.int 1))])])])] [.ifs (.bop false [(.prim (.cmp .Eq) [(.peek 2), (.prim .lst [])]), (.bop true [(.prim (.cmp .Eq) [(.var 4), (.con (.str [99, 117, 116]))]), (.prim (.cmp .NotEq) [(.prim .idx [(.peek 2), (.con (.int 0))]), (.prim .idx [(.var 5), (.var 6)])])])]) [.ret (some (.con .non))] [.set (.name 7) (.mu .pop 2 [(.con (.int 0))]), .set (.name 3) (.prim (.bin .Add) [(.var 3), (.prim (.bin .Mult) [(.prim .tup [(.var 7)]), (.ife (.prim (.cmp .Eq) [(.var 4), (.con (.str [107, 101, 101, 112]))]) (.con (.int 1)) (.con (.int 0)))])])]]]
abbrev srcL : E := .ife (.prim (.cmp .Eq) [(.var 4), (.con (.str [107, 101, 101, 112]))]) (.var 5) (.prim (.call .len) [(.var 5)])
abbrev outerL : List S := [.for (.name 6) .range [srcL] innerL]
def stL (e0 e1 : Sl) (left f : List Int) (x4 x5 x6 x7 : Sl) : Mp.Env := [e0, e1, .own (lu left), .val (tu f), x4, x5, x6, x7]
abbrev goL (cf : CallF) := forGo (fun d e => (ofOptS (asg e (.name 6) d)).then fun e1 => evB cf innerL e1)
theorem goL_cons {cf : CallF} {d : D} {ds : List D} {e e' : Mp.Env} (h : (ofOptS (asg e (.name 6) d)).then (fun e1 => evB cf innerL e1) = .nxt e') : goL cf (d :: ds) e = goL cf ds e' := forGo_cons h
theorem goL_ret {cf : CallF} {d v : D} {ds : List D} {e e' : Mp.Env} (h : (ofOptS (asg e (.name 6) d)).then (fun e1 => evB cf innerL e1) = .ret v e') : goL cf (d :: ds) e = .ret v e' := by
  unfold goL forGo
  rw [h]
theorem inner_put {cf : CallF} {e0 e1 : Sl} {u : List Int} : ∀ (m k : Nat) (left f : List Int) (x6 x7 : Sl), k + m = u.length → Wr x6 → f.length + m ≤ 10000000 → ∃ y6, Wr y6 ∧ goL cf (rangeL k m) (stL e0 e1 left f (.val (.str [112, 117, 116])) (.val (tu u)) x6 x7) = .nxt (stL e0 e1 left (f ++ u.drop k) (.val (.str [112, 117, 116])) (.val (tu u)) y6 x7)
  | 0, k, left, f, x6, x7, h, h6, _ => ⟨x6, h6, by
    have : u.drop k = [] := by rw [List.drop_eq_nil_iff]; omega
    rw [this, List.append_nil]; rfl⟩
  | m + 1, k, left, f, x6, x7, h, h6, hb => by
    have hd := drop_at (a := u) (i := k) (by omega)
    obtain ⟨y6, q1, q2⟩ := inner_put (cf := cf) (e0 := e0) (e1 := e1) (u := u) m (k + 1) left (f ++ [u[k]]) (.val (.int k)) x7 (by omega) (.val _) (by simp; omega)
    refine ⟨y6, q1, ?_⟩
    rw [hd, List.append_cons, ← q2, range_cons]
    refine goL_cons ?_
    have hsl := slc_any (a := u) (i := k) (j := k + 1) (by omega)
    have e1' : (u.drop k).take (k + 1 - k) = [u[k]] := by rw [hd, Nat.add_sub_cancel_left]; rfl
    rw [e1', cast1] at hsl
    have hcat := pv_cat (a := f) (b := [u[k]]) (by simp; omega)
    have hw := pv_eqs cp cp
    simp [stL, put_wr h6, hw, hsl, hcat]
theorem inner_keep {cf : CallF} {e0 e1 x5 : Sl} : ∀ (m k : Nat) (left f : List Int) (x6 x7 : Sl), Wr x6 → Wr x7 → f.length + m ≤ 10000000 →
    (left.length < m ∧ ∃ e, goL cf (rangeL k m) (stL e0 e1 left f (.val (.str [107, 101, 101, 112])) x5 x6 x7) = .ret .non e) ∨ (m ≤ left.length ∧ ∃ y6 y7, Wr y6 ∧ Wr y7 ∧ goL cf (rangeL k m) (stL e0 e1 left f (.val (.str [107, 101, 101, 112])) x5 x6 x7) = .nxt (stL e0 e1 (left.drop m) (f ++ left.take m) (.val (.str [107, 101, 101, 112])) x5 y6 y7))
  | 0, k, left, f, x6, x7, h6, h7, _ => .inr ⟨Nat.zero_le _, x6, x7, h6, h7, by rw [List.drop_zero, List.take_zero, List.append_nil]; rfl⟩
  | m + 1, k, left, f, x6, x7, h6, h7, hb => by
    have w1 := pv_eqs ck cp
    have w2 := pv_eqs ck cc
    have w3 := pv_eqs ck ck
    rw [range_cons]
    cases left with
    | nil =>
      refine .inl ⟨Nat.succ_pos m, stL e0 e1 [] f (.val (.str [107, 101, 101, 112])) x5 (.val (.int k)) x7, ?_⟩
      have st : (ofOptS (asg (stL e0 e1 [] f (.val (.str [107, 101, 101, 112])) x5 x6 x7) (.name 6) (.int k))).then (fun e1 => evB cf innerL e1) = .ret .non (stL e0 e1 [] f (.val (.str [107, 101, 101, 112])) x5 (.val (.int k)) x7) := by
        simp [stL, lu, put_wr h6, w1, lu00]
      exact goL_ret st
    | cons x l =>
      have hcat := pv_cat (a := f) (b := [x]) (by simp; omega)
      have st : (ofOptS (asg (stL e0 e1 (x :: l) f (.val (.str [107, 101, 101, 112])) x5 x6 x7) (.name 6) (.int k))).then (fun e1 => evB cf innerL e1) = .nxt (stL e0 e1 l (f ++ [x]) (.val (.str [107, 101, 101, 112])) x5 (.val (.int k)) (.val (.int x))) := by
        simp [stL, lu, put_wr h6, put_wr h7, w1, w2, w3, lu0', lu_pop', mul1, hcat]
      have e : (k : Int) + 1 = ((k + 1 : Nat) : Int) := by omega
      rw [goL_cons st, e]
      rcases inner_keep (cf := cf) (e0 := e0) (e1 := e1) (x5 := x5) m (k + 1) l (f ++ [x]) (.val (.int k)) (.val (.int x)) (.val _) (.val _) (by simp; omega) with ⟨h, e', q⟩ | ⟨h, y6, y7, q1, q2, q⟩
      · exact .inl ⟨by simp; omega, e', q⟩
      · refine .inr ⟨by simp; omega, y6, y7, q1, q2, ?_⟩
        rw [q]
        simp
theorem inner_cut {cf : CallF} {e0 e1 : Sl} {u : List Int} : ∀ (m k : Nat) (left f : List Int) (x6 x7 : Sl), k + m = u.length → Wr x6 → Wr x7 → f.length ≤ 10000000 →
    (left.take m ≠ u.drop k ∧ ∃ e, goL cf (rangeL k m) (stL e0 e1 left f (.val (.str [99, 117, 116])) (.val (tu u)) x6 x7) = .ret .non e) ∨ (left.take m = u.drop k ∧ ∃ y6 y7, Wr y6 ∧ Wr y7 ∧ goL cf (rangeL k m) (stL e0 e1 left f (.val (.str [99, 117, 116])) (.val (tu u)) x6 x7) = .nxt (stL e0 e1 (left.drop m) f (.val (.str [99, 117, 116])) (.val (tu u)) y6 y7))
  | 0, k, left, f, x6, x7, h, h6, h7, _ => .inr ⟨by
    have : u.drop k = [] := by rw [List.drop_eq_nil_iff]; omega
    rw [this]; rfl, x6, x7, h6, h7, rfl⟩
  | m + 1, k, left, f, x6, x7, h, h6, h7, hb => by
    have w1 := pv_eqs cc cp
    have w2 := pv_eqs cc cc
    have w3 := pv_eqs cc ck
    have hd := drop_at (a := u) (i := k) (by omega)
    have hix := pv_ixtu (a := u) (i := k) (by omega)
    rw [range_cons]
    cases left with
    | nil =>
      refine .inl ⟨(by rw [hd]; intro z; cases z), stL e0 e1 [] f (.val (.str [99, 117, 116])) (.val (tu u)) (.val (.int k)) x7, ?_⟩
      have st : (ofOptS (asg (stL e0 e1 [] f (.val (.str [99, 117, 116])) (.val (tu u)) x6 x7) (.name 6) (.int k))).then (fun e1 => evB cf innerL e1) = .ret .non (stL e0 e1 [] f (.val (.str [99, 117, 116])) (.val (tu u)) (.val (.int k)) x7) := by
        simp [stL, lu, put_wr h6, w1, lu00]
      exact goL_ret st
    | cons x l =>
      by_cases c : x = u[k]
      · have hcat := pv_cat (a := f) (b := []) (by simp; omega)
        have st : (ofOptS (asg (stL e0 e1 (x :: l) f (.val (.str [99, 117, 116])) (.val (tu u)) x6 x7) (.name 6) (.int k))).then (fun e1 => evB cf innerL e1) = .nxt (stL e0 e1 l f (.val (.str [99, 117, 116])) (.val (tu u)) (.val (.int k)) (.val (.int x))) := by
          rw [List.append_nil] at hcat
          simp [stL, lu, put_wr h6, put_wr h7, w1, w2, w3, lu0', lu_ix', lu_pop', hix, decide_eq_true c, mul0, hcat]
        have e : (k : Int) + 1 = ((k + 1 : Nat) : Int) := by omega
        rw [goL_cons st, e]
        rcases inner_cut (cf := cf) (e0 := e0) (e1 := e1) (u := u) m (k + 1) l f (.val (.int k)) (.val (.int x)) (by omega) (.val _) (.val _) hb with ⟨h, e', q⟩ | ⟨h, y6, y7, q1, q2, q⟩
        · exact .inl ⟨(by rw [hd, c, List.take_succ_cons]; intro z; injection z with _ z; exact h z), e', q⟩
        · exact .inr ⟨by rw [hd, c, List.take_succ_cons, h], y6, y7, q1, q2, q⟩
      · refine .inl ⟨(by rw [hd, List.take_succ_cons]; intro z; injection z with z _; exact c z), stL e0 e1 (x :: l) f (.val (.str [99, 117, 116])) (.val (tu u)) (.val (.int k)) x7, ?_⟩
        have st : (ofOptS (asg (stL e0 e1 (x :: l) f (.val (.str [99, 117, 116])) (.val (tu u)) x6 x7) (.name 6) (.int k))).then (fun e1 => evB cf innerL e1) = .ret .non (stL e0 e1 (x :: l) f (.val (.str [99, 117, 116])) (.val (tu u)) (.val (.int k)) x7) := by
          simp [stL, lu, put_wr h6, w1, w2, lu0', lu_ix', hix, decide_eq_false c]
        exact goL_ret st
end K16
set_option Elab.async false
set_option linter.all false
set_option maxRecDepth 100000
set_option maxHeartbeats 8000000
namespace K16
open PySem Mp Stp
abbrev stepO (cf : CallF) : D → Mp.Env → SR := fun d e => (ofOptS (asg e (.tup [.name 4, .name 5]) d)).then fun e1 => evB cf outerL e1
theorem rng_it (m : Nat) (h : m ≤ 100000) : itEv .range [.int m] = some (rangeL 0 m) := by
  show (if small62 (m : Int) = true then some (rangeL 0 (m : Int).toNat) else none) = _
  have : small62 (m : Int) = true := by
    unfold small62
    simp
    omega
  rw [if_pos this, Int.toNat_natCast]
theorem outer_eq {cf : CallF} {e0 e1 : Sl} {left f : List Int} {w : List Nat} {x5 : D} {x6 x7 : Sl} {m : Nat} (hm : m ≤ 100000) (hs : evA cf [srcL] (stL e0 e1 left f (.val (.str w)) (.val x5) x6 x7) = .ok [.val (.int m)] (stL e0 e1 left f (.val (.str w)) (.val x5) x6 x7)) :
    evB cf outerL (stL e0 e1 left f (.val (.str w)) (.val x5) x6 x7) = (goL cf (rangeL (0 : Nat) m) (stL e0 e1 left f (.val (.str w)) (.val x5) x6 x7)).then fun e => .nxt e := by
  rw [evB_cons', for_eq hs rfl (rng_it m hm)]
  congr 1
theorem led_step {cf : CallF} {e0 e1 : Sl} {left f : List Int} {e : Ed} {x4 x5 x6 x7 : Sl} (h4 : Wr x4) (h5 : Wr x5) : stepO cf (ed e) (stL e0 e1 left f x4 x5 x6 x7) = evB cf outerL (stL e0 e1 left f (.val (.str (word e))) (.val (arg e)) x6 x7) := by
  have h : asg (stL e0 e1 left f x4 x5 x6 x7) (.tup [.name 4, .name 5]) (ed e) = some (stL e0 e1 left f (.val (.str (word e))) (.val (arg e)) x6 x7) := by
    unfold ed
    simp [stL, put_wr h4, put_wr h5]
  unfold stepO
  rw [h]
  rfl
theorem go_ret {step : D → Mp.Env → SR} {d v : D} {ds : List D} {e e' : Mp.Env} (h : step d e = .ret v e') : forGo step (d :: ds) e = .ret v e' := by
  unfold forGo
  rw [h]
theorem led_loop {cf : CallF} {e0 e1 : Sl} : ∀ (E : List Ed) (left f : List Int) (x4 x5 x6 x7 : Sl), Wr x4 → Wr x5 → Wr x6 → Wr x7 → Ok 1000 E → f.length + putN E ≤ 10000000 →
    (∃ e, forGo (stepO cf) (E.map ed) (stL e0 e1 left f x4 x5 x6 x7) = .ret .non e ∧ app E left f = none) ∨
    (∃ left' f' y4 y5 y6 y7, forGo (stepO cf) (E.map ed) (stL e0 e1 left f x4 x5 x6 x7) = .nxt (stL e0 e1 left' f' y4 y5 y6 y7) ∧ app E left f = if left' = [] then some f' else none)
  | [], left, f, x4, x5, x6, x7, _, _, _, _, _, _ => .inr ⟨left, f, x4, x5, x6, x7, rfl, by unfold app; rfl⟩
  | .keep n :: E, left, f, x4, x5, x6, x7, h4, h5, h6, h7, ok, hb => by
    have hb' : f.length + (n + putN E) ≤ 10000000 := hb
    have hn : 1 ≤ n ∧ n ≤ 1000 := ok _ (List.mem_cons_self ..)
    have ok' : Ok 1000 E := fun e he => ok e (List.mem_cons_of_mem _ he)
    have w := pv_eqs ck ck
    have ho := outer_eq (cf := cf) (e0 := e0) (e1 := e1) (left := left) (f := f) (w := word (.keep n)) (x5 := arg (.keep n)) (x6 := x6) (x7 := x7) (m := n) (by omega) (by simp [stL, word, arg, w])
    rw [List.map_cons]
    rcases inner_keep (cf := cf) (e0 := e0) (e1 := e1) (x5 := .val (arg (.keep n))) n 0 left f x6 x7 h6 h7 (by omega) with ⟨h, e', q⟩ | ⟨h, y6, y7, q1, q2, q⟩
    · refine .inl ⟨e', ?_, by unfold app; rw [if_neg (by omega)]⟩
      refine go_ret ?_
      rw [led_step h4 h5, ho]
      show (goL cf (rangeL (0 : Nat) n) (stL e0 e1 left f (.val (.str [107, 101, 101, 112])) (.val (arg (.keep n))) x6 x7)).then _ = _
      rw [q]
      rfl
    · have st : stepO cf (ed (.keep n)) (stL e0 e1 left f x4 x5 x6 x7) = .nxt (stL e0 e1 (left.drop n) (f ++ left.take n) (.val (.str (word (.keep n)))) (.val (arg (.keep n))) y6 y7) := by
        rw [led_step h4 h5, ho]
        show (goL cf (rangeL (0 : Nat) n) (stL e0 e1 left f (.val (.str [107, 101, 101, 112])) (.val (arg (.keep n))) x6 x7)).then _ = _
        rw [q]
        rfl
      rw [forGo_cons st]
      have : app (.keep n :: E) left f = app E (left.drop n) (f ++ left.take n) := by
        conv => lhs; unfold app
        rw [if_pos h]
      rw [this]
      exact led_loop E _ _ _ _ _ _ (.val _) (.val _) q1 q2 ok' (by rw [List.length_append, List.length_take]; omega)
  | .cut u :: E, left, f, x4, x5, x6, x7, h4, h5, h6, h7, ok, hb => by
    have hb' : f.length + putN E ≤ 10000000 := hb
    have hn : u.length ≤ 1000 := (ok (.cut u) (List.mem_cons_self ..)).2.1
    have ok' : Ok 1000 E := fun e he => ok e (List.mem_cons_of_mem _ he)
    have w := pv_eqs cc ck
    have ho := outer_eq (cf := cf) (e0 := e0) (e1 := e1) (left := left) (f := f) (w := word (.cut u)) (x5 := arg (.cut u)) (x6 := x6) (x7 := x7) (m := u.length) (by omega) (by simp [stL, word, arg, w])
    rw [List.map_cons]
    rcases inner_cut (cf := cf) (e0 := e0) (e1 := e1) (u := u) u.length 0 left f x6 x7 (by omega) h6 h7 (by omega) with ⟨h, e', q⟩ | ⟨h, y6, y7, q1, q2, q⟩
    · refine .inl ⟨e', ?_, by unfold app; rw [List.drop_zero] at h; rw [if_neg h]⟩
      refine go_ret ?_
      rw [led_step h4 h5, ho]
      show (goL cf (rangeL (0 : Nat) u.length) (stL e0 e1 left f (.val (.str [99, 117, 116])) (.val (tu u)) x6 x7)).then _ = _
      rw [q]
      rfl
    · have st : stepO cf (ed (.cut u)) (stL e0 e1 left f x4 x5 x6 x7) = .nxt (stL e0 e1 (left.drop u.length) f (.val (.str (word (.cut u)))) (.val (arg (.cut u))) y6 y7) := by
        rw [led_step h4 h5, ho]
        show (goL cf (rangeL (0 : Nat) u.length) (stL e0 e1 left f (.val (.str [99, 117, 116])) (.val (tu u)) x6 x7)).then _ = _
        rw [q]
        rfl
      rw [forGo_cons st]
      have : app (.cut u :: E) left f = app E (left.drop u.length) f := by
        conv => lhs; unfold app
        rw [List.drop_zero] at h
        rw [if_pos h]
      rw [this]
      exact led_loop E _ _ _ _ _ _ (.val _) (.val _) q1 q2 ok' hb'
  | .put u :: E, left, f, x4, x5, x6, x7, h4, h5, h6, h7, ok, hb => by
    have hb' : f.length + (u.length + putN E) ≤ 10000000 := hb
    have hn : u.length ≤ 1000 := (ok (.put u) (List.mem_cons_self ..)).2.1
    have ok' : Ok 1000 E := fun e he => ok e (List.mem_cons_of_mem _ he)
    have w := pv_eqs cp ck
    have ho := outer_eq (cf := cf) (e0 := e0) (e1 := e1) (left := left) (f := f) (w := word (.put u)) (x5 := arg (.put u)) (x6 := x6) (x7 := x7) (m := u.length) (by omega) (by simp [stL, word, arg, w])
    rw [List.map_cons]
    obtain ⟨y6, q1, q⟩ := inner_put (cf := cf) (e0 := e0) (e1 := e1) (u := u) u.length 0 left f x6 x7 (by omega) h6 (by omega)
    have st : stepO cf (ed (.put u)) (stL e0 e1 left f x4 x5 x6 x7) = .nxt (stL e0 e1 left (f ++ u) (.val (.str (word (.put u)))) (.val (arg (.put u))) y6 x7) := by
      rw [led_step h4 h5, ho]
      show (goL cf (rangeL (0 : Nat) u.length) (stL e0 e1 left f (.val (.str [112, 117, 116])) (.val (tu u)) x6 x7)).then _ = _
      rw [q]
      rfl
    rw [forGo_cons st]
    have : app (.put u :: E) left f = app E left (f ++ u) := by
      conv => lhs; unfold app
    rw [this]
    exact led_loop E _ _ _ _ _ _ (.val _) (.val _) q1 h7 ok' (by rw [List.length_append]; omega)
theorem led_ok {n : Nat} {a : List Int} {E : List Ed} (la : a.length ≤ 1000) (ok : Ok 1000 E) (h : putN E ≤ 1000000) : run tbl (n + 1) 38 [.val (tu a), .val (te E)] = .ok (ans (app E a [])) [] := by
  rw [run_eq (d := ⟨2, 8, b__law_led⟩) rfl rfl]
  generalize run tbl n = cf
  show fin 38 [.val (tu a), .val (te E)] (evB cf b__law_led [.val (tu a), .val (te E), .none, .none, .none, .none, .none, .none]) = _
  have hl : pev (.call .list) [tu a] = some (lu a) := rfl
  have hs : evS cf (.parO [true, false] [2, 3] [(.prim (.call .list) [(.var 0)]), (.prim .tup [])]) [.val (tu a), .val (te E), .none, .none, .none, .none, .none, .none] = .nxt (stL (.val (tu a)) (.val (te E)) a [] .none .none .none .none) := by
    simp [stL, hl, lu, tu_nil]
  have hfe := for_eq (cf := cf) (t := .tup [.name 4, .name 5]) (k := .seq) (body := outerL) (src := [.var 1]) (env := stL (.val (tu a)) (.val (te E)) a [] .none .none .none .none) (env1 := stL (.val (tu a)) (.val (te E)) a [] .none .none .none .none) (avs := [.val (te E)]) (ds := [te E]) (items := E.map ed) (by simp [stL]) (by simp) rfl
  rcases led_loop (cf := cf) (e0 := .val (tu a)) (e1 := .val (te E)) E a [] .none .none .none .none .non .non .non .non ok (by simp; omega) with ⟨e, q, z⟩ | ⟨left', f', y4, y5, y6, y7, q, z⟩
  · rw [z, b__law_led, evB_cons', hs, SR.then_nxt, evB_cons', hfe, q]
    show CR.ok _ (outsOf (mergeIo _ e)) = _
    rw [outs2]
    rfl
  · rw [z, b__law_led, evB_cons', hs, SR.then_nxt, evB_cons', hfe, q, SR.then_nxt]
    by_cases c : left' = []
    · have := pv_lu0 (a := left')
      simp [stL, ans, c, this, lu, lu00]
      rfl
    · have := pv_lu0 (a := left')
      simp [stL, ans, c, this]
      rfl
end K16
set_option Elab.async false
set_option linter.all false
set_option maxRecDepth 100000
set_option maxHeartbeats 8000000
namespace K16
open PySem Mp Stp
/-! ### the longest octets in both, row by row -/
theorem dist_par : ∀ (n : Nat) (x y : List Int), x.length + y.length ≤ n → ∃ l, x.length + y.length = dist x y + 2 * l
  | _, [], y, _ => ⟨0, by rw [dist_nil]; simp⟩
  | _, x :: a, [], _ => ⟨0, by rw [dist_nil']; simp⟩
  | 0, x :: a, y :: b, h => by simp at h
  | n + 1, x :: a, y :: b, h => by
    have h' : a.length + 1 + (b.length + 1) ≤ n + 1 := by simpa using h
    by_cases c : x = y
    · subst c
      obtain ⟨l, e⟩ := dist_par n a b (by omega)
      refine ⟨l + 1, ?_⟩
      rw [dist_eq]
      simp only [List.length_cons]
      omega
    · obtain ⟨l, e⟩ := dist_par n a (y :: b) (by simp; omega)
      obtain ⟨m, e'⟩ := dist_par n (x :: a) b (by simp; omega)
      rw [dist_ne c]
      simp only [List.length_cons] at *
      rcases Nat.le_total (dist a (y :: b)) (dist (x :: a) b) with q | q
      · refine ⟨l, ?_⟩; rw [Nat.min_eq_left q]; omega
      · refine ⟨m, ?_⟩; rw [Nat.min_eq_right q]; omega
def LL (x y : List Int) : Nat := (x.length + y.length - dist x y) / 2
theorem LL_spec (x y : List Int) : x.length + y.length = dist x y + 2 * LL x y := by
  obtain ⟨l, e⟩ := dist_par _ x y (Nat.le_refl _)
  unfold LL
  omega
theorem LL_nil (y : List Int) : LL [] y = 0 := by
  unfold LL
  rw [dist_nil]
  simp
theorem LL_nil' (x : List Int) : LL x [] = 0 := by
  unfold LL
  rw [dist_nil']
  simp
theorem dist_snoc_eq (x y : List Int) (c : Int) : dist (x ++ [c]) (y ++ [c]) = dist x y := dist_suf [c] x y
theorem dist_snoc_ne (x y : List Int) {c d : Int} (h : c ≠ d) : dist (x ++ [c]) (y ++ [d]) = 1 + min (dist x (y ++ [d])) (dist (x ++ [c]) y) := by
  rw [← dist_rev (x ++ [c]), ← dist_rev x (y ++ [d]), ← dist_rev (x ++ [c]) y]
  rw [List.reverse_append, List.reverse_append]
  exact dist_ne h _ _
theorem LL_eq (x y : List Int) (c : Int) : LL (x ++ [c]) (y ++ [c]) = LL x y + 1 := by
  have h1 := LL_spec (x ++ [c]) (y ++ [c])
  have h2 := LL_spec x y
  rw [dist_snoc_eq] at h1
  simp only [List.length_append, List.length_cons, List.length_nil] at h1
  omega
theorem LL_ne (x y : List Int) {c d : Int} (h : c ≠ d) : LL (x ++ [c]) (y ++ [d]) = max (LL (x ++ [c]) y) (LL x (y ++ [d])) := by
  have h1 := LL_spec (x ++ [c]) (y ++ [d])
  have h2 := LL_spec (x ++ [c]) y
  have h3 := LL_spec x (y ++ [d])
  rw [dist_snoc_ne x y h] at h1
  simp only [List.length_append, List.length_cons, List.length_nil] at h1 h2 h3
  omega
def cell (p b : List Int) (k : Nat) : D := .int (LL p (b.take k))
def rwL (p b : List Int) (m : Nat) : List D := (List.range m).map (cell p b)
theorem rwL_len (p b : List Int) (m : Nat) : (rwL p b m).length = m := by simp [rwL]
theorem rwL_succ (p b : List Int) (m : Nat) : rwL p b (m + 1) = rwL p b m ++ [cell p b m] := by simp [rwL, List.range_succ]
theorem rwL_at {p b : List Int} {m k : Nat} (h : k < m) : pev .idx [.lst (rwL p b m), .int k] = some (.int (LL p (b.take k))) := by
  rw [pv_ixl (by rw [rwL_len]; exact h)]
  simp [rwL, cell]
theorem rwL_last {p b : List Int} {m : Nat} : pev .idx [.lst (rwL p b (m + 1)), .int (-1)] = some (.int (LL p (b.take m))) := by
  rw [rwL_succ, pv_lastl]
  rfl
abbrev innerM : List S := [.expr (.mu .append 4 [(.ife (.prim (.cmp .Eq) [(.var 6), (.var 3)]) (.prim (.bin .Add) [(.prim .idx [(.prim .idx [(.peek 2), (.prim (.un .USub) [(.con (.int 1))])]), (.var 5)]), (.con (.int 1))]) (.prim (.call .max) [(.prim .idx [(.peek 4), (.prim (.un .USub) [(.con (.int 1))])]), (.prim .idx [(.prim .idx [(.peek 2), (.prim (.un .USub) [(.con (.int 1))])]), (.prim (.bin .Add) [(.var 5), (.con (.int 1))])])]))])]
abbrev outerM : List S := [.own 4 (.prim .lst [(.con (.int 0))]), .for (.tup [(.name 5), (.name 6)]) .enum [(.var 1)] innerM, .frz 4, .expr (.mu .append 2 [(.var 4)])]
theorem least_inner {cf : CallF} {e0 : Sl} {b p : List Int} {c : Int} {R : List D} (hb : b.length ≤ 1000000) : ∀ (bs : List Int) (j : Nat) (x5 x6 : Sl), b.drop j = bs → j + bs.length = b.length → Wr x5 → Wr x6 →
    ∃ y5 y6, Wr y5 ∧ Wr y6 ∧ forGo (fun d e => (ofOptS (asg e (.tup [.name 5, .name 6]) d)).then fun e1 => evB cf innerM e1) (enumL j (bs.map .int)) [e0, .val (tu b), .own (.lst (R ++ [.lst (rwL p b (b.length + 1))])), .val (.int c), .own (.lst (rwL (p ++ [c]) b (j + 1))), x5, x6] =
      .nxt [e0, .val (tu b), .own (.lst (R ++ [.lst (rwL p b (b.length + 1))])), .val (.int c), .own (.lst (rwL (p ++ [c]) b (b.length + 1))), y5, y6]
  | [], j, x5, x6, _, hj, h5, h6 => by
    have : j = b.length := by simpa using hj
    subst this
    exact ⟨x5, x6, h5, h6, rfl⟩
  | d :: bs, j, x5, x6, hd, hj, h5, h6 => by
    have hj' : j < b.length := by simp at hj; omega
    have hd2 : b.drop j = b[j] :: b.drop (j + 1) := List.drop_eq_getElem_cons hj'
    rw [hd2] at hd
    injection hd with hd3 hd4
    obtain ⟨y5, y6, q1, q2, q⟩ := least_inner (cf := cf) (e0 := e0) (b := b) (p := p) (c := c) (R := R) hb bs (j + 1) (.val (.int j)) (.val (.int d)) hd4 (by simp at hj; omega) (.val _) (.val _)
    refine ⟨y5, y6, q1, q2, ?_⟩
    rw [← q]
    have ht : b.take (j + 1) = b.take j ++ [d] := by rw [List.take_succ, List.getElem?_eq_getElem hj', hd3]; rfl
    have p1 : pev .idx [.lst (R ++ [.lst (rwL p b (b.length + 1))]), .int (-1)] = some (.lst (rwL p b (b.length + 1))) := pv_lastl
    have p2 := rwL_at (p := p) (b := b) (m := b.length + 1) (k := j) (by omega)
    have p3 := rwL_at (p := p) (b := b) (m := b.length + 1) (k := j + 1) (by omega)
    rw [cast1] at p3
    have p4 := rwL_last (p := p ++ [c]) (b := b) (m := j)
    have hlen : (rwL (p ++ [c]) b (j + 1)).length < 16777216 := by rw [rwL_len]; omega
    show forGo _ (.tup [.int j, .int d] :: enumL (j + 1) (bs.map .int)) _ = _
    refine forGo_cons ?_
    rw [rwL_succ _ _ (j + 1)]
    by_cases e : d = c
    · have hv : cell (p ++ [c]) b (j + 1) = .int ((LL p (b.take j) : Int) + 1) := by
        unfold cell
        rw [ht, e, LL_eq]
        rfl
      rw [hv]
      simp [put_wr h5, put_wr h6, p1, p2, p3, p4, decide_eq_true e, mu_app hlen]
    · have hv : cell (p ++ [c]) b (j + 1) = .int (max (LL (p ++ [c]) (b.take j)) (LL p (b.take (j + 1))) : Nat) := by
        unfold cell
        rw [ht, LL_ne p (b.take j) (Ne.symm e)]
      rw [hv]
      simp [put_wr h5, put_wr h6, p1, p2, p3, p4, pv_max2, decide_eq_false e, mu_app hlen]
theorem cell0 (p b : List Int) : rwL p b 1 = [.int 0] := by
  show [cell p b 0] = _
  unfold cell
  rw [List.take_zero, LL_nil']
  rfl
theorem least_outer {cf : CallF} {e0 : Sl} {b : List Int} (hb : b.length ≤ 1000000) : ∀ (as p : List Int) (R : List D) (x3 x4 x5 x6 : Sl), Wr x3 → Wr x4 → Wr x5 → Wr x6 → R.length + as.length ≤ 1000000 →
    ∃ R' y3 y4 y5 y6, forGo (fun d e => (ofOptS (asg e (.name 3) d)).then fun e1 => evB cf outerM e1) (as.map .int) [e0, .val (tu b), .own (.lst (R ++ [.lst (rwL p b (b.length + 1))])), x3, x4, x5, x6] =
      .nxt [e0, .val (tu b), .own (.lst (R' ++ [.lst (rwL (p ++ as) b (b.length + 1))])), y3, y4, y5, y6]
  | [], p, R, x3, x4, x5, x6, _, _, _, _, _ => ⟨R, x3, x4, x5, x6, by rw [List.append_nil]; rfl⟩
  | c :: as, p, R, x3, x4, x5, x6, h3, h4, h5, h6, hl => by
    obtain ⟨y5, y6, q1, q2, q⟩ := least_inner (cf := cf) (e0 := e0) (b := b) (p := p) (c := c) (R := R) hb b 0 x5 x6 rfl (by omega) h5 h6
    obtain ⟨R', z3, z4, z5, z6, g⟩ := least_outer (cf := cf) (e0 := e0) (b := b) hb as (p ++ [c]) (R ++ [.lst (rwL p b (b.length + 1))]) (.val (.int c)) (.val (.lst (rwL (p ++ [c]) b (b.length + 1)))) y5 y6 (.val _) (.val _) q1 q2 (by simp at hl ⊢; omega)
    refine ⟨R', z3, z4, z5, z6, ?_⟩
    rw [List.append_assoc p [c] as] at g
    show _ = SR.nxt [e0, .val (tu b), .own (.lst (R' ++ [.lst (rwL (p ++ ([c] ++ as)) b (b.length + 1))])), z3, z4, z5, z6]
    rw [← g, List.map_cons]
    refine forGo_cons ?_
    have hfe := for_eq (cf := cf) (t := .tup [.name 5, .name 6]) (k := .enum) (body := innerM) (src := [.var 1]) (env := [e0, .val (tu b), .own (.lst (R ++ [.lst (rwL p b (b.length + 1))])), .val (.int c), .own (.lst [.int 0]), x5, x6]) (env1 := [e0, .val (tu b), .own (.lst (R ++ [.lst (rwL p b (b.length + 1))])), .val (.int c), .own (.lst [.int 0]), x5, x6]) (avs := [.val (tu b)]) (ds := [tu b]) (items := enumL 0 (b.map .int)) (by simp) (by simp) rfl
    rw [show rwL (p ++ [c]) b (0 + 1) = [.int 0] from cell0 _ _] at q
    rw [q] at hfe
    have hlen : (R ++ [D.lst (rwL p b (b.length + 1))]).length < 16777216 := by simp at hl ⊢; omega
    have s1 : (ofOptS (asg [e0, .val (tu b), .own (.lst (R ++ [.lst (rwL p b (b.length + 1))])), x3, x4, x5, x6] (.name 3) (.int c))) = .nxt [e0, .val (tu b), .own (.lst (R ++ [.lst (rwL p b (b.length + 1))])), .val (.int c), x4, x5, x6] := by
      simp [put_wr h3]
    have s2 : evS cf (.own 4 (.prim .lst [(.con (.int 0))])) [e0, .val (tu b), .own (.lst (R ++ [.lst (rwL p b (b.length + 1))])), .val (.int c), x4, x5, x6] = .nxt [e0, .val (tu b), .own (.lst (R ++ [.lst (rwL p b (b.length + 1))])), .val (.int c), .own (.lst [.int 0]), x5, x6] := by
      simp [put_wr h4]
    rw [s1, SR.then_nxt, evB_cons', s2, SR.then_nxt, evB_cons', hfe, SR.then_nxt]
    simp [mu_app hlen, -List.append_assoc]
theorem least_ok {n : Nat} {a b : List Int} (la : a.length ≤ 1000) (lb : b.length ≤ 1000) : run tbl (n + 1) 36 [.val (tu a), .val (tu b)] = .ok (.int (dist a b)) [] := by
  rw [run_eq (d := ⟨2, 7, b__law_least⟩) rfl rfl]
  generalize run tbl n = cf
  show fin 36 [.val (tu a), .val (tu b)] (evB cf b__law_least [.val (tu a), .val (tu b), .none, .none, .none, .none, .none]) = _
  have hm := pv_mulL (d := .int 0) (k := b.length + 1) (by omega)
  have hr : List.replicate (b.length + 1) (D.int 0) = rwL [] b (b.length + 1) := by
    apply List.ext_getElem
    · rw [rwL_len, List.length_replicate]
    · intro i h1 h2
      simp [rwL, cell, LL_nil]
  rw [hr, cast1] at hm
  have s1 : evS cf (.own 2 (.prim .lst [(.prim (.bin .Mult) [(.prim .lst [(.con (.int 0))]), (.prim (.bin .Add) [(.prim (.call .len) [(.var 1)]), (.con (.int 1))])])])) [.val (tu a), .val (tu b), .none, .none, .none, .none, .none] = .nxt [.val (tu a), .val (tu b), .own (.lst ([] ++ [.lst (rwL [] b (b.length + 1))])), .none, .none, .none, .none] := by
    simp [hm]
  obtain ⟨R', y3, y4, y5, y6, q⟩ := least_outer (cf := cf) (e0 := .val (tu a)) (b := b) (by omega) a [] [] .none .none .none .none .non .non .non .non (by simp; omega)
  have hfe := for_eq (cf := cf) (t := .name 3) (k := .seq) (body := outerM) (src := [.var 0]) (env := [.val (tu a), .val (tu b), .own (.lst ([] ++ [.lst (rwL [] b (b.length + 1))])), .none, .none, .none, .none]) (env1 := [.val (tu a), .val (tu b), .own (.lst ([] ++ [.lst (rwL [] b (b.length + 1))])), .none, .none, .none, .none]) (avs := [.val (tu a)]) (ds := [tu a]) (items := a.map .int) (by simp) (by simp) rfl
  rw [q, show ([] ++ a : List Int) = a from rfl] at hfe
  rw [b__law_least, evB_cons', s1, SR.then_nxt, evB_cons', hfe, SR.then_nxt]
  have p1 : pev .idx [.lst (R' ++ [.lst (rwL a b (b.length + 1))]), .int (-1)] = some (.lst (rwL a b (b.length + 1))) := pv_lastl
  have p2 := rwL_last (p := a) (b := b) (m := b.length)
  rw [List.take_length] at p2
  have hs := LL_spec a b
  have hmul : pev (.bin .Mult) [.int 2, .int (LL a b)] = some (.int (2 * (LL a b : Int))) := pv_mul (mul_l (by decide) (by decide))
  have hv : (a.length : Int) + (b.length : Int) - 2 * (LL a b : Int) = (dist a b : Int) := by omega
  simp [p1, p2, hmul, hv]
  rfl
end K16
set_option Elab.async false
set_option linter.all false
set_option maxRecDepth 100000
set_option maxHeartbeats 8000000
namespace K16
open PySem Mp Stp
/-! ### what both ends have in common, by the law -/
def below (p : Int) : D → Option D := fun d => match d with
  | .int i => if i < p then some (.int 1) else none
  | _ => none
theorem below_len (lo : Int) (p : Nat) : ∀ m : Nat, ((rangeL lo m).filterMap (below (lo + p))).length = min p m
  | 0 => by simp [rangeL]
  | m + 1 => by
    have e : rangeL lo (m + 1) = rangeL lo m ++ [.int (lo + m)] := by unfold rangeL; rw [List.range_succ, List.map_append]; rfl
    rw [e, List.filterMap_append, List.length_append, below_len lo p m]
    by_cases h : m < p
    · have : [D.int (lo + m)].filterMap (below (lo + p)) = [.int 1] := by
        have c : lo + (m : Int) < lo + (p : Int) := by omega
        rw [List.filterMap_cons]
        simp only [below, if_pos c]
        rfl
      rw [this]
      simp only [List.length_cons, List.length_nil]
      omega
    · have : [D.int (lo + m)].filterMap (below (lo + p)) = [] := by
        have c : ¬ lo + (m : Int) < lo + (p : Int) := by omega
        rw [List.filterMap_cons]
        simp only [below, if_neg c]
        rfl
      rw [this]
      simp only [List.length_nil]
      omega
theorem rng0 {m : Nat} (h : m ≤ 1000000) : itEv .range [.int m] = some (rangeL 0 m) := by
  show (if small62 (m : Int) = true then some (rangeL 0 (m : Int).toNat) else none) = _
  rw [if_pos (small_n h), Int.toNat_natCast]
theorem rng1 {m : Nat} (h : m ≤ 1000000) : itEv .range [.int 1, .int ((m : Int) + 1)] = some (rangeL 1 m) := by
  have hs : small62 ((m : Int) + 1) = true := by
    unfold small62; simp; omega
  have h1 : small62 1 = true := by decide
  show (if (small62 1 && small62 ((m : Int) + 1)) = true then some (rangeL 1 ((m : Int) + 1 - 1).toNat) else none) = _
  rw [hs, h1, if_pos (show (true && true) = true from rfl), show ((m : Int) + 1 - 1).toNat = m by omega]
abbrev e2 (a b : Sl) (x2 x3 x4 x5 : Sl) : Mp.Env := [a, b, x2, x3, x4, x5, .none]
theorem ends_a {cf : CallF} {a b : List Int} (la : a.length ≤ 1000) (lb : b.length ≤ 1000) : evE cf (.prim (.call .len) [(.comp [6] (.name 6) .range [(.prim (.call .min) [(.prim (.call .len) [(.var 0)]), (.prim (.call .len) [(.var 1)])])] [(.prim (.cmp .Eq) [(.prim (.slc false true) [(.var 0), (.prim (.bin .Add) [(.var 6), (.con (.int 1))])]), (.prim (.slc false true) [(.var 1), (.prim (.bin .Add) [(.var 6), (.con (.int 1))])])])] (.con (.int 1)))]) (e2 (.val (tu a)) (.val (tu b)) .none .none .none .none) = .ok (.int (pre a b)) (e2 (.val (tu a)) (.val (tu b)) .none .none .none .none) := by
  have hc := comp_pure (cf := cf) (own := [6]) (tg := .name 6) (cnd := [(.prim (.cmp .Eq) [(.prim (.slc false true) [(.var 0), (.prim (.bin .Add) [(.var 6), (.con (.int 1))])]), (.prim (.slc false true) [(.var 1), (.prim (.bin .Add) [(.var 6), (.con (.int 1))])])])]) (elt := .con (.int 1))
    (src := [(.prim (.call .min) [(.prim (.call .len) [(.var 0)]), (.prim (.call .len) [(.var 1)])])]) (env := e2 (.val (tu a)) (.val (tu b)) .none .none .none .none) (env1 := e2 (.val (tu a)) (.val (tu b)) .none .none .none .none) (below (0 + (pre a b : Nat))) (k := .range) (avs := [.val (.int (min a.length b.length : Nat))]) (ds := [.int (min a.length b.length : Nat)])
    (items := rangeL 0 (min a.length b.length)) (by simp [pv_min2]) (by simp) (rng0 (by omega)) rfl (by simp [rangeL]; omega) fun d hd => by
      obtain ⟨i, hi, rfl⟩ := List.mem_map.mp hd
      have hi : i < min a.length b.length := by simpa using hi
      refine ⟨[.val (tu a), .val (tu b), .none, .none, .none, .none, .val (.int (0 + (i : Int)))], ?_, rfl⟩
      have s1 := pv_slchi (a := a) (j := i + 1) (by omega)
      have s2 := pv_slchi (a := b) (j := i + 1) (by omega)
      rw [cast1] at s1 s2
      have hm := pre_max (a := a) (b := b) (k := i + 1) (by omega) (by omega)
      by_cases c : i + 1 ≤ pre a b
      · have c1 : (i : Int) < (pre a b : Nat) := by omega
        simp [stepW, Mp.wipe, s1, s2, decide_eq_true (hm.mpr c), below, c1]
      · have c1 : ¬ (i : Int) < (pre a b : Nat) := by omega
        simp [stepW, Mp.wipe, s1, s2, decide_eq_false (fun z => c (hm.mp z)), below, c1]
  have hp := pre_le a b
  have hl := below_len 0 (pre a b) (min a.length b.length)
  rw [Nat.min_eq_left (Nat.le_min.mpr hp)] at hl
  simp only [ev_prim, evA_cons', hc, evA_nil', R.bind_ok, rds_val, rds_nil, Option.map_some, pv_lenl, hl]
  rfl
theorem pre_drop {a b : List Int} {k : Nat} (h1 : k ≤ a.length) (h2 : k ≤ b.length) : (a.drop (a.length - k) = b.drop (b.length - k)) ↔ k ≤ pre a.reverse b.reverse := by
  rw [← pre_max (by rw [List.length_reverse]; exact h1) (by rw [List.length_reverse]; exact h2), List.take_reverse, List.take_reverse]
  constructor
  · intro h; rw [h]
  · intro h; exact List.reverse_inj.mp h
theorem ends_b {cf : CallF} {u v : Sl} {d2 : D} {l r : List Int} (la : l.length ≤ 1000) (lb : r.length ≤ 1000) : evE cf (.prim (.call .len) [(.comp [6] (.name 6) .range [(.con (.int 1)), (.prim (.bin .Add) [(.prim (.call .min) [(.prim (.call .len) [(.var 3)]), (.prim (.call .len) [(.var 4)])]), (.con (.int 1))])] [(.prim (.cmp .Eq) [(.prim (.slc true false) [(.var 3), (.prim (.bin .Sub) [(.prim (.call .len) [(.var 3)]), (.var 6)])]), (.prim (.slc true false) [(.var 4), (.prim (.bin .Sub) [(.prim (.call .len) [(.var 4)]), (.var 6)])])])] (.con (.int 1)))]) (e2 u v (.val d2) (.val (tu l)) (.val (tu r)) .none) = .ok (.int (pre l.reverse r.reverse)) (e2 u v (.val d2) (.val (tu l)) (.val (tu r)) .none) := by
  have hc := comp_pure (cf := cf) (own := [6]) (tg := .name 6) (cnd := [(.prim (.cmp .Eq) [(.prim (.slc true false) [(.var 3), (.prim (.bin .Sub) [(.prim (.call .len) [(.var 3)]), (.var 6)])]), (.prim (.slc true false) [(.var 4), (.prim (.bin .Sub) [(.prim (.call .len) [(.var 4)]), (.var 6)])])])]) (elt := .con (.int 1))
    (src := [(.con (.int 1)), (.prim (.bin .Add) [(.prim (.call .min) [(.prim (.call .len) [(.var 3)]), (.prim (.call .len) [(.var 4)])]), (.con (.int 1))])]) (env := e2 u v (.val d2) (.val (tu l)) (.val (tu r)) .none) (env1 := e2 u v (.val d2) (.val (tu l)) (.val (tu r)) .none) (below (1 + (pre l.reverse r.reverse : Nat))) (k := .range) (avs := [.val (.int 1), .val (.int ((min l.length r.length : Nat) + 1))]) (ds := [.int 1, .int ((min l.length r.length : Nat) + 1)])
    (items := rangeL 1 (min l.length r.length)) (by simp [pv_min2]) (by simp) (rng1 (by omega)) rfl (by simp [rangeL]; omega) fun d hd => by
      obtain ⟨i, hi, rfl⟩ := List.mem_map.mp hd
      have hi : i < min l.length r.length := by simpa using hi
      refine ⟨[u, v, .val d2, .val (tu l), .val (tu r), .none, .val (.int (1 + (i : Int)))], ?_, rfl⟩
      have s1 := pv_slclo (a := l) (i := l.length - (i + 1)) (by omega)
      have s2 := pv_slclo (a := r) (i := r.length - (i + 1)) (by omega)
      have z1 : ((l.length - (i + 1) : Nat) : Int) = (l.length : Int) - (1 + (i : Int)) := by omega
      have z2 : ((r.length - (i + 1) : Nat) : Int) = (r.length : Int) - (1 + (i : Int)) := by omega
      rw [z1] at s1
      rw [z2] at s2
      have hm := pre_drop (a := l) (b := r) (k := i + 1) (by omega) (by omega)
      by_cases c : i + 1 ≤ pre l.reverse r.reverse
      · have c1 : (1 + (i : Int)) < 1 + (pre l.reverse r.reverse : Nat) := by omega
        have := decide_eq_true (hm.mpr c)
        simp only [below, if_pos c1]
        simp [stepW, Mp.wipe, s1, s2, this]
      · have c1 : ¬ (1 + (i : Int)) < 1 + (pre l.reverse r.reverse : Nat) := by omega
        have := decide_eq_false (fun z => c (hm.mp z))
        simp only [below, if_neg c1]
        simp [stepW, Mp.wipe, s1, s2, this]
  have hp := pre_le l.reverse r.reverse
  have hl := below_len 1 (pre l.reverse r.reverse) (min l.length r.length)
  simp only [List.length_reverse] at hp
  rw [Nat.min_eq_left (Nat.le_min.mpr hp)] at hl
  simp only [ev_prim, evA_cons', hc, evA_nil', R.bind_ok, rds_val, rds_nil, Option.map_some, pv_lenl, hl]
  rfl
theorem ends_ok {n : Nat} {a b : List Int} (la : a.length ≤ 1000) (lb : b.length ≤ 1000) : run tbl (n + 1) 40 [.val (tu a), .val (tu b)] = .ok (.tup [.int (pre a b), .int (tail a b)]) [] := by
  rw [run_eq (d := ⟨2, 7, b__law_ends⟩) rfl rfl]
  generalize run tbl n = cf
  show fin 40 [.val (tu a), .val (tu b)] (evB cf b__law_ends [.val (tu a), .val (tu b), .none, .none, .none, .none, .none]) = _
  have hp := pre_le a b
  have hA := ends_a (cf := cf) la lb
  have hB := ends_b (cf := cf) (u := .val (tu a)) (v := .val (tu b)) (d2 := .int (pre a b)) (l := a.drop (pre a b)) (r := b.drop (pre a b)) (by rw [List.length_drop]; omega) (by rw [List.length_drop]; omega)
  have s1 := pv_slclo (a := a) (i := pre a b) hp.1
  have s2 := pv_slclo (a := b) (i := pre a b) hp.2
  rw [b__law_ends, evB_cons', evS_set, hA]
  have p1 : asg (e2 (.val (tu a)) (.val (tu b)) .none .none .none .none) (.name 2) (.int (pre a b)) = some (e2 (.val (tu a)) (.val (tu b)) (.val (.int (pre a b))) .none .none .none) := by simp
  rw [R.toS_ok, p1, ofOptS_some, SR.then_nxt, evB_cons']
  have p2 : evS cf (.parO [false, false] [3, 4] [(.prim (.slc true false) [(.var 0), (.var 2)]), (.prim (.slc true false) [(.var 1), (.var 2)])]) (e2 (.val (tu a)) (.val (tu b)) (.val (.int (pre a b))) .none .none .none) = .nxt (e2 (.val (tu a)) (.val (tu b)) (.val (.int (pre a b))) (.val (tu (a.drop (pre a b)))) (.val (tu (b.drop (pre a b)))) .none) := by
    simp [s1, s2]
  rw [p2, SR.then_nxt, evB_cons', evS_set, hB]
  simp
  rfl
end K16
set_option Elab.async false
set_option linter.all false
set_option maxRecDepth 100000
set_option maxHeartbeats 8000000
namespace K16
open PySem Mp Stp
/-! ### what edits are, by the law -/
theorem eq_ww (e f : Ed) : pev (.cmp .Eq) [.str (word e), .str (word f)] = some (.bl (knd e == knd f)) := by
  rw [eq_word e _ (codes_word f)]
  cases e <;> cases f <;> rfl
theorem eq_pc (e f : Ed) : pev (.cmp .Eq) [.tup [.str (word e), .str (word f)], .tup [.str [112, 117, 116], .str [99, 117, 116]]] = some (.bl (knd e == 2 && knd f == 1)) := by
  rw [pv_eq ?_ rfl]
  · cases e <;> cases f <;> (first | rfl | kernel_rfl)
  · exact gd_mono (k := 1) (by decide) (gd_tup fun x hx => by
      simp at hx
      rcases hx with rfl | rfl
      · exact gd_word e 0
      · exact gd_word f 0)
abbrev cndE : E := .bop false [(.prim (.cmp .Eq) [(.prim .idx [(.var 1), (.con (.int 0))]), (.prim .idx [(.var 2), (.con (.int 0))])]), (.prim (.cmp .Eq) [(.prim .tup [(.prim .idx [(.var 1), (.con (.int 0))]), (.prim .idx [(.var 2), (.con (.int 0))])]), (.prim .tup [(.con (.str [112, 117, 116])), (.con (.str [99, 117, 116]))])])]
def prD (p : Ed × Ed) : D := .tup [ed p.1, ed p.2]
theorem isL_ok {n : Nat} {E : List Ed} (hl : E.length ≤ 2001) : run tbl (n + 1) 46 [.val (te E)] = .ok (.bl (adj E)) [] := by
  rw [run_eq (d := ⟨1, 3, b__law_is_edits⟩) rfl rfl]
  generalize run tbl n = cf
  show fin 46 [.val (te E)] (evB cf b__law_is_edits [.val (te E), .none, .none]) = _
  have c : evE cf (.comp [1, 2] (.tup [(.name 1), (.name 2)]) .zip [(.var 0), (.prim (.slc true false) [(.var 0), (.con (.int 1))])] [cndE] (.con (.int 1))) [.val (te E), .none, .none] = .ok (lu (((E.zip E.tail).filter fun p => !nx p.1 p.2).map fun _ => 1)) [.val (te E), .none, .none] := by
    obtain ⟨ys, w, g1, g2⟩ := comp_ind (cf := cf) (own := [1, 2]) (tg := .tup [(.name 1), (.name 2)]) (k := .zip) (src := [(.var 0), (.prim (.slc true false) [(.var 0), (.con (.int 1))])]) (cnd := [cndE]) (elt := .con (.int 1))
      (env := [.val (te E), .none, .none]) (env1 := [.val (te E), .none, .none]) (avs := [.val (te E), .val (te E.tail)]) (ds := [te E, te E.tail]) (items := (E.zip E.tail).map prD)
      (fun ds acc w => ∃ dn rest, E.zip E.tail = dn ++ rest ∧ ds = rest.map prD ∧ acc = ((dn.filter fun p => !nx p.1 p.2).map fun _ => (1 : Int)).map D.int ∧ w = [.val (te E), .none, .none])
      (by simp [pv_tail]) (by simp) (zip_te E E.tail) rfl ⟨[], _, rfl, rfl, rfl, rfl⟩ (by rw [List.length_map, List.length_zip]; omega) (fun ds acc w ⟨_, _, _, _, _, e⟩ => by rw [e]) (fun d ds acc w ⟨dn, rest, h1, h2, h3, h4⟩ => by
        cases rest with
        | nil => cases h2
        | cons p rest =>
          simp only [List.map_cons, List.cons.injEq] at h2
          obtain ⟨rfl, rfl⟩ := h2
          subst h4
          by_cases hn : nx p.1 p.2 = true
          · refine ⟨none, [.val (te E), .val (ed p.1), .val (ed p.2)], ?_, dn ++ [p], rest, by rw [h1]; simp, rfl, by rw [h3]; simp [hn], rfl⟩
            unfold nx at hn
            simp only [Bool.and_eq_true, bne_iff_ne, ne_eq, Bool.not_eq_true'] at hn
            have hk : (knd p.1 == knd p.2) = false := by simpa using hn.1
            have hk2 := hn.2
            simp [stepW, Mp.wipe, prD, ed0, eq_ww, eq_pc, hk, hk2]
          · refine ⟨some (.int 1), [.val (te E), .val (ed p.1), .val (ed p.2)], ?_, dn ++ [p], rest, by rw [h1]; simp, rfl, by rw [h3]; simp [hn], rfl⟩
            unfold nx at hn
            cases hk : (knd p.1 == knd p.2) with
            | true => simp [stepW, Mp.wipe, prD, ed0, eq_ww, hk]
            | false =>
              have hk2 : (knd p.1 == 2 && knd p.2 == 1) = true := by
                cases q : (knd p.1 == 2 && knd p.2 == 1) with
                | true => rfl
                | false => rw [q, bne, hk] at hn; exact absurd rfl hn
              simp [stepW, Mp.wipe, prD, ed0, eq_ww, eq_pc, hk, hk2])
    obtain ⟨dn, rest, h1, h2, h3, h4⟩ := g2
    cases rest with
    | cons _ _ => cases h2
    | nil =>
      rw [List.append_nil] at h1
      rw [g1, h3, h4, h1]
      rfl
  have hd : decide ((((E.zip E.tail).filter fun p => !nx p.1 p.2).map fun _ => (1 : Int)) = []) = adj E := by
    rw [← adj_zip, Bool.eq_iff_iff]
    simp [List.filter_eq_nil_iff]
  have hp := pv_lu0 (a := ((E.zip E.tail).filter fun p => !nx p.1 p.2).map fun _ => (1 : Int))
  rw [hd] at hp
  simp [b__law_is_edits, c, hp]
  rfl
end K16
set_option Elab.async false
set_option linter.all false
set_option maxRecDepth 100000
set_option maxHeartbeats 8000000
namespace K16
open PySem Mp Stp
/-! ### all rows of few signs -/
section
variable {α : Type}
def nxt (ks : List α) (line : List (List α)) : List (List α) := line.flatMap fun u => ks.map fun k => u ++ [k]
def grow (ks : List α) : Nat → List (List α) → List (List α) → List (List α)
  | 0, found, _ => found
  | m + 1, found, line => grow ks m (found ++ nxt ks line) (nxt ks line)
theorem nxt_len (ks : List α) (line : List (List α)) (h : ks.length ≤ 6) : (nxt ks line).length ≤ 6 * line.length := by
  induction line with
  | nil => simp [nxt]
  | cons u line ih =>
    unfold nxt at ih ⊢
    rw [List.flatMap_cons, List.length_append, List.length_map]
    simp only [List.length_cons]
    omega
theorem nxt_all {ks : List α} {line : List (List α)} {m L : Nat} (h : ∀ u ∈ line, (∀ o ∈ u, o ∈ ks) ∧ u.length + (m + 1) ≤ L) : ∀ u ∈ nxt ks line, (∀ o ∈ u, o ∈ ks) ∧ u.length + m ≤ L := by
  intro u hu
  obtain ⟨v, hv, hu⟩ := List.mem_flatMap.mp hu
  obtain ⟨k, hk, rfl⟩ := List.mem_map.mp hu
  obtain ⟨h1, h2⟩ := h v hv
  refine ⟨fun o ho => ?_, by rw [List.length_append]; simp; omega⟩
  rcases List.mem_append.mp ho with q | q
  · exact h1 o q
  · rw [List.mem_singleton.mp q]; exact hk
theorem grow_all {ks : List α} {L : Nat} : ∀ (m : Nat) (found line : List (List α)), (∀ u ∈ found, (∀ o ∈ u, o ∈ ks) ∧ u.length ≤ L) → (∀ u ∈ line, (∀ o ∈ u, o ∈ ks) ∧ u.length + m ≤ L) → ∀ u ∈ grow ks m found line, (∀ o ∈ u, o ∈ ks) ∧ u.length ≤ L
  | 0, found, line, h1, h2 => h1
  | m + 1, found, line, h1, h2 => grow_all m _ _ (fun u hu => by
      rcases List.mem_append.mp hu with q | q
      · exact h1 u q
      · obtain ⟨z1, z2⟩ := nxt_all h2 u q
        exact ⟨z1, by omega⟩) (nxt_all h2)
theorem grow_len {ks : List α} (h : ks.length ≤ 6) : ∀ (m : Nat) (found line : List (List α)), (grow ks m found line).length ≤ found.length + line.length * 13 ^ m
  | 0, found, line => by show found.length ≤ _; omega
  | m + 1, found, line => by
    have := grow_len h m (found ++ nxt ks line) (nxt ks line)
    have h2 := nxt_len ks line h
    have hp : 1 ≤ 13 ^ m := Nat.pow_pos (by decide)
    have e : line.length * 13 ^ (m + 1) = 13 * (line.length * 13 ^ m) := by rw [Nat.pow_succ, Nat.mul_comm (13 ^ m) 13, ← Nat.mul_assoc, Nat.mul_comm line.length 13, Nat.mul_assoc]
    have h3 : (nxt ks line).length * 13 ^ m ≤ 6 * line.length * 13 ^ m := Nat.mul_le_mul_right _ h2
    have h4 : line.length ≤ line.length * 13 ^ m := Nat.le_mul_of_pos_right _ hp
    rw [List.length_append] at this
    show (grow ks m (found ++ nxt ks line) (nxt ks line)).length ≤ _
    rw [e]
    rw [Nat.mul_assoc] at h3
    omega
theorem grow_bound {ks : List α} (h : ks.length ≤ 6) {m : Nat} {found line : List (List α)} (hb : found.length + line.length * 13 ^ (m + 1) ≤ 100000) : found.length + 6 * line.length ≤ 100000 ∧ (found ++ nxt ks line).length + (nxt ks line).length * 13 ^ m ≤ 100000 := by
  have h2 := nxt_len ks line h
  have hp : 1 ≤ 13 ^ m := Nat.pow_pos (by decide)
  have e : line.length * 13 ^ (m + 1) = 13 * (line.length * 13 ^ m) := by rw [Nat.pow_succ, Nat.mul_comm (13 ^ m) 13, ← Nat.mul_assoc, Nat.mul_comm line.length 13, Nat.mul_assoc]
  have h3 : (nxt ks line).length * 13 ^ m ≤ 6 * line.length * 13 ^ m := Nat.mul_le_mul_right _ h2
  have h4 : line.length ≤ line.length * 13 ^ m := Nat.le_mul_of_pos_right _ hp
  rw [e] at hb
  rw [Nat.mul_assoc] at h3
  rw [List.length_append]
  omega
def encT (e : α → D) (u : List α) : D := .tup (u.map e)

/-! #### slots from 2 on -/
abbrev cmpF : E := .comp [7] (.name 7) .seq [(.var 0)] [] (.prim (.bin .Add) [(.var 6), (.prim .tup [(.var 7)])])
abbrev innF : List S := [.set (.name 5) (.prim (.bin .Add) [(.var 5), cmpF])]
abbrev outF : List S := [.set (.name 5) (.prim .lst []), .for (.name 6) .seq [(.var 3)] innF, .par [2, 3] [(.prim (.bin .Add) [(.var 2), (.var 5)]), (.var 5)]]
theorem compF {cf : CallF} {e : α → D} {ks u : List α} {p1 x2 x3 x4 x5 : Sl} (hu : u.length ≤ 100) (hk : ks.length ≤ 6) : evE cf cmpF [.val (.tup (ks.map e)), p1, x2, x3, x4, x5, .val (encT e u), .none] = .ok (.lst ((ks.map fun k => u ++ [k]).map (encT e))) [.val (.tup (ks.map e)), p1, x2, x3, x4, x5, .val (encT e u), .none] := by
  have := comp_pure (cf := cf) (own := [7]) (tg := .name 7) (cnd := []) (elt := .prim (.bin .Add) [(.var 6), (.prim .tup [(.var 7)])]) (src := [(.var 0)]) (k := .seq) (env := [.val (.tup (ks.map e)), p1, x2, x3, x4, x5, .val (encT e u), .none]) (env1 := [.val (.tup (ks.map e)), p1, x2, x3, x4, x5, .val (encT e u), .none]) (fun d => some (.tup (u.map e ++ [d]))) (avs := [.val (.tup (ks.map e))]) (ds := [.tup (ks.map e)]) (items := ks.map e) (by simp) (by simp) rfl rfl (by simp; omega) fun d hd => by
    refine ⟨[.val (.tup (ks.map e)), p1, x2, x3, x4, x5, .val (encT e u), .val d], ?_, rfl⟩
    have hc := pv_catt (a := u.map e) (b := [d]) (by simp; omega)
    simp [stepW, Mp.wipe, encT, hc]
  rw [this, filterMap_some, List.map_map, List.map_map]
  congr 2
  apply List.map_congr_left
  intro k _
  show D.tup (u.map e ++ [e k]) = encT e (u ++ [k])
  unfold encT
  rw [List.map_append]
  rfl
theorem ownF {cf : CallF} {e : α → D} {ks : List α} {p1 x2 x3 x4 : Sl} (hk : ks.length ≤ 6) : ∀ (line later : List (List α)) (x6 : Sl), Wr x6 → later.length + 6 * line.length ≤ 100000 → (∀ u ∈ line, u.length ≤ 100) →
    ∃ y6, Wr y6 ∧ forGo (fun d e => (ofOptS (asg e (.name 6) d)).then fun e1 => evB cf innF e1) (line.map (encT e)) [.val (.tup (ks.map e)), p1, x2, x3, x4, .val (.lst (later.map (encT e))), x6, .none] = .nxt [.val (.tup (ks.map e)), p1, x2, x3, x4, .val (.lst ((later ++ nxt ks line).map (encT e))), y6, .none]
  | [], later, x6, h6, _, _ => ⟨x6, h6, by rw [show nxt ks [] = [] from rfl, List.append_nil]; rfl⟩
  | u :: line, later, x6, h6, hb, hu => by
    have hb' : later.length + 6 * (line.length + 1) ≤ 100000 := hb
    obtain ⟨y6, q1, q⟩ := ownF (cf := cf) (e := e) (ks := ks) (p1 := p1) (x2 := x2) (x3 := x3) (x4 := x4) hk line (later ++ ks.map fun k => u ++ [k]) (.val (encT e u)) (.val _) (by rw [List.length_append, List.length_map]; omega) (fun v hv => hu v (List.mem_cons_of_mem _ hv))
    refine ⟨y6, q1, ?_⟩
    rw [show nxt ks (u :: line) = (ks.map fun k => u ++ [k]) ++ nxt ks line from rfl, ← List.append_assoc, ← q, List.map_cons]
    refine forGo_cons ?_
    have hc := compF (cf := cf) (e := e) (ks := ks) (u := u) (p1 := p1) (x2 := x2) (x3 := x3) (x4 := x4) (x5 := .val (.lst (later.map (encT e)))) (hu u (List.mem_cons_self ..)) hk
    have hcat := pv_catl (a := later.map (encT e)) (b := (ks.map fun k => u ++ [k]).map (encT e)) (by simp; omega)
    have s1 : asg [.val (.tup (ks.map e)), p1, x2, x3, x4, .val (.lst (later.map (encT e))), x6, .none] (.name 6) (encT e u) = some [.val (.tup (ks.map e)), p1, x2, x3, x4, .val (.lst (later.map (encT e))), .val (encT e u), .none] := by
      simp [put_wr h6]
    rw [s1, ofOptS_some, SR.then_nxt, evB_cons', evS_set, ev_prim, evA_cons']
    have s2 : evE cf (.var 5) [.val (.tup (ks.map e)), p1, x2, x3, x4, .val (.lst (later.map (encT e))), .val (encT e u), .none] = .ok (.lst (later.map (encT e))) [.val (.tup (ks.map e)), p1, x2, x3, x4, .val (.lst (later.map (encT e))), .val (encT e u), .none] := by
      simp
    simp only [s2, R.bind_ok, evA_cons', hc, evA_nil', rds_val, rds_nil, Option.map_some, hcat, ofOpt_some, R.toS_ok]
    rw [List.map_append]
    simp [-List.map_map]
theorem turnF {cf : CallF} {e : α → D} {ks : List α} {p1 : Sl} (hk : ks.length ≤ 6) {found line : List (List α)} {x4 x5 x6 : Sl} {d : D} (h4 : Wr x4) (h5 : Wr x5) (h6 : Wr x6) (hb : found.length + 6 * line.length ≤ 100000) (hu : ∀ u ∈ line, u.length ≤ 100) :
    ∃ y6, Wr y6 ∧ (ofOptS (asg [.val (.tup (ks.map e)), p1, .val (.lst (found.map (encT e))), .val (.lst (line.map (encT e))), x4, x5, x6, .none] (.name 4) d)).then (fun e1 => evB cf outF e1) = .nxt [.val (.tup (ks.map e)), p1, .val (.lst ((found ++ nxt ks line).map (encT e))), .val (.lst ((nxt ks line).map (encT e))), .val d, .val (.lst ((nxt ks line).map (encT e))), y6, .none] := by
  obtain ⟨y6, q1, q⟩ := ownF (cf := cf) (e := e) (ks := ks) (p1 := p1) (x2 := .val (.lst (found.map (encT e)))) (x3 := .val (.lst (line.map (encT e)))) (x4 := .val d) hk line [] x6 h6 (by simp; omega) hu
  rw [List.nil_append] at q
  refine ⟨y6, q1, ?_⟩
  have s1 : asg [.val (.tup (ks.map e)), p1, .val (.lst (found.map (encT e))), .val (.lst (line.map (encT e))), x4, x5, x6, .none] (.name 4) d = some [.val (.tup (ks.map e)), p1, .val (.lst (found.map (encT e))), .val (.lst (line.map (encT e))), .val d, x5, x6, .none] := by
    simp [put_wr h4]
  have s2 : evS cf (.set (.name 5) (.prim .lst [])) [.val (.tup (ks.map e)), p1, .val (.lst (found.map (encT e))), .val (.lst (line.map (encT e))), .val d, x5, x6, .none] = .nxt [.val (.tup (ks.map e)), p1, .val (.lst (found.map (encT e))), .val (.lst (line.map (encT e))), .val d, .val (.lst (([] : List (List α)).map (encT e))), x6, .none] := by
    simp [put_wr h5]
  have hfe := (for_eq (cf := cf) (t := .name 6) (k := .seq) (body := innF) (src := [.var 3]) (env := [.val (.tup (ks.map e)), p1, .val (.lst (found.map (encT e))), .val (.lst (line.map (encT e))), .val d, .val (.lst (([] : List (List α)).map (encT e))), x6, .none]) (env1 := [.val (.tup (ks.map e)), p1, .val (.lst (found.map (encT e))), .val (.lst (line.map (encT e))), .val d, .val (.lst (([] : List (List α)).map (encT e))), x6, .none]) (avs := [.val (.lst (line.map (encT e)))]) (ds := [.lst (line.map (encT e))]) (items := line.map (encT e)) (by simp) (by simp) rfl).trans q
  have hn := nxt_len ks line hk
  have hcat := pv_catl (a := found.map (encT e)) (b := (nxt ks line).map (encT e)) (by simp; omega)
  rw [s1, ofOptS_some, SR.then_nxt, evB_cons', s2, SR.then_nxt, evB_cons', hfe, SR.then_nxt, List.map_append]
  simp [hcat, -List.map_append]
theorem turnsF {cf : CallF} {e : α → D} {ks : List α} {p1 : Sl} (hk : ks.length ≤ 6) : ∀ (m : Nat) (lo : Int) (found line : List (List α)) (x4 x5 x6 : Sl), Wr x4 → Wr x5 → Wr x6 → found.length + line.length * 13 ^ m ≤ 100000 → (∀ u ∈ line, (∀ o ∈ u, o ∈ ks) ∧ u.length + m ≤ 100) →
    ∃ y3 y4 y5 y6, forGo (fun d e => (ofOptS (asg e (.name 4) d)).then fun e1 => evB cf outF e1) (rangeL lo m) [.val (.tup (ks.map e)), p1, .val (.lst (found.map (encT e))), .val (.lst (line.map (encT e))), x4, x5, x6, .none] = .nxt [.val (.tup (ks.map e)), p1, .val (.lst ((grow ks m found line).map (encT e))), y3, y4, y5, y6, .none]
  | 0, lo, found, line, x4, x5, x6, _, _, _, _, _ => ⟨_, _, _, _, rfl⟩
  | m + 1, lo, found, line, x4, x5, x6, h4, h5, h6, hb, hu => by
    obtain ⟨b1, b2⟩ := grow_bound hk hb
    obtain ⟨y6, q1, q⟩ := turnF (cf := cf) (e := e) (ks := ks) (p1 := p1) hk (found := found) (line := line) (d := .int lo) h4 h5 h6 b1 (fun u h => by have := (hu u h).2; omega)
    obtain ⟨z3, z4, z5, z6, g⟩ := turnsF (cf := cf) (e := e) (ks := ks) (p1 := p1) hk m (lo + 1) (found ++ nxt ks line) (nxt ks line) (.val (.int lo)) (.val (.lst ((nxt ks line).map (encT e)))) y6 (.val _) (.val _) q1 b2 (nxt_all hu)
    refine ⟨z3, z4, z5, z6, ?_⟩
    rw [range_cons, forGo_cons q, g]
    rfl

/-! #### slots from 3 on -/
abbrev cmpA : E := .comp [8] (.name 8) .seq [(.var 1)] [] (.prim (.bin .Add) [(.var 7), (.prim .tup [(.var 8)])])
abbrev innA : List S := [.set (.name 6) (.prim (.bin .Add) [(.var 6), cmpA])]
abbrev outA : List S := [.set (.name 6) (.prim .lst []), .for (.name 7) .seq [(.var 4)] innA, .par [3, 4] [(.prim (.bin .Add) [(.var 3), (.var 6)]), (.var 6)]]
theorem compA {cf : CallF} {e : α → D} {ks u : List α} {p0 p2 x2 x3 x4 x5 : Sl} (hu : u.length ≤ 100) (hk : ks.length ≤ 6) : evE cf cmpA [p0, .val (.lst (ks.map e)), p2, x2, x3, x4, x5, .val (encT e u), .none] = .ok (.lst ((ks.map fun k => u ++ [k]).map (encT e))) [p0, .val (.lst (ks.map e)), p2, x2, x3, x4, x5, .val (encT e u), .none] := by
  have := comp_pure (cf := cf) (own := [8]) (tg := .name 8) (cnd := []) (elt := .prim (.bin .Add) [(.var 7), (.prim .tup [(.var 8)])]) (src := [(.var 1)]) (k := .seq) (env := [p0, .val (.lst (ks.map e)), p2, x2, x3, x4, x5, .val (encT e u), .none]) (env1 := [p0, .val (.lst (ks.map e)), p2, x2, x3, x4, x5, .val (encT e u), .none]) (fun d => some (.tup (u.map e ++ [d]))) (avs := [.val (.lst (ks.map e))]) (ds := [.lst (ks.map e)]) (items := ks.map e) (by simp) (by simp) rfl rfl (by simp; omega) fun d hd => by
    refine ⟨[p0, .val (.lst (ks.map e)), p2, x2, x3, x4, x5, .val (encT e u), .val d], ?_, rfl⟩
    have hc := pv_catt (a := u.map e) (b := [d]) (by simp; omega)
    simp [stepW, Mp.wipe, encT, hc]
  rw [this, filterMap_some, List.map_map, List.map_map]
  congr 2
  apply List.map_congr_left
  intro k _
  show D.tup (u.map e ++ [e k]) = encT e (u ++ [k])
  unfold encT
  rw [List.map_append]
  rfl
theorem ownA {cf : CallF} {e : α → D} {ks : List α} {p0 p2 x2 x3 x4 : Sl} (hk : ks.length ≤ 6) : ∀ (line later : List (List α)) (x6 : Sl), Wr x6 → later.length + 6 * line.length ≤ 100000 → (∀ u ∈ line, u.length ≤ 100) →
    ∃ y6, Wr y6 ∧ forGo (fun d e => (ofOptS (asg e (.name 7) d)).then fun e1 => evB cf innA e1) (line.map (encT e)) [p0, .val (.lst (ks.map e)), p2, x2, x3, x4, .val (.lst (later.map (encT e))), x6, .none] = .nxt [p0, .val (.lst (ks.map e)), p2, x2, x3, x4, .val (.lst ((later ++ nxt ks line).map (encT e))), y6, .none]
  | [], later, x6, h6, _, _ => ⟨x6, h6, by rw [show nxt ks [] = [] from rfl, List.append_nil]; rfl⟩
  | u :: line, later, x6, h6, hb, hu => by
    have hb' : later.length + 6 * (line.length + 1) ≤ 100000 := hb
    obtain ⟨y6, q1, q⟩ := ownA (cf := cf) (e := e) (ks := ks) (p0 := p0) (p2 := p2) (x2 := x2) (x3 := x3) (x4 := x4) hk line (later ++ ks.map fun k => u ++ [k]) (.val (encT e u)) (.val _) (by rw [List.length_append, List.length_map]; omega) (fun v hv => hu v (List.mem_cons_of_mem _ hv))
    refine ⟨y6, q1, ?_⟩
    rw [show nxt ks (u :: line) = (ks.map fun k => u ++ [k]) ++ nxt ks line from rfl, ← List.append_assoc, ← q, List.map_cons]
    refine forGo_cons ?_
    have hc := compA (cf := cf) (e := e) (ks := ks) (u := u) (p0 := p0) (p2 := p2) (x2 := x2) (x3 := x3) (x4 := x4) (x5 := .val (.lst (later.map (encT e)))) (hu u (List.mem_cons_self ..)) hk
    have hcat := pv_catl (a := later.map (encT e)) (b := (ks.map fun k => u ++ [k]).map (encT e)) (by simp; omega)
    have s1 : asg [p0, .val (.lst (ks.map e)), p2, x2, x3, x4, .val (.lst (later.map (encT e))), x6, .none] (.name 7) (encT e u) = some [p0, .val (.lst (ks.map e)), p2, x2, x3, x4, .val (.lst (later.map (encT e))), .val (encT e u), .none] := by
      simp [put_wr h6]
    rw [s1, ofOptS_some, SR.then_nxt, evB_cons', evS_set, ev_prim, evA_cons']
    have s2 : evE cf (.var 6) [p0, .val (.lst (ks.map e)), p2, x2, x3, x4, .val (.lst (later.map (encT e))), .val (encT e u), .none] = .ok (.lst (later.map (encT e))) [p0, .val (.lst (ks.map e)), p2, x2, x3, x4, .val (.lst (later.map (encT e))), .val (encT e u), .none] := by
      simp
    simp only [s2, R.bind_ok, evA_cons', hc, evA_nil', rds_val, rds_nil, Option.map_some, hcat, ofOpt_some, R.toS_ok]
    rw [List.map_append]
    simp [-List.map_map]
theorem turnA {cf : CallF} {e : α → D} {ks : List α} {p0 p2 : Sl} (hk : ks.length ≤ 6) {found line : List (List α)} {x4 x5 x6 : Sl} {d : D} (h4 : Wr x4) (h5 : Wr x5) (h6 : Wr x6) (hb : found.length + 6 * line.length ≤ 100000) (hu : ∀ u ∈ line, u.length ≤ 100) :
    ∃ y6, Wr y6 ∧ (ofOptS (asg [p0, .val (.lst (ks.map e)), p2, .val (.lst (found.map (encT e))), .val (.lst (line.map (encT e))), x4, x5, x6, .none] (.name 5) d)).then (fun e1 => evB cf outA e1) = .nxt [p0, .val (.lst (ks.map e)), p2, .val (.lst ((found ++ nxt ks line).map (encT e))), .val (.lst ((nxt ks line).map (encT e))), .val d, .val (.lst ((nxt ks line).map (encT e))), y6, .none] := by
  obtain ⟨y6, q1, q⟩ := ownA (cf := cf) (e := e) (ks := ks) (p0 := p0) (p2 := p2) (x2 := .val (.lst (found.map (encT e)))) (x3 := .val (.lst (line.map (encT e)))) (x4 := .val d) hk line [] x6 h6 (by simp; omega) hu
  rw [List.nil_append] at q
  refine ⟨y6, q1, ?_⟩
  have s1 : asg [p0, .val (.lst (ks.map e)), p2, .val (.lst (found.map (encT e))), .val (.lst (line.map (encT e))), x4, x5, x6, .none] (.name 5) d = some [p0, .val (.lst (ks.map e)), p2, .val (.lst (found.map (encT e))), .val (.lst (line.map (encT e))), .val d, x5, x6, .none] := by
    simp [put_wr h4]
  have s2 : evS cf (.set (.name 6) (.prim .lst [])) [p0, .val (.lst (ks.map e)), p2, .val (.lst (found.map (encT e))), .val (.lst (line.map (encT e))), .val d, x5, x6, .none] = .nxt [p0, .val (.lst (ks.map e)), p2, .val (.lst (found.map (encT e))), .val (.lst (line.map (encT e))), .val d, .val (.lst (([] : List (List α)).map (encT e))), x6, .none] := by
    simp [put_wr h5]
  have hfe := (for_eq (cf := cf) (t := .name 7) (k := .seq) (body := innA) (src := [.var 4]) (env := [p0, .val (.lst (ks.map e)), p2, .val (.lst (found.map (encT e))), .val (.lst (line.map (encT e))), .val d, .val (.lst (([] : List (List α)).map (encT e))), x6, .none]) (env1 := [p0, .val (.lst (ks.map e)), p2, .val (.lst (found.map (encT e))), .val (.lst (line.map (encT e))), .val d, .val (.lst (([] : List (List α)).map (encT e))), x6, .none]) (avs := [.val (.lst (line.map (encT e)))]) (ds := [.lst (line.map (encT e))]) (items := line.map (encT e)) (by simp) (by simp) rfl).trans q
  have hn := nxt_len ks line hk
  have hcat := pv_catl (a := found.map (encT e)) (b := (nxt ks line).map (encT e)) (by simp; omega)
  rw [s1, ofOptS_some, SR.then_nxt, evB_cons', s2, SR.then_nxt, evB_cons', hfe, SR.then_nxt, List.map_append]
  simp [hcat, -List.map_append]
theorem turnsA {cf : CallF} {e : α → D} {ks : List α} {p0 p2 : Sl} (hk : ks.length ≤ 6) : ∀ (m : Nat) (lo : Int) (found line : List (List α)) (x4 x5 x6 : Sl), Wr x4 → Wr x5 → Wr x6 → found.length + line.length * 13 ^ m ≤ 100000 → (∀ u ∈ line, (∀ o ∈ u, o ∈ ks) ∧ u.length + m ≤ 100) →
    ∃ y3 y4 y5 y6, forGo (fun d e => (ofOptS (asg e (.name 5) d)).then fun e1 => evB cf outA e1) (rangeL lo m) [p0, .val (.lst (ks.map e)), p2, .val (.lst (found.map (encT e))), .val (.lst (line.map (encT e))), x4, x5, x6, .none] = .nxt [p0, .val (.lst (ks.map e)), p2, .val (.lst ((grow ks m found line).map (encT e))), y3, y4, y5, y6, .none]
  | 0, lo, found, line, x4, x5, x6, _, _, _, _, _ => ⟨_, _, _, _, rfl⟩
  | m + 1, lo, found, line, x4, x5, x6, h4, h5, h6, hb, hu => by
    obtain ⟨b1, b2⟩ := grow_bound hk hb
    obtain ⟨y6, q1, q⟩ := turnA (cf := cf) (e := e) (ks := ks) (p0 := p0) (p2 := p2) hk (found := found) (line := line) (d := .int lo) h4 h5 h6 b1 (fun u h => by have := (hu u h).2; omega)
    obtain ⟨z3, z4, z5, z6, g⟩ := turnsA (cf := cf) (e := e) (ks := ks) (p0 := p0) (p2 := p2) hk m (lo + 1) (found ++ nxt ks line) (nxt ks line) (.val (.int lo)) (.val (.lst ((nxt ks line).map (encT e)))) y6 (.val _) (.val _) q1 b2 (nxt_all hu)
    refine ⟨z3, z4, z5, z6, ?_⟩
    rw [range_cons, forGo_cons q, g]
    rfl
end
theorem tu_encT (u : List Int) : encT D.int u = tu u := rfl
theorem te_encT (E : List Ed) : encT ed E = te E := rfl
end K16
set_option Elab.async false
set_option linter.all false
set_option maxRecDepth 100000
set_option maxHeartbeats 8000000
namespace K16
open PySem Mp Stp
/-! ### a pair of files is right -/
theorem path_len {E : List Ed} {a b : List Int} {m : Nat} (h : PathE E a b) : (∀ e ∈ E, okE m e) → E.length ≤ a.length + b.length := by
  induction h with
  | nil => intro _; simp
  | keep u _ ih =>
    intro ok
    have h1 : 1 ≤ u.length := (ok _ (List.mem_cons_self ..)).1
    have := ih fun e he => ok e (List.mem_cons_of_mem _ he)
    simp only [List.length_cons, List.length_append]
    omega
  | cut u _ ih =>
    intro ok
    have h1 : u ≠ [] := (ok (.cut u) (List.mem_cons_self ..)).1
    have h2 : 0 < u.length := List.length_pos_iff.mpr h1
    have := ih fun e he => ok e (List.mem_cons_of_mem _ he)
    simp only [List.length_cons, List.length_append]
    omega
  | put u _ ih =>
    intro ok
    have h1 : u ≠ [] := (ok (.put u) (List.mem_cons_self ..)).1
    have h2 : 0 < u.length := List.length_pos_iff.mpr h1
    have := ih fun e he => ok e (List.mem_cons_of_mem _ he)
    simp only [List.length_cons, List.length_append]
    omega
theorem path_put {E : List Ed} {a b : List Int} (h : PathE E a b) : putN E = b.length := by
  induction h with
  | nil => rfl
  | keep u _ ih => show u.length + putN _ = _; rw [ih, List.length_append]
  | cut u _ ih => exact ih
  | put u _ ih => show u.length + putN _ = _; rw [ih, List.length_append]
theorem te_ne0 (E : List Ed) : pev (.cmp .NotEq) [te E, .tup []] = some (.bl (!E.isEmpty)) := by
  rw [pv_ne (gd_mono (by decide) (gd_te E)) rfl]
  unfold te
  rw [eqv_t0]
  cases E <;> rfl
theorem pv_eqb {p q : Bool} : pev (.cmp .Eq) [.bl p, .bl q] = some (.bl (p == q)) := by
  cases p <;> cases q <;> (first | rfl | kernel_rfl)
abbrev firstE : E := .ife (.bop true [(.prim (.cmp .NotEq) [(.var 2), (.prim .tup [])]), (.prim (.cmp .Eq) [(.prim .idx [(.prim .idx [(.var 2), (.con (.int 0))]), (.con (.int 0))]), (.con (.str [107, 101, 101, 112]))])]) (.prim .idx [(.prim .idx [(.var 2), (.con (.int 0))]), (.con (.int 1))]) (.con (.int 0))
abbrev lastE : E := .ife (.bop true [(.prim (.cmp .NotEq) [(.var 2), (.prim .tup [])]), (.prim (.cmp .Eq) [(.prim .idx [(.prim .idx [(.var 2), (.prim (.un .USub) [(.con (.int 1))])]), (.con (.int 0))]), (.con (.str [107, 101, 101, 112]))])]) (.prim .idx [(.prim .idx [(.var 2), (.prim (.un .USub) [(.con (.int 1))])]), (.con (.int 1))]) (.con (.int 0))
theorem ed_1 (e : Ed) : pev .idx [ed e, .int 1] = some (arg e) := pv_ixt (xs := [.str (word e), arg e]) (i := 1) (by simp)
theorem ed_0 (e : Ed) : pev .idx [ed e, .int 0] = some (.str (word e)) := pv_ixt (xs := [.str (word e), arg e]) (i := 0) (by simp)
theorem first_ok {cf : CallF} {x0 x1 : Sl} {r : Mp.Env} {E : List Ed} : evE cf firstE (x0 :: x1 :: .val (te E) :: r) = .ok (.int (firstK E)) (x0 :: x1 :: .val (te E) :: r) := by
  have h0 := te_ne0 E
  cases E with
  | nil => simp [h0, firstK]
  | cons e E =>
    have hi : pev .idx [te (e :: E), .int 0] = some (ed e) := pv_ixt (xs := (e :: E).map ed) (i := 0) (by simp)
    have w1 := pv_eqs ck ck
    have w2 := pv_eqs cc ck
    have w3 := pv_eqs cp ck
    cases e with
    | keep n => simp [h0, hi, ed_0, ed_1, w1, w2, w3, word, arg, firstK]
    | cut u => simp [h0, hi, ed_0, ed_1, w1, w2, w3, word, arg, firstK]
    | put u => simp [h0, hi, ed_0, ed_1, w1, w2, w3, word, arg, firstK]
theorem last_ok {cf : CallF} {x0 x1 : Sl} {r : Mp.Env} {E : List Ed} : evE cf lastE (x0 :: x1 :: .val (te E) :: r) = .ok (.int (lastK E)) (x0 :: x1 :: .val (te E) :: r) := by
  have h0 := te_ne0 E
  rcases List.eq_nil_or_concat E with rfl | ⟨F, e, rfl⟩
  · simp [h0, lastK]
  · rw [List.concat_eq_append] at h0 ⊢
    have hi : pev .idx [te (F ++ [e]), .int (-1)] = some (ed e) := by
      unfold te
      rw [List.map_append]
      exact pv_lastt
    have w1 := pv_eqs ck ck
    have w2 := pv_eqs cc ck
    have w3 := pv_eqs cp ck
    have hne : (F ++ [e]).isEmpty = false := by cases F <;> rfl
    rw [hne] at h0
    cases e with
    | keep n => simp [h0, hi, ed_0, ed_1, w1, w2, w3, word, arg, lastK]
    | cut u => simp [h0, hi, ed_0, ed_1, w1, w2, w3, word, arg, lastK]
    | put u => simp [h0, hi, ed_0, ed_1, w1, w2, w3, word, arg, lastK]
theorem not_big {a b : List Int} (la : a.length ≤ 100) (lb : b.length ≤ 100) : ¬ big a b := by
  unfold big
  have h1 := lft_len a b
  have h2 := rgt_len a b
  have : ((lft a b).length + 1) * ((rgt a b).length + 1) ≤ 101 * 101 := Nat.mul_le_mul (by omega) (by omega)
  omega
/-- what the edits of two files are -/
structure Good (a b : List Int) (E : List Ed) : Prop where
  path : PathE E a b
  cost : costE E = dist a b
  adj : adj E = true
  ok : Ok 1000 E
  len : E.length ≤ 2001
  put : putN E ≤ 1000000
  fst : pre a b ≤ firstK E
  lst : tail a b ≤ lastK E
theorem good_of {a b : List Int} (oa : Oct a) (ob : Oct b) (la : a.length ≤ 1000) (lb : b.length ≤ 1000) (hb : ¬ big a b) : Good a b (jn (Sof a b) a b) := by
  obtain ⟨h1, h2, h3, h4⟩ := jn_ok (m := 1000) ⟨la, lb⟩ oa ob (Sof_path a b)
  refine ⟨h1, by rw [h2, Sof_cost a b hb], h3, h4, ?_, ?_, ?_, ?_⟩
  · have := path_len h1 h4
    omega
  · rw [path_put h1]
    omega
  · exact jn_first _ _ _ _
  · unfold Sof
    rw [← List.append_assoc]
    exact jn_last _ _ _ _
theorem same_jn (a : List Int) : jn (Sof a a) a a = if a = [] then [] else [.keep a.length] := by
  have hp := pre_self a
  have ht : tail a a = 0 := by
    unfold tail
    rw [hp, List.drop_length]
    rfl
  have hl : lft a a = [] := by
    unfold lft
    rw [hp, List.drop_length, List.take_nil]
  have hr : rgt a a = [] := hl
  have hm : mid a a = [] := by
    unfold mid
    rw [hl, hr]
    split
    · rfl
    · show walk [] [] = []
      unfold walk
      rfl
  have hS : Sof a a = List.replicate a.length K := by
    unfold Sof
    rw [hm, ht, hp]
    simp
  rw [hS]
  by_cases c : a = []
  · subst c; rfl
  · rw [if_neg c, jn_all a c]
abbrev sixS : S := .ifs (.bop false [(.prim (.cmp .Lt) [(.var 5), (.var 3)]), (.prim (.cmp .Lt) [(.var 6), (.var 4)]), (.bop true [(.prim (.cmp .Eq) [(.var 0), (.var 1)]), (.prim (.cmp .NotEq) [(.var 2), (.ife (.prim (.cmp .NotEq) [(.var 0), (.prim .tup [])]) (.prim .tup [(.prim .tup [(.con (.str [107, 101, 101, 112])), (.prim (.call .len) [(.var 0)])])]) (.prim .tup []))])])]) [.ret (some (.con (.bl false)))] []
theorem six_ok {cf : CallF} {a b : List Int} {E : List Ed} {p q x y : Int} (c1 : ¬ x < p) (c2 : ¬ y < q) (h : a = b → E = if a = [] then [] else [.keep a.length]) :
    evS cf sixS [.val (tu a), .val (tu b), .val (te E), .val (.int p), .val (.int q), .val (.int x), .val (.int y)] = .nxt [.val (tu a), .val (tu b), .val (te E), .val (.int p), .val (.int q), .val (.int x), .val (.int y)] := by
  by_cases c : a = b
  · have hE := h c
    subst c
    have h0 := pv_ne0 (a := a)
    by_cases c3 : a = []
    · rw [if_pos c3] at hE
      have ht := te_ne0 []
      rw [decide_eq_true c3] at h0
      subst hE
      simp [decide_eq_false c1, decide_eq_false c2, ht, h0]
    · rw [if_neg c3] at hE
      rw [decide_eq_false c3] at h0
      have ht : pev (.cmp .NotEq) [te [.keep a.length], .tup [.tup [.str [107, 101, 101, 112], .int a.length]]] = some (.bl false) := by
        have := pv_ne (a := te [.keep a.length]) (b := te [.keep a.length]) (gd_mono (by decide) (gd_te _)) (gd_mono (by decide) (gd_te _))
        rw [eqv_refl (gd_te _)] at this
        exact this
      subst hE
      simp [decide_eq_false c1, decide_eq_false c2, ht, h0]
  · simp [decide_eq_false c1, decide_eq_false c2, decide_eq_false c]
theorem pair_ok {n : Nat} {a b : List Int} (oa : Oct a) (ob : Oct b) (la : a.length ≤ 100) (lb : b.length ≤ 100) : run tbl (n + 6) 42 [.val (tu a), .val (tu b)] = .ok (.bl true) [] := by
  rw [run_eq (d := ⟨2, 7, b__law_pair_right⟩) rfl rfl]
  have G := good_of oa ob (by omega) (by omega) (not_big la lb)
  have G' := good_of ob oa (by omega) (by omega) (not_big lb la)
  have f1 := between_ok (n := n + 1) oa ob (by omega) (by omega)
  have f2 := between_ok (n := n + 1) ob oa (by omega) (by omega)
  have f3 := is_ok (n := n + 1) G.ok G.len
  have f4 := by_ok (n := n) oa (by omega) G.ok G.len G.adj G.put
  have f5 := led_ok (n := n + 4) (a := a) (by omega) G.ok G.put
  have f6 := price_ok (n := n) G.ok G.len G.adj
  have f7 := price_ok (n := n) G'.ok G'.len G'.adj
  have f8 := least_ok (n := n + 4) (a := a) (b := b) (by omega) (by omega)
  have f9 := ends_ok (n := n + 4) (a := a) (b := b) (by omega) (by omega)
  rw [path_app G.path, List.nil_append] at f4 f5
  rw [G.adj] at f3
  rw [G.cost] at f6
  rw [G'.cost, dist_sym b a] at f7
  have hs := same_jn a
  have g1 := G.fst
  have g2 := G.lst
  generalize run tbl (n + 5) = cf at *
  generalize hE : jn (Sof a b) a b = E at *
  generalize jn (Sof b a) b a = E' at *
  have c1 : ¬ (firstK E : Int) < (pre a b : Nat) := by omega
  have c2 : ¬ (lastK E : Int) < (tail a b : Nat) := by omega
  show fin 42 [.val (tu a), .val (tu b)] (evB cf b__law_pair_right [.val (tu a), .val (tu b), .none, .none, .none, .none, .none]) = _
  rw [b__law_pair_right]
  have s1 : evS cf (.set (.name 2) (.call 24 [(.var 0), (.var 1)])) [.val (tu a), .val (tu b), .none, .none, .none, .none, .none] = .nxt [.val (tu a), .val (tu b), .val (te E), .none, .none, .none, .none] := by
    simp [f1]
  rw [evB_cons', s1, SR.then_nxt, evB_cons']
  have s2 : evS cf (.ifs (.bop false [(.prim (.cmp .IsNot) [(.call 22 [(.var 2)]), (.con (.bl true))]), (.prim (.cmp .NotEq) [(.call 26 [(.var 0), (.var 2)]), (.var 1)]), (.prim (.cmp .NotEq) [(.call 38 [(.var 0), (.var 2)]), (.var 1)]), (.prim (.cmp .NotEq) [(.call 28 [(.var 2)]), (.call 36 [(.var 0), (.var 1)])])]) [.ret (some (.con (.bl false)))] []) [.val (tu a), .val (tu b), .val (te E), .none, .none, .none, .none] = .nxt [.val (tu a), .val (tu b), .val (te E), .none, .none, .none, .none] := by
    simp [f3, f4, f5, f6, f8, ans]
  rw [s2, SR.then_nxt, evB_cons']
  have s3 : evS cf (.set (.tup [(.name 3), (.name 4)]) (.call 40 [(.var 0), (.var 1)])) [.val (tu a), .val (tu b), .val (te E), .none, .none, .none, .none] = .nxt [.val (tu a), .val (tu b), .val (te E), .val (.int (pre a b)), .val (.int (tail a b)), .none, .none] := by
    simp [f9]
  rw [s3, SR.then_nxt, evB_cons', evS_set, first_ok]
  have s4 : (R.ok (D.int (firstK E)) [.val (tu a), .val (tu b), .val (te E), .val (.int (pre a b)), .val (.int (tail a b)), .none, .none]).toS (fun d env1 => ofOptS (asg env1 (.name 5) d)) = .nxt [.val (tu a), .val (tu b), .val (te E), .val (.int (pre a b)), .val (.int (tail a b)), .val (.int (firstK E)), .none] := by
    simp
  rw [s4, SR.then_nxt, evB_cons', evS_set, last_ok]
  have s5 : (R.ok (D.int (lastK E)) [.val (tu a), .val (tu b), .val (te E), .val (.int (pre a b)), .val (.int (tail a b)), .val (.int (firstK E)), .none]).toS (fun d env1 => ofOptS (asg env1 (.name 6) d)) = .nxt [.val (tu a), .val (tu b), .val (te E), .val (.int (pre a b)), .val (.int (tail a b)), .val (.int (firstK E)), .val (.int (lastK E))] := by
    simp
  rw [s5, SR.then_nxt, evB_cons']
  have s6 := six_ok (cf := cf) (a := a) (b := b) (E := E) c1 c2 (fun c => by subst c; rw [← hE, hs])
  rw [s6, SR.then_nxt]
  have hz : (decide (dist a b = 0) == decide (a = b)) = true := by
    by_cases c : a = b
    · subst c
      rw [dist_self]
      simp
    · have : ¬ dist a b = 0 := fun z => c (dist_zero z)
      simp [c, this]
  simp [f2, f6, f7, pv_eqb]
  rw [hz]
  rfl
end K16
set_option Elab.async false
set_option linter.all false
set_option maxRecDepth 100000
set_option maxHeartbeats 8000000
namespace K16
open PySem Mp Stp
/-! ### the files, the edits of the law -/
def filesL (x y : Int) : List (List Int) := grow [x, y] 4 [[]] [[]]
def prs (x y : Int) : List Ed := [.keep 1, .keep 2, .cut [x], .put [x], .cut [y], .put [y]]
def editsL (x y : Int) : List (List Ed) := grow (prs x y) 3 [[]] [[]]
theorem files_ok {n : Nat} {x y : Int} : run tbl (n + 1) 34 [.val (.tup [.int x, .int y]), .val (.int 4)] = .ok (.lst ((filesL x y).map tu)) [] := by
  rw [run_eq (d := ⟨2, 8, b__law_files⟩) rfl rfl]
  generalize run tbl n = cf
  show fin 34 [.val (.tup [.int x, .int y]), .val (.int 4)] (evB cf b__law_files [.val (.tup [.int x, .int y]), .val (.int 4), .none, .none, .none, .none, .none, .none]) = _
  obtain ⟨y3, y4, y5, y6, q⟩ := turnsF (cf := cf) (e := D.int) (ks := [x, y]) (p1 := .val (.int 4)) (by simp) 4 0 [[]] [[]] .none .none .none .non .non .non (by decide) (by simp)
  have hfe := (for_eq (cf := cf) (t := .name 4) (k := .range) (body := outF) (src := [.var 1]) (env := [.val (.tup ([x, y].map .int)), .val (.int 4), .val (.lst (([[]] : List (List Int)).map (encT D.int))), .val (.lst (([[]] : List (List Int)).map (encT D.int))), .none, .none, .none, .none]) (env1 := [.val (.tup ([x, y].map .int)), .val (.int 4), .val (.lst (([[]] : List (List Int)).map (encT D.int))), .val (.lst (([[]] : List (List Int)).map (encT D.int))), .none, .none, .none, .none]) (avs := [.val (.int 4)]) (ds := [.int 4]) (items := rangeL 0 4) (by simp) (by simp) rfl).trans q
  have s1 : evS cf (.par [2, 3] [(.prim .lst [(.prim .tup [])]), (.prim .lst [(.prim .tup [])])]) [.val (.tup [.int x, .int y]), .val (.int 4), .none, .none, .none, .none, .none, .none] = .nxt [.val (.tup ([x, y].map .int)), .val (.int 4), .val (.lst (([[]] : List (List Int)).map (encT D.int))), .val (.lst (([[]] : List (List Int)).map (encT D.int))), .none, .none, .none, .none] := by
    simp [encT]
  rw [b__law_files, evB_cons', s1, SR.then_nxt, evB_cons', hfe, SR.then_nxt]
  simp
  rfl
abbrev bodyP : List S := [.set (.name 1) (.prim (.bin .Add) [(.var 1), (.prim .lst [(.prim .tup [(.con (.str [99, 117, 116])), (.prim .tup [(.var 2)])]), (.prim .tup [(.con (.str [112, 117, 116])), (.prim .tup [(.var 2)])])])])]
theorem edits_ok {n : Nat} {x y : Int} : run tbl (n + 1) 44 [.val (.tup [.int x, .int y])] = .ok (.lst ((editsL x y).map te)) [] := by
  rw [run_eq (d := ⟨1, 9, b__law_all_edits⟩) rfl rfl]
  generalize run tbl n = cf
  show fin 44 [.val (.tup [.int x, .int y])] (evB cf b__law_all_edits [.val (.tup [.int x, .int y]), .none, .none, .none, .none, .none, .none, .none, .none]) = _
  obtain ⟨y3, y4, y5, y6, q⟩ := turnsA (cf := cf) (e := ed) (ks := prs x y) (p0 := .val (.tup [.int x, .int y])) (p2 := .val (.int y)) (by simp [prs]) 3 0 [[]] [[]] .none .none .none .non .non .non (by decide) (by simp)
  have hfe := (for_eq (cf := cf) (t := .name 5) (k := .range) (body := outA) (src := [.con (.int 3)]) (env := [.val (.tup [.int x, .int y]), .val (.lst ((prs x y).map ed)), .val (.int y), .val (.lst (([[]] : List (List Ed)).map (encT ed))), .val (.lst (([[]] : List (List Ed)).map (encT ed))), .none, .none, .none, .none]) (env1 := [.val (.tup [.int x, .int y]), .val (.lst ((prs x y).map ed)), .val (.int y), .val (.lst (([[]] : List (List Ed)).map (encT ed))), .val (.lst (([[]] : List (List Ed)).map (encT ed))), .none, .none, .none, .none]) (avs := [.val (.int 3)]) (ds := [.int 3]) (items := rangeL 0 3) (by simp) (by simp) rfl).trans q
  have hc1 := pv_catl (a := [D.tup [.str [107, 101, 101, 112], .int 1], .tup [.str [107, 101, 101, 112], .int 2]]) (b := [.tup [.str [99, 117, 116], .tup [.int x]], .tup [.str [112, 117, 116], .tup [.int x]]]) (by simp)
  have hc2 := pv_catl (a := [D.tup [.str [107, 101, 101, 112], .int 1], .tup [.str [107, 101, 101, 112], .int 2], .tup [.str [99, 117, 116], .tup [.int x]], .tup [.str [112, 117, 116], .tup [.int x]]]) (b := [.tup [.str [99, 117, 116], .tup [.int y]], .tup [.str [112, 117, 116], .tup [.int y]]]) (by simp)
  simp only [List.cons_append, List.nil_append] at hc1 hc2
  have s1 : evS cf (.set (.name 1) (.prim .lst [(.prim .tup [(.con (.str [107, 101, 101, 112])), (.con (.int 1))]), (.prim .tup [(.con (.str [107, 101, 101, 112])), (.con (.int 2))])])) [.val (.tup [.int x, .int y]), .none, .none, .none, .none, .none, .none, .none, .none] = .nxt [.val (.tup [.int x, .int y]), .val (.lst [.tup [.str [107, 101, 101, 112], .int 1], .tup [.str [107, 101, 101, 112], .int 2]]), .none, .none, .none, .none, .none, .none, .none] := by
    simp
  have hfp := for_eq (cf := cf) (t := .name 2) (k := .seq) (body := bodyP) (src := [.var 0]) (env := [.val (.tup [.int x, .int y]), .val (.lst [.tup [.str [107, 101, 101, 112], .int 1], .tup [.str [107, 101, 101, 112], .int 2]]), .none, .none, .none, .none, .none, .none, .none]) (env1 := [.val (.tup [.int x, .int y]), .val (.lst [.tup [.str [107, 101, 101, 112], .int 1], .tup [.str [107, 101, 101, 112], .int 2]]), .none, .none, .none, .none, .none, .none, .none]) (avs := [.val (.tup [.int x, .int y])]) (ds := [.tup [.int x, .int y]]) (items := [.int x, .int y]) (by simp) (by simp) rfl
  have s2 : forGo (fun d e => (ofOptS (asg e (.name 2) d)).then fun e1 => evB cf bodyP e1) [.int x, .int y] [.val (.tup [.int x, .int y]), .val (.lst [.tup [.str [107, 101, 101, 112], .int 1], .tup [.str [107, 101, 101, 112], .int 2]]), .none, .none, .none, .none, .none, .none, .none] = .nxt [.val (.tup [.int x, .int y]), .val (.lst ((prs x y).map ed)), .val (.int y), .none, .none, .none, .none, .none, .none] := by
    rw [forGo_cons (e' := [.val (.tup [.int x, .int y]), .val (.lst [D.tup [.str [107, 101, 101, 112], .int 1], .tup [.str [107, 101, 101, 112], .int 2], .tup [.str [99, 117, 116], .tup [.int x]], .tup [.str [112, 117, 116], .tup [.int x]]]), .val (.int x), .none, .none, .none, .none, .none, .none]) (by simp [hc1]), forGo_cons (e' := [.val (.tup [.int x, .int y]), .val (.lst ((prs x y).map ed)), .val (.int y), .none, .none, .none, .none, .none, .none]) (by
      simp [hc2]
      rfl)]
    rfl
  rw [s2] at hfp
  have s3 : evS cf (.par [3, 4] [(.prim .lst [(.prim .tup [])]), (.prim .lst [(.prim .tup [])])]) [.val (.tup [.int x, .int y]), .val (.lst ((prs x y).map ed)), .val (.int y), .none, .none, .none, .none, .none, .none] = .nxt [.val (.tup [.int x, .int y]), .val (.lst ((prs x y).map ed)), .val (.int y), .val (.lst (([[]] : List (List Ed)).map (encT ed))), .val (.lst (([[]] : List (List Ed)).map (encT ed))), .none, .none, .none, .none] := by
    simp [encT]
  rw [b__law_all_edits, evB_cons', s1, SR.then_nxt, evB_cons', hfp, SR.then_nxt, evB_cons', s3, SR.then_nxt, evB_cons', hfe, SR.then_nxt]
  simp
  rfl
theorem files_all {x y : Int} (hx : 0 ≤ x ∧ x ≤ 255) (hy : 0 ≤ y ∧ y ≤ 255) : ∀ u ∈ filesL x y, Oct u ∧ u.length ≤ 4 := by
  intro u hu
  obtain ⟨h1, h2⟩ := grow_all (ks := [x, y]) (L := 4) 4 [[]] [[]] (by simp) (by simp) u hu
  refine ⟨fun o ho => ?_, h2⟩
  have := h1 o ho
  simp at this
  rcases this with rfl | rfl
  · exact hx
  · exact hy
theorem edits_all {x y : Int} : ∀ E ∈ editsL x y, (∀ e ∈ E, e ∈ prs x y) ∧ E.length ≤ 3 := grow_all (ks := prs x y) (L := 3) 3 [[]] [[]] (by simp) (by simp)
theorem files_len {x y : Int} : (filesL x y).length ≤ 100000 := by
  have := grow_len (ks := [x, y]) (by simp) 4 [[]] [[]]
  have e : ([[]] : List (List Int)).length + ([[]] : List (List Int)).length * 13 ^ 4 ≤ 100000 := by decide
  exact Nat.le_trans this e
/-! ### the loops of the law -/
abbrev innerP : List S := [.ifs (.neg (.call 42 [(.var 5), (.var 6)])) [.ret (some (.con (.bl false)))] []]
theorem pairs_in {cf : CallF} {p0 p1 p2 p3 p4 : Sl} {r : Mp.Env} {a : List Int} : ∀ (fs : List (List Int)) (x6 : Sl), Wr x6 → (∀ b ∈ fs, cf 42 [.val (tu a), .val (tu b)] = .ok (.bl true) []) →
    ∃ y6, Wr y6 ∧ forGo (fun d e => (ofOptS (asg e (.name 6) d)).then fun e1 => evB cf innerP e1) (fs.map tu) (p0 :: p1 :: p2 :: p3 :: p4 :: .val (tu a) :: x6 :: r) = .nxt (p0 :: p1 :: p2 :: p3 :: p4 :: .val (tu a) :: y6 :: r)
  | [], x6, h6, _ => ⟨x6, h6, rfl⟩
  | b :: fs, x6, h6, h => by
    obtain ⟨y6, q1, q⟩ := pairs_in (p0 := p0) (p1 := p1) (p2 := p2) (p3 := p3) (p4 := p4) (r := r) fs (.val (tu b)) (.val _) fun c hc => h c (List.mem_cons_of_mem _ hc)
    refine ⟨y6, q1, ?_⟩
    rw [← q, List.map_cons]
    refine forGo_cons ?_
    have := h b (List.mem_cons_self ..)
    simp [put_wr h6, this]
abbrev outerP : List S := [.for (.name 6) .seq [(.var 4)] innerP]
theorem pairs_out {cf : CallF} {p0 p1 p2 p3 : Sl} {r : Mp.Env} {gs : List (List Int)} : ∀ (fs : List (List Int)) (x5 x6 : Sl), Wr x5 → Wr x6 → (∀ a ∈ fs, ∀ b ∈ gs, cf 42 [.val (tu a), .val (tu b)] = .ok (.bl true) []) →
    ∃ y5 y6, Wr y5 ∧ Wr y6 ∧ forGo (fun d e => (ofOptS (asg e (.name 5) d)).then fun e1 => evB cf outerP e1) (fs.map tu) (p0 :: p1 :: p2 :: p3 :: .val (.lst (gs.map tu)) :: x5 :: x6 :: r) = .nxt (p0 :: p1 :: p2 :: p3 :: .val (.lst (gs.map tu)) :: y5 :: y6 :: r)
  | [], x5, x6, h5, h6, _ => ⟨x5, x6, h5, h6, rfl⟩
  | a :: fs, x5, x6, h5, h6, h => by
    obtain ⟨z6, g1, g⟩ := pairs_in (cf := cf) (p0 := p0) (p1 := p1) (p2 := p2) (p3 := p3) (p4 := .val (.lst (gs.map tu))) (r := r) (a := a) gs x6 h6 (h a (List.mem_cons_self ..))
    obtain ⟨y5, y6, q1, q2, q⟩ := pairs_out (p0 := p0) (p1 := p1) (p2 := p2) (p3 := p3) (r := r) (gs := gs) fs (.val (tu a)) z6 (.val _) g1 fun c hc => h c (List.mem_cons_of_mem _ hc)
    refine ⟨y5, y6, q1, q2, ?_⟩
    rw [← q, List.map_cons]
    refine forGo_cons ?_
    have hfe := (for_eq (cf := cf) (t := .name 6) (k := .seq) (body := innerP) (src := [.var 4]) (env := p0 :: p1 :: p2 :: p3 :: .val (.lst (gs.map tu)) :: .val (tu a) :: x6 :: r) (env1 := p0 :: p1 :: p2 :: p3 :: .val (.lst (gs.map tu)) :: .val (tu a) :: x6 :: r) (avs := [.val (.lst (gs.map tu))]) (ds := [.lst (gs.map tu)]) (items := gs.map tu) (by simp) (by simp) rfl).trans g
    have s1 : asg (p0 :: p1 :: p2 :: p3 :: .val (.lst (gs.map tu)) :: x5 :: x6 :: r) (.name 5) (tu a) = some (p0 :: p1 :: p2 :: p3 :: .val (.lst (gs.map tu)) :: .val (tu a) :: x6 :: r) := by
      simp [put_wr h5]
    rw [s1, ofOptS_some, SR.then_nxt, evB_cons', hfe, SR.then_nxt]
    simp
theorem mem_cut {α : Type} {xs : List α} {lo hi : Option Int} {x : α} (h : x ∈ cut xs lo hi) : x ∈ xs := by
  unfold cut at h
  exact List.mem_of_mem_drop (List.mem_of_mem_take h)
theorem gd_ans (o : Option (List Int)) : gd 64 (ans o) = true := by
  cases o with
  | none => rfl
  | some u => exact gd_mono (by decide) (tu_gd u)
theorem ans_ne (o : Option (List Int)) : pev (.cmp .NotEq) [ans o, ans o] = some (.bl false) := by
  rw [pv_ne (gd_ans o) (gd_ans o), eqv_refl (gd_ans o)]
  rfl
theorem pv_neb {p : Bool} : pev (.cmp .NotEq) [.bl p, .bl p] = some (.bl false) := by
  cases p <;> (first | rfl | kernel_rfl)
theorem ne_l0 : pev (.cmp .NotEq) [.lst [], .lst []] = some (.bl false) := by first | rfl | kernel_rfl
def cntE (E : List Ed) : Nat := (E.filter fun e => knd e != 0).length
theorem cnt_cost {x y : Int} : ∀ {E : List Ed}, (∀ e ∈ E, e ∈ prs x y) → costE E = cntE E
  | [], _ => rfl
  | e :: E, h => by
    have ih := cnt_cost (E := E) fun f hf => h f (List.mem_cons_of_mem _ hf)
    have he := h e (List.mem_cons_self ..)
    unfold cntE at *
    cases e with
    | keep n => exact ih
    | cut u =>
      simp [prs] at he
      have hl : u.length = 1 := by rcases he with rfl | rfl <;> rfl
      show u.length + costE E = _
      rw [List.filter_cons]
      simp [knd, hl, ih]
      omega
    | put u =>
      simp [prs] at he
      have hl : u.length = 1 := by rcases he with rfl | rfl <;> rfl
      show u.length + costE E = _
      rw [List.filter_cons]
      simp [knd, hl, ih]
      omega
theorem prs_ok {x y : Int} (hx : 0 ≤ x ∧ x ≤ 255) (hy : 0 ≤ y ∧ y ≤ 255) : ∀ e ∈ prs x y, okE 1000 e := by
  intro e he
  simp [prs] at he
  rcases he with rfl | rfl | rfl | rfl | rfl | rfl <;> simp [okE, hx, hy]
theorem put_le {x y : Int} : ∀ {E : List Ed}, (∀ e ∈ E, e ∈ prs x y) → putN E ≤ 2 * E.length
  | [], _ => Nat.le_refl _
  | e :: E, h => by
    have ih := put_le (E := E) fun f hf => h f (List.mem_cons_of_mem _ hf)
    have he := h e (List.mem_cons_self ..)
    simp [prs] at he
    rcases he with rfl | rfl | rfl | rfl | rfl | rfl <;> (simp [putN]; omega)
end K16
set_option Elab.async false
set_option linter.all false
set_option maxRecDepth 100000
set_option maxHeartbeats 8000000
namespace K16
open PySem Mp Stp
abbrev cmpB : E := .comp [10] (.name 10) .seq [(.prim (.slc false true) [(.var 4), (.con (.int 15))])] [(.prim (.cmp .NotEq) [(.call 26 [(.var 10), (.var 7)]), (.call 38 [(.var 10), (.var 7)])])] (.var 10)
abbrev cmpC : E := .comp [11, 12] (.tup [(.name 11), (.name 12)]) .seq [(.var 7)] [(.prim (.cmp .NotEq) [(.var 11), (.con (.str [107, 101, 101, 112]))])] (.con (.int 1))
abbrev ifB : S := .ifs (.prim (.cmp .NotEq) [cmpB, (.prim .lst [])]) [.ret (some (.con (.bl false)))] []
abbrev ifC : S := .ifs (.prim (.cmp .NotEq) [(.call 28 [(.var 7)]), (.prim (.call .len) [cmpC])]) [.ret (some (.con (.bl false)))] []
abbrev ifA : S := .ifs (.prim (.cmp .NotEq) [(.call 22 [(.var 7)]), (.call 46 [(.var 7)])]) [.ret (some (.con (.bl false)))] []
abbrev bodyE : List S := [ifA, .ifs (.call 46 [(.var 7)]) [ifB, ifC] []]
abbrev stE (p0 p1 p2 p3 : Sl) (fs : List (List Int)) (x5 x6 x7 x8 x9 : Sl) : Mp.Env := [p0, p1, p2, p3, .val (.lst (fs.map tu)), x5, x6, x7, x8, x9, .none, .none, .none]
theorem slcF (fs : List (List Int)) : pev (.slc false true) [.lst (fs.map tu), .int 15] = some (.lst ((cut fs none (some 15)).map tu)) := by
  show some (D.lst (cut (fs.map tu) none (some 15))) = _
  rw [cut_map]
theorem cut_len {α : Type} (xs : List α) (lo hi : Option Int) : (cut xs lo hi).length ≤ xs.length := by
  unfold cut
  rw [List.length_take, List.length_drop]
  omega
theorem cmpB_ok {cf : CallF} {p0 p1 p2 p3 x5 x6 x8 x9 : Sl} {fs : List (List Int)} {E : List Ed} (hl : fs.length ≤ 100000) (h : ∀ f ∈ fs, ∃ o, cf 26 [.val (tu f), .val (te E)] = .ok (ans o) [] ∧ cf 38 [.val (tu f), .val (te E)] = .ok (ans o) []) :
    evE cf cmpB (stE p0 p1 p2 p3 fs x5 x6 (.val (te E)) x8 x9) = .ok (.lst []) (stE p0 p1 p2 p3 fs x5 x6 (.val (te E)) x8 x9) := by
  have hcl := cut_len fs none (some 15)
  have := comp_pure (cf := cf) (own := [10]) (tg := .name 10) (cnd := [(.prim (.cmp .NotEq) [(.call 26 [(.var 10), (.var 7)]), (.call 38 [(.var 10), (.var 7)])])]) (elt := .var 10) (src := [(.prim (.slc false true) [(.var 4), (.con (.int 15))])]) (k := .seq) (env := stE p0 p1 p2 p3 fs x5 x6 (.val (te E)) x8 x9) (env1 := stE p0 p1 p2 p3 fs x5 x6 (.val (te E)) x8 x9) (fun _ => none) (avs := [.val (.lst ((cut fs none (some 15)).map tu))]) (ds := [.lst ((cut fs none (some 15)).map tu)]) (items := (cut fs none (some 15)).map tu)
    (by simp [slcF]) (by simp) rfl rfl (by rw [List.length_map]; omega) fun d hd => by
      obtain ⟨f, hf, rfl⟩ := List.mem_map.mp hd
      obtain ⟨o, h1, h2⟩ := h f (mem_cut hf)
      refine ⟨[p0, p1, p2, p3, .val (.lst (fs.map tu)), x5, x6, .val (te E), x8, x9, .val (tu f), .none, .none], ?_, rfl⟩
      simp [stepW, Mp.wipe, h1, h2, ans_ne]
  rw [this]
  congr 2
  generalize List.map tu (cut fs none (some 15)) = l
  induction l with
  | nil => rfl
  | cons x l ih => exact ih
def notK : D → Option D := fun d => match d with
  | .tup (.str w :: _) => if w = [107, 101, 101, 112] then none else some (.int 1)
  | _ => none
theorem notK_len : ∀ E : List Ed, ((E.map ed).filterMap notK).length = cntE E
  | [] => rfl
  | e :: E => by
    have ih := notK_len E
    unfold cntE at *
    cases e with
    | keep n => exact ih
    | cut u =>
      show ((E.map ed).filterMap notK).length + 1 = (List.filter _ E).length + 1
      rw [ih]
    | put u =>
      show ((E.map ed).filterMap notK).length + 1 = (List.filter _ E).length + 1
      rw [ih]
theorem cmpC_ok {cf : CallF} {p0 p1 p2 p3 x5 x6 x8 x9 : Sl} {fs : List (List Int)} {E : List Ed} (hl : E.length ≤ 100000) :
    evE cf cmpC (stE p0 p1 p2 p3 fs x5 x6 (.val (te E)) x8 x9) = .ok (.lst ((E.map ed).filterMap notK)) (stE p0 p1 p2 p3 fs x5 x6 (.val (te E)) x8 x9) := by
  refine comp_pure (cf := cf) (own := [11, 12]) (tg := .tup [(.name 11), (.name 12)]) (cnd := [(.prim (.cmp .NotEq) [(.var 11), (.con (.str [107, 101, 101, 112]))])]) (elt := .con (.int 1)) (src := [.var 7]) (k := .seq) (env := stE p0 p1 p2 p3 fs x5 x6 (.val (te E)) x8 x9) (env1 := stE p0 p1 p2 p3 fs x5 x6 (.val (te E)) x8 x9) notK (avs := [.val (te E)]) (ds := [te E]) (items := E.map ed) (by simp) (by simp) rfl rfl (by rw [List.length_map]; omega) fun d hd => ?_
  obtain ⟨e, he, rfl⟩ := List.mem_map.mp hd
  refine ⟨[p0, p1, p2, p3, .val (.lst (fs.map tu)), x5, x6, .val (te E), x8, x9, .none, .val (.str (word e)), .val (arg e)], ?_, rfl⟩
  have w1 := pv_nes ck ck
  have w2 := pv_nes cc ck
  have w3 := pv_nes cp ck
  cases e with
  | keep n => simp [stepW, Mp.wipe, ed, word, arg, w1, notK]
  | cut u => simp [stepW, Mp.wipe, ed, word, arg, w2, notK]
  | put u => simp [stepW, Mp.wipe, ed, word, arg, w3, notK]
theorem edits_loop {cf : CallF} {p0 p1 p2 p3 x5 x6 x8 x9 : Sl} {fs : List (List Int)} (hf : fs.length ≤ 100000) : ∀ (Es : List (List Ed)) (x7 : Sl), Wr x7 →
    (∀ E ∈ Es, E.length ≤ 100000 ∧ cf 22 [.val (te E)] = .ok (.bl (adj E)) [] ∧ cf 46 [.val (te E)] = .ok (.bl (adj E)) [] ∧ (adj E = true → (∀ f ∈ fs, ∃ o, cf 26 [.val (tu f), .val (te E)] = .ok (ans o) [] ∧ cf 38 [.val (tu f), .val (te E)] = .ok (ans o) []) ∧ cf 28 [.val (te E)] = .ok (.int (cntE E)) [])) →
    ∃ y7, Wr y7 ∧ forGo (fun d e => (ofOptS (asg e (.name 7) d)).then fun e1 => evB cf bodyE e1) (Es.map te) (stE p0 p1 p2 p3 fs x5 x6 x7 x8 x9) = .nxt (stE p0 p1 p2 p3 fs x5 x6 y7 x8 x9)
  | [], x7, h7, _ => ⟨x7, h7, rfl⟩
  | E :: Es, x7, h7, h => by
    obtain ⟨y7, q1, q⟩ := edits_loop (cf := cf) (p0 := p0) (p1 := p1) (p2 := p2) (p3 := p3) (x5 := x5) (x6 := x6) (x8 := x8) (x9 := x9) hf Es (.val (te E)) (.val _) fun F hF => h F (List.mem_cons_of_mem _ hF)
    refine ⟨y7, q1, ?_⟩
    rw [← q, List.map_cons]
    refine forGo_cons ?_
    obtain ⟨g1, g2, g3, g4⟩ := h E (List.mem_cons_self ..)
    have s1 : asg (stE p0 p1 p2 p3 fs x5 x6 x7 x8 x9) (.name 7) (te E) = some (stE p0 p1 p2 p3 fs x5 x6 (.val (te E)) x8 x9) := by
      simp [put_wr h7]
    have s2 : evS cf ifA (stE p0 p1 p2 p3 fs x5 x6 (.val (te E)) x8 x9) = .nxt (stE p0 p1 p2 p3 fs x5 x6 (.val (te E)) x8 x9) := by
      simp [g2, g3, pv_neb]
    rw [s1, ofOptS_some, SR.then_nxt, evB_cons', s2, SR.then_nxt]
    cases ha : adj E with
    | false =>
      rw [ha] at g3
      simp [g3]
    | true =>
      obtain ⟨g5, g6⟩ := g4 ha
      rw [ha] at g3
      have hb := cmpB_ok (cf := cf) (p0 := p0) (p1 := p1) (p2 := p2) (p3 := p3) (x5 := x5) (x6 := x6) (x8 := x8) (x9 := x9) hf g5
      have hc := cmpC_ok (cf := cf) (p0 := p0) (p1 := p1) (p2 := p2) (p3 := p3) (x5 := x5) (x6 := x6) (x8 := x8) (x9 := x9) (fs := fs) g1
      have s3 : evS cf ifB (stE p0 p1 p2 p3 fs x5 x6 (.val (te E)) x8 x9) = .nxt (stE p0 p1 p2 p3 fs x5 x6 (.val (te E)) x8 x9) := by
        rw [evS_if, ev_prim, evA_cons']
        simp [hb, ne_l0]
      have s4 : evS cf ifC (stE p0 p1 p2 p3 fs x5 x6 (.val (te E)) x8 x9) = .nxt (stE p0 p1 p2 p3 fs x5 x6 (.val (te E)) x8 x9) := by
        rw [evS_if, ev_prim, evA_cons']
        have hl := notK_len E
        simp [g6, hc, hl, -List.filterMap_map]
      have s5 : evS cf (.ifs (.call 46 [(.var 7)]) [ifB, ifC] []) (stE p0 p1 p2 p3 fs x5 x6 (.val (te E)) x8 x9) = .nxt (stE p0 p1 p2 p3 fs x5 x6 (.val (te E)) x8 x9) := by
        have : truthR (evE cf (.call 46 [(.var 7)]) (stE p0 p1 p2 p3 fs x5 x6 (.val (te E)) x8 x9)) = .ok true (stE p0 p1 p2 p3 fs x5 x6 (.val (te E)) x8 x9) := by
          simp [g3]
        rw [evS_if, this]
        show evB cf [ifB, ifC] _ = _
        rw [evB_cons', s3, SR.then_nxt, evB_cons', s4, SR.then_nxt, evB_nil']
      rw [evB_cons', s5, SR.then_nxt, evB_nil']
end K16
set_option Elab.async false
set_option linter.all false
set_option maxRecDepth 100000
set_option maxHeartbeats 8000000
namespace K16
open PySem Mp Stp
theorem walk_l : ∀ u : List Int, walk u [] = List.replicate u.length C
  | [] => by unfold walk; rfl
  | x :: u => by unfold walk; rw [walk_l u]; rfl
theorem walk_r : ∀ u : List Int, walk [] u = List.replicate u.length P
  | [] => by unfold walk; rfl
  | x :: u => by unfold walk; rw [walk_r u]; rfl
theorem sof_m {a b : List Int} {p t : Nat} {u v : List Int} (hp : pre a b = p) (ht : tail a b = t) (h1 : (a.drop p).take (a.length - t - p) = u) (h2 : (b.drop p).take (b.length - t - p) = v) (hu : u.length ≤ 100) (hv : v.length ≤ 100) : Sof a b = List.replicate p K ++ (walk u v ++ List.replicate t K) := by
  have hl : lft a b = u := by unfold lft; rw [ht, hp, h1]
  have hr : rgt a b = v := by unfold rgt; rw [ht, hp, h2]
  have hb : ¬ big a b := by
    unfold big
    rw [hl, hr]
    have : (u.length + 1) * (v.length + 1) ≤ 101 * 101 := Nat.mul_le_mul (by omega) (by omega)
    omega
  have hm : mid a b = walk u v := by
    unfold mid
    rw [if_neg hb, hl, hr]
  unfold Sof
  rw [hm, ht, hp]
theorem sof_l {a b : List Int} {p t : Nat} {u : List Int} (hp : pre a b = p) (ht : tail a b = t) (h1 : (a.drop p).take (a.length - t - p) = u) (h2 : (b.drop p).take (b.length - t - p) = []) (hu : u.length ≤ 100) : Sof a b = List.replicate p K ++ (List.replicate u.length C ++ List.replicate t K) := by
  rw [sof_m hp ht h1 h2 hu (by simp), walk_l]
theorem sof_r {a b : List Int} {p t : Nat} {u : List Int} (hp : pre a b = p) (ht : tail a b = t) (h1 : (a.drop p).take (a.length - t - p) = []) (h2 : (b.drop p).take (b.length - t - p) = u) (hu : u.length ≤ 100) : Sof a b = List.replicate p K ++ (List.replicate u.length P ++ List.replicate t K) := by
  rw [sof_m hp ht h1 h2 (by simp) hu, walk_r]
theorem jn1 : jn (Sof [5, 5, 5] [5, 5]) [5, 5, 5] [5, 5] = [.keep 2, .cut [5]] := by
  rw [sof_l (p := 2) (t := 0) (u := [5]) (by decide) (by decide) (by decide) (by decide) (by decide)]
  rfl
theorem jn2 : jn (Sof [5, 6, 5] [5, 5]) [5, 6, 5] [5, 5] = [.keep 1, .cut [6], .keep 1] := by
  rw [sof_l (p := 1) (t := 1) (u := [6]) (by decide) (by decide) (by decide) (by decide) (by decide)]
  rfl
theorem jn3 : jn (Sof [5, 5] [5, 6, 5]) [5, 5] [5, 6, 5] = [.keep 1, .put [6], .keep 1] := by
  rw [sof_r (p := 1) (t := 1) (u := [6]) (by decide) (by decide) (by decide) (by decide) (by decide)]
  rfl
theorem jn5 : jn (Sof [0, 0, 0, 0] [0, 0, 0, 0, 0, 0]) [0, 0, 0, 0] [0, 0, 0, 0, 0, 0] = [.keep 4, .put [0, 0]] := by
  rw [sof_r (p := 4) (t := 0) (u := [0, 0]) (by decide) (by decide) (by decide) (by decide) (by decide)]
  rfl
theorem dist4 : dist [1, 2] [2, 1] = 2 := by
  rw [dist_ne (by decide), dist_eq, dist_eq, dist_nil, dist_nil']
  rfl
end K16
set_option Elab.async false
set_option linter.all false
set_option maxRecDepth 100000
set_option maxHeartbeats 8000000
namespace K16
open PySem Mp Stp
/-! ### the end of the law, and the law -/
abbrev toldS : S := .set (.name 8) (.prim .tup [(.call 24 [(.prim .tup [(.con (.int 5)), (.con (.int 5)), (.con (.int 5))]), (.prim .tup [(.con (.int 5)), (.con (.int 5))])]), (.call 24 [(.prim .tup [(.con (.int 5)), (.con (.int 6)), (.con (.int 5))]), (.prim .tup [(.con (.int 5)), (.con (.int 5))])]), (.call 24 [(.prim .tup [(.con (.int 5)), (.con (.int 5))]), (.prim .tup [(.con (.int 5)), (.con (.int 6)), (.con (.int 5))])]), (.call 24 [(.prim .tup [(.con (.int 1)), (.con (.int 2))]), (.prim .tup [(.con (.int 2)), (.con (.int 1))])]), (.call 24 [(.prim (.bin .Mult) [(.prim .tup [(.con (.int 0))]), (.con (.int 4))]), (.prim (.bin .Mult) [(.prim .tup [(.con (.int 0))]), (.con (.int 6))])])])
abbrev dueS : S := .set (.name 9) (.prim .tup [(.prim .tup [(.prim .tup [(.con (.str [107, 101, 101, 112])), (.con (.int 2))]), (.prim .tup [(.con (.str [99, 117, 116])), (.prim .tup [(.con (.int 5))])])]), (.prim .tup [(.prim .tup [(.con (.str [107, 101, 101, 112])), (.con (.int 1))]), (.prim .tup [(.con (.str [99, 117, 116])), (.prim .tup [(.con (.int 6))])]), (.prim .tup [(.con (.str [107, 101, 101, 112])), (.con (.int 1))])]), (.prim .tup [(.prim .tup [(.con (.str [107, 101, 101, 112])), (.con (.int 1))]), (.prim .tup [(.con (.str [112, 117, 116])), (.prim .tup [(.con (.int 6))])]), (.prim .tup [(.con (.str [107, 101, 101, 112])), (.con (.int 1))])])])
abbrev chkS : S := .ifs (.bop false [(.prim (.cmp .NotEq) [(.prim (.slc false true) [(.var 8), (.con (.int 3))]), (.var 9)]), (.prim (.cmp .NotEq) [(.call 28 [(.prim .idx [(.var 8), (.con (.int 3))])]), (.con (.int 2))]), (.prim (.cmp .NotEq) [(.prim .idx [(.var 8), (.con (.int 4))]), (.prim .tup [(.prim .tup [(.con (.str [107, 101, 101, 112])), (.con (.int 4))]), (.prim .tup [(.con (.str [112, 117, 116])), (.prim .tup [(.con (.int 0)), (.con (.int 0))])])])])]) [.ret (some (.con (.bl false)))] []
abbrev retS : S := .ret (some (.bop true [(.prim (.cmp .Eq) [(.call 26 [(.prim .tup [(.con (.int 1)), (.con (.int 2)), (.con (.int 3))]), (.prim .tup [(.prim .tup [(.con (.str [107, 101, 101, 112])), (.con (.int 1))]), (.prim .tup [(.con (.str [99, 117, 116])), (.prim .tup [(.con (.int 2))])]), (.prim .tup [(.con (.str [107, 101, 101, 112])), (.con (.int 1))])])]), (.prim .tup [(.con (.int 1)), (.con (.int 3))])]), (.prim (.cmp .Is) [(.call 26 [(.prim .tup [(.con (.int 1)), (.con (.int 2)), (.con (.int 3))]), (.prim .tup [(.prim .tup [(.con (.str [107, 101, 101, 112])), (.con (.int 2))])])]), (.con .non)]), (.prim (.cmp .Is) [(.call 26 [(.prim .tup [(.con (.int 1))]), (.prim .tup [(.prim .tup [(.con (.str [107, 101, 101, 112])), (.con (.int 2))])])]), (.con .non)])]))
def t1 : D := te [.keep 2, .cut [5]]
def t2 : D := te [.keep 1, .cut [6], .keep 1]
def t3 : D := te [.keep 1, .put [6], .keep 1]
def t5 : D := te [.keep 4, .put [0, 0]]
theorem neD {k : Nat} {d : D} (hk : k ≤ 64) (h : gd k d = true) : pev (.cmp .NotEq) [d, d] = some (.bl false) := by
  rw [pv_ne (gd_mono hk h) (gd_mono hk h), eqv_refl h]
  rfl
theorem eqD {k : Nat} {d : D} (hk : k ≤ 64) (h : gd k d = true) : pev (.cmp .Eq) [d, d] = some (.bl true) := by
  rw [pv_eq (gd_mono hk h) (gd_mono hk h), eqv_refl h]
abbrev E12 (p : List Sl) (x8 x9 : Sl) : Mp.Env := p ++ [x8, x9, .none, .none, .none]
theorem end_ok {cf : CallF} {p0 p1 p2 p3 p4 p5 p6 p7 : Sl} {e4 : D}
    (h1 : cf 24 [.val (.tup [.int 5, .int 5, .int 5]), .val (.tup [.int 5, .int 5])] = .ok t1 [])
    (h2 : cf 24 [.val (.tup [.int 5, .int 6, .int 5]), .val (.tup [.int 5, .int 5])] = .ok t2 [])
    (h3 : cf 24 [.val (.tup [.int 5, .int 5]), .val (.tup [.int 5, .int 6, .int 5])] = .ok t3 [])
    (h4 : cf 24 [.val (.tup [.int 1, .int 2]), .val (.tup [.int 2, .int 1])] = .ok e4 [])
    (h5 : cf 24 [.val (.tup [.int 0, .int 0, .int 0, .int 0]), .val (.tup [.int 0, .int 0, .int 0, .int 0, .int 0, .int 0])] = .ok t5 [])
    (h6 : cf 28 [.val e4] = .ok (.int 2) [])
    (h7 : cf 26 [.val (.tup [.int 1, .int 2, .int 3]), .val (.tup [.tup [.str [107, 101, 101, 112], .int 1], .tup [.str [99, 117, 116], .tup [.int 2]], .tup [.str [107, 101, 101, 112], .int 1]])] = .ok (.tup [.int 1, .int 3]) [])
    (h8 : cf 26 [.val (.tup [.int 1, .int 2, .int 3]), .val (.tup [.tup [.str [107, 101, 101, 112], .int 2]])] = .ok .non [])
    (h9 : cf 26 [.val (.tup [.int 1]), .val (.tup [.tup [.str [107, 101, 101, 112], .int 2]])] = .ok .non []) :
    ∃ e', evB cf [toldS, dueS, chkS, retS] [p0, p1, p2, p3, p4, p5, p6, p7, .none, .none, .none, .none, .none] = .ret (.bl true) e' := by
  have m4 : pev (.bin .Mult) [.tup [.int 0], .int 4] = some (.tup [.int 0, .int 0, .int 0, .int 0]) := rfl
  have m6 : pev (.bin .Mult) [.tup [.int 0], .int 6] = some (.tup [.int 0, .int 0, .int 0, .int 0, .int 0, .int 0]) := rfl
  have s1 : evS cf toldS [p0, p1, p2, p3, p4, p5, p6, p7, .none, .none, .none, .none, .none] = .nxt [p0, p1, p2, p3, p4, p5, p6, p7, .val (.tup [t1, t2, t3, e4, t5]), .none, .none, .none, .none] := by
    simp [h1, h2, h3, h4, h5, m4, m6]
  have s2 : evS cf dueS [p0, p1, p2, p3, p4, p5, p6, p7, .val (.tup [t1, t2, t3, e4, t5]), .none, .none, .none, .none] = .nxt [p0, p1, p2, p3, p4, p5, p6, p7, .val (.tup [t1, t2, t3, e4, t5]), .val (.tup [t1, t2, t3]), .none, .none, .none] := by
    simp
    exact ⟨rfl, rfl, rfl⟩
  have k1 : pev (.slc false true) [.tup [t1, t2, t3, e4, t5], .int 3] = some (.tup [t1, t2, t3]) := rfl
  have k2 : pev .idx [.tup [t1, t2, t3, e4, t5], .int 3] = some e4 := rfl
  have k3 : pev .idx [.tup [t1, t2, t3, e4, t5], .int 4] = some t5 := rfl
  have k4 : pev (.cmp .NotEq) [.tup [t1, t2, t3], .tup [t1, t2, t3]] = some (.bl false) := neD (k := 4) (by decide) rfl
  have k5 : pev (.cmp .NotEq) [t5, .tup [.tup [.str [107, 101, 101, 112], .int 4], .tup [.str [112, 117, 116], .tup [.int 0, .int 0]]]] = some (.bl false) := neD (k := 3) (d := t5) (by decide) rfl
  have s3 : evS cf chkS [p0, p1, p2, p3, p4, p5, p6, p7, .val (.tup [t1, t2, t3, e4, t5]), .val (.tup [t1, t2, t3]), .none, .none, .none] = .nxt [p0, p1, p2, p3, p4, p5, p6, p7, .val (.tup [t1, t2, t3, e4, t5]), .val (.tup [t1, t2, t3]), .none, .none, .none] := by
    simp [k1, k2, k3, k4, k5, h6]
  have k6 : pev (.cmp .Eq) [.tup [.int 1, .int 3], .tup [.int 1, .int 3]] = some (.bl true) := eqD (k := 1) (by decide) rfl
  have k7 : pev (.cmp .Is) [.non, .non] = some (.bl true) := rfl
  refine ⟨[p0, p1, p2, p3, p4, p5, p6, p7, .val (.tup [t1, t2, t3, e4, t5]), .val (.tup [t1, t2, t3]), .none, .none, .none], ?_⟩
  rw [evB_cons', s1, SR.then_nxt, evB_cons', s2, SR.then_nxt, evB_cons', s3, SR.then_nxt]
  simp [h7, h8, h9, k6, k7]
theorem roll16 {n : Nat} {cup : D} (hc : Cup cup) : ∃ r cup', run tbl (n + 1) 32 [.io cup, .val (.int 128)] = .ok (.int r) [cup'] ∧ 0 ≤ r ∧ r < 128 ∧ Cup cup' :=
  roll_ok (a := 32797) (b := 8735) (c := 373) (d := 993) (f := 32) rfl rfl (by decide) (by decide) (by decide) (by decide) hc (by decide) (by decide)
theorem cup16 {n : Nat} {ns : List Int} (hn : ns.length ≤ 63) : ∃ cup, run tbl (n + 1) 31 [.val (.scr ns)] = .ok cup [] ∧ Cup cup :=
  cup_ok (a := 139) (b := 517) (c := 5233) (d := 2079430227) (e := 321) (f := 31) rfl (by decide) (by decide) (by decide) (by decide) hn
theorem law_parts : b_law = [.own 1 (.call 31 [(.var 0)]), .par [2, 3] [(.prim (.bin .Mult) [(.con (.int 2)), (.call 32 [(.peek 1), (.con (.int 128))])]), (.prim (.bin .Add) [(.prim (.bin .Mult) [(.con (.int 2)), (.call 32 [(.peek 1), (.con (.int 128))])]), (.con (.int 1))])], .set (.name 4) (.call 34 [(.prim .tup [(.var 2), (.var 3)]), (.con (.int 4))]), .for (.name 5) .seq [(.var 4)] outerP, .for (.name 7) .seq [(.call 44 [(.prim .tup [(.var 2), (.var 3)])])] bodyE, toldS, dueS, chkS, retS] := rfl
theorem plain (ns : List Int) (hn : ns.length ≤ 63) : ∃ outs, run tbl (12 + 1) (2 * 24) [.val (.scr ns)] = .ok (.bl true) outs := by
  obtain ⟨c, e1, hc⟩ := cup16 (n := 11) hn
  obtain ⟨r1, c1, e2, a1, b1, hc1⟩ := roll16 (n := 11) hc
  obtain ⟨r2, c2, e3, a2, b2, hc2⟩ := roll16 (n := 11) hc1
  obtain ⟨x, hX⟩ : ∃ x, 2 * r1 = x := ⟨_, rfl⟩
  obtain ⟨y, hY⟩ : ∃ y, 2 * r2 + 1 = y := ⟨_, rfl⟩
  have hx : 0 ≤ x ∧ x ≤ 255 := by omega
  have hy : 0 ≤ y ∧ y ≤ 255 := by omega
  have hfi := files_ok (n := 11) (x := x) (y := y)
  have hed := edits_ok (n := 11) (x := x) (y := y)
  have hfa := files_all hx hy
  have hfl := files_len (x := x) (y := y)
  have hea := edits_all (x := x) (y := y)
  have hpa : ∀ a ∈ filesL x y, ∀ b ∈ filesL x y, run tbl 12 42 [.val (tu a), .val (tu b)] = .ok (.bl true) [] := fun a ha b hb => by
    obtain ⟨oa, la⟩ := hfa a ha
    obtain ⟨ob, lb⟩ := hfa b hb
    exact pair_ok (n := 6) oa ob (by omega) (by omega)
  have hE : ∀ E ∈ editsL x y, E.length ≤ 100000 ∧ run tbl 12 22 [.val (te E)] = .ok (.bl (adj E)) [] ∧ run tbl 12 46 [.val (te E)] = .ok (.bl (adj E)) [] ∧ (adj E = true → (∀ f ∈ filesL x y, ∃ o, run tbl 12 26 [.val (tu f), .val (te E)] = .ok (ans o) [] ∧ run tbl 12 38 [.val (tu f), .val (te E)] = .ok (ans o) []) ∧ run tbl 12 28 [.val (te E)] = .ok (.int (cntE E)) []) := fun E hE => by
    obtain ⟨h1, h2⟩ := hea E hE
    have ok : Ok 1000 E := fun e he => prs_ok hx hy e (h1 e he)
    have hp := put_le h1
    refine ⟨by omega, is_ok (n := 8) ok (by omega), isL_ok (n := 11) (by omega), fun ha => ⟨fun f hf => ?_, ?_⟩⟩
    · obtain ⟨of, lf⟩ := hfa f hf
      exact ⟨app E f [], by_ok (n := 7) of (by omega) ok (by omega) ha (by omega), led_ok (n := 11) (by omega) ok (by omega)⟩
    · rw [← cnt_cost h1]
      exact price_ok (n := 7) ok (by omega) ha
  have oct3 : ∀ a b c : Int, 0 ≤ a ∧ a ≤ 255 → 0 ≤ b ∧ b ≤ 255 → 0 ≤ c ∧ c ≤ 255 → Oct [a, b, c] := fun a b c h1 h2 h3 o ho => by
    simp at ho
    rcases ho with rfl | rfl | rfl
    · exact h1
    · exact h2
    · exact h3
  have oct2 : ∀ a b : Int, 0 ≤ a ∧ a ≤ 255 → 0 ≤ b ∧ b ≤ 255 → Oct [a, b] := fun a b h1 h2 o ho => by
    simp at ho
    rcases ho with rfl | rfl
    · exact h1
    · exact h2
  have oct0 : ∀ k : Nat, Oct (List.replicate k 0) := fun k o ho => by
    rw [List.eq_of_mem_replicate ho]
    decide
  have o555 := oct3 5 5 5 (by decide) (by decide) (by decide)
  have o565 := oct3 5 6 5 (by decide) (by decide) (by decide)
  have o55 := oct2 5 5 (by decide) (by decide)
  have o12 := oct2 1 2 (by decide) (by decide)
  have o21 := oct2 2 1 (by decide) (by decide)
  have o123 := oct3 1 2 3 (by decide) (by decide) (by decide)
  have o1 : Oct [1] := fun o ho => by
    rw [List.mem_singleton.mp ho]
    decide
  have g1 := between_ok (n := 8) o555 o55 (by decide) (by decide)
  have g2 := between_ok (n := 8) o565 o55 (by decide) (by decide)
  have g3 := between_ok (n := 8) o55 o565 (by decide) (by decide)
  have g4 := between_ok (n := 8) o12 o21 (by decide) (by decide)
  have g5 := between_ok (n := 8) (oct0 4) (oct0 6) (by decide) (by decide)
  have G4 := good_of o12 o21 (by decide) (by decide) (not_big (by decide) (by decide))
  have g6 := price_ok (n := 7) G4.ok G4.len G4.adj
  rw [G4.cost, dist4] at g6
  have ok7 : Ok 1000 [.keep 1, .cut [2], .keep 1] := fun e he => by
    simp at he
    rcases he with rfl | rfl | rfl <;> simp [okE]
  have ok8 : Ok 1000 [.keep 2] := fun e he => by
    simp at he
    subst he
    simp [okE]
  have g7 := by_ok (n := 7) (E := [.keep 1, .cut [2], .keep 1]) o123 (by decide) ok7 (by decide) (by decide) (by decide)
  have g8 := by_ok (n := 7) (E := [.keep 2]) o123 (by decide) ok8 (by decide) (by decide) (by decide)
  have g9 := by_ok (n := 7) (E := [.keep 2]) o1 (by decide) ok8 (by decide) (by decide) (by decide)
  rw [show app [.keep 1, .cut [2], .keep 1] [1, 2, 3] [] = some [1, 3] from by decide] at g7
  rw [show app [.keep 2] [1, 2, 3] [] = none from by decide] at g8
  rw [show app [.keep 2] [1] [] = none from by decide] at g9
  rw [jn1] at g1
  rw [jn2] at g2
  rw [jn3] at g3
  rw [show jn (Sof (List.replicate 4 0) (List.replicate 6 0)) (List.replicate 4 0) (List.replicate 6 0) = [.keep 4, .put [0, 0]] from jn5] at g5
  rw [run_eq (d := ⟨1, 13, b_law⟩) rfl rfl]
  have g1 : run tbl 12 24 [.val (.tup [.int 5, .int 5, .int 5]), .val (.tup [.int 5, .int 5])] = .ok t1 [] := g1
  have g2 : run tbl 12 24 [.val (.tup [.int 5, .int 6, .int 5]), .val (.tup [.int 5, .int 5])] = .ok t2 [] := g2
  have g3 : run tbl 12 24 [.val (.tup [.int 5, .int 5]), .val (.tup [.int 5, .int 6, .int 5])] = .ok t3 [] := g3
  have g5 : run tbl 12 24 [.val (.tup [.int 0, .int 0, .int 0, .int 0]), .val (.tup [.int 0, .int 0, .int 0, .int 0, .int 0, .int 0])] = .ok t5 [] := g5
  have g7 : run tbl 12 26 [.val (.tup [.int 1, .int 2, .int 3]), .val (.tup [.tup [.str [107, 101, 101, 112], .int 1], .tup [.str [99, 117, 116], .tup [.int 2]], .tup [.str [107, 101, 101, 112], .int 1]])] = .ok (.tup [.int 1, .int 3]) [] := g7
  have g8 : run tbl 12 26 [.val (.tup [.int 1, .int 2, .int 3]), .val (.tup [.tup [.str [107, 101, 101, 112], .int 2]])] = .ok .non [] := g8
  have g9 : run tbl 12 26 [.val (.tup [.int 1]), .val (.tup [.tup [.str [107, 101, 101, 112], .int 2]])] = .ok .non [] := g9
  have g4 : run tbl 12 24 [.val (.tup [.int 1, .int 2]), .val (.tup [.int 2, .int 1])] = .ok (te (jn (Sof [1, 2] [2, 1]) [1, 2] [2, 1])) [] := g4
  generalize te (jn (Sof [1, 2] [2, 1]) [1, 2] [2, 1]) = e4 at g4 g6
  have g6 : run tbl 12 28 [.val e4] = .ok (.int 2) [] := g6
  have e1 : run tbl 12 31 [.val (.scr ns)] = .ok c [] := e1
  have e2 : run tbl 12 32 [.io c, .val (.int 128)] = .ok (.int r1) [c1] := e2
  have e3 : run tbl 12 32 [.io c1, .val (.int 128)] = .ok (.int r2) [c2] := e3
  have hfi : run tbl 12 34 [.val (.tup [.int x, .int y]), .val (.int 4)] = .ok (.lst ((filesL x y).map tu)) [] := hfi
  have hed : run tbl 12 44 [.val (.tup [.int x, .int y])] = .ok (.lst ((editsL x y).map te)) [] := hed
  generalize run tbl 12 = cf at *
  show ∃ outs, fin 48 [.val (.scr ns)] (evB cf b_law [.val (.scr ns), .none, .none, .none, .none, .none, .none, .none, .none, .none, .none, .none, .none]) = _
  have s1 : evS cf (.own 1 (.call 31 [(.var 0)])) [.val (.scr ns), .none, .none, .none, .none, .none, .none, .none, .none, .none, .none, .none, .none] = .nxt [.val (.scr ns), .own c, .none, .none, .none, .none, .none, .none, .none, .none, .none, .none, .none] := by
    obtain ⟨p, q, rfl, _⟩ := hc
    simp [isFresh, e1]
  have m1 : pev (.bin .Mult) [.int 2, .int r1] = some (.int x) := by
    rw [← hX]
    exact pv_mul (mul_l (by decide) (by decide))
  have m2 : pev (.bin .Mult) [.int 2, .int r2] = some (.int (2 * r2)) := pv_mul (mul_l (by decide) (by decide))
  have s2 : evS cf (.par [2, 3] [(.prim (.bin .Mult) [(.con (.int 2)), (.call 32 [(.peek 1), (.con (.int 128))])]), (.prim (.bin .Add) [(.prim (.bin .Mult) [(.con (.int 2)), (.call 32 [(.peek 1), (.con (.int 128))])]), (.con (.int 1))])]) [.val (.scr ns), .own c, .none, .none, .none, .none, .none, .none, .none, .none, .none, .none, .none] = .nxt [.val (.scr ns), .own c2, .val (.int x), .val (.int y), .none, .none, .none, .none, .none, .none, .none, .none, .none] := by
    simp [e2, e3, m1, m2, hY]
  have s3 : evS cf (.set (.name 4) (.call 34 [(.prim .tup [(.var 2), (.var 3)]), (.con (.int 4))])) [.val (.scr ns), .own c2, .val (.int x), .val (.int y), .none, .none, .none, .none, .none, .none, .none, .none, .none] = .nxt [.val (.scr ns), .own c2, .val (.int x), .val (.int y), .val (.lst ((filesL x y).map tu)), .none, .none, .none, .none, .none, .none, .none, .none] := by
    simp [hfi]
  obtain ⟨y5, y6, w5, w6, q4⟩ := pairs_out (cf := cf) (p0 := .val (.scr ns)) (p1 := .own c2) (p2 := .val (.int x)) (p3 := .val (.int y)) (r := [.none, .none, .none, .none, .none, .none]) (gs := filesL x y) (filesL x y) .none .none .non .non hpa
  have s4 := (for_eq (cf := cf) (t := .name 5) (k := .seq) (body := outerP) (src := [.var 4]) (env := [.val (.scr ns), .own c2, .val (.int x), .val (.int y), .val (.lst ((filesL x y).map tu)), .none, .none, .none, .none, .none, .none, .none, .none]) (env1 := [.val (.scr ns), .own c2, .val (.int x), .val (.int y), .val (.lst ((filesL x y).map tu)), .none, .none, .none, .none, .none, .none, .none, .none]) (avs := [.val (.lst ((filesL x y).map tu))]) (ds := [.lst ((filesL x y).map tu)]) (items := (filesL x y).map tu) (by simp) (by simp) rfl).trans q4
  obtain ⟨y7, w7, q5⟩ := edits_loop (cf := cf) (p0 := .val (.scr ns)) (p1 := .own c2) (p2 := .val (.int x)) (p3 := .val (.int y)) (x5 := y5) (x6 := y6) (x8 := .none) (x9 := .none) hfl (editsL x y) .none .non hE
  have s5 := (for_eq (cf := cf) (t := .name 7) (k := .seq) (body := bodyE) (src := [(.call 44 [(.prim .tup [(.var 2), (.var 3)])])]) (env := stE (.val (.scr ns)) (.own c2) (.val (.int x)) (.val (.int y)) (filesL x y) y5 y6 .none .none .none) (env1 := stE (.val (.scr ns)) (.own c2) (.val (.int x)) (.val (.int y)) (filesL x y) y5 y6 .none .none .none) (avs := [.val (.lst ((editsL x y).map te))]) (ds := [.lst ((editsL x y).map te)]) (items := (editsL x y).map te) (by simp [hed]) (by simp) rfl).trans q5
  obtain ⟨e', q6⟩ := end_ok (cf := cf) (p0 := .val (.scr ns)) (p1 := .own c2) (p2 := .val (.int x)) (p3 := .val (.int y)) (p4 := .val (.lst ((filesL x y).map tu))) (p5 := y5) (p6 := y6) (p7 := y7) g1 g2 g3 g4 g5 g6 g7 g8 g9
  have hb : evB cf b_law [.val (.scr ns), .none, .none, .none, .none, .none, .none, .none, .none, .none, .none, .none, .none] = .ret (.bl true) e' := by
    rw [law_parts, evB_cons', s1, SR.then_nxt, evB_cons', s2, SR.then_nxt, evB_cons', s3, SR.then_nxt, evB_cons', s4, SR.then_nxt, evB_cons', s5, SR.then_nxt, q6]
  rw [hb]
  exact ⟨_, rfl⟩
end K16
set_option Elab.async false
set_option linter.all false
set_option maxRecDepth 100000
set_option maxHeartbeats 4000000
namespace K16
open PySem L2 Mp
section
variable {P : Program} {w : World} {K : PySem.W.Frag} {mg : Str → Option Value}
theorem all_mk {h : Heap} {fa : Addr} (X : K.In h) (G : h.Ns mainGlobals mg) (hfa : mg "law" = some (.ref fa))
    {f0 : Addr} {od0 an0 : Option Addr} {sl0 : Array (Option Value)} {oc0 kV0 dc0 pm0 cd0 ct0 : Value}
    {f1 : Addr} {od1 an1 : Option Addr} {sl1 : Array (Option Value)} {oc1 kV1 dc1 pm1 cd1 ct1 : Value}
    {f2 : Addr} {od2 an2 : Option Addr} {sl2 : Array (Option Value)} {oc2 kV2 dc2 pm2 cd2 ct2 : Value}
    {f3 : Addr} {od3 an3 : Option Addr} {sl3 : Array (Option Value)} {oc3 kV3 dc3 pm3 cd3 ct3 : Value}
    {f4 : Addr} {od4 an4 : Option Addr} {sl4 : Array (Option Value)} {oc4 kV4 dc4 pm4 cd4 ct4 : Value}
    {f5 : Addr} {od5 an5 : Option Addr} {sl5 : Array (Option Value)} {oc5 kV5 dc5 pm5 cd5 ct5 : Value}
    {f6 : Addr} {od6 an6 : Option Addr} {sl6 : Array (Option Value)} {oc6 kV6 dc6 pm6 cd6 ct6 : Value}
    {f7 : Addr} {od7 an7 : Option Addr} {sl7 : Array (Option Value)} {oc7 kV7 dc7 pm7 cd7 ct7 : Value}
    {f8 : Addr} {od8 an8 : Option Addr} {sl8 : Array (Option Value)} {oc8 kV8 dc8 pm8 cd8 ct8 : Value}
    {f9 : Addr} {od9 an9 : Option Addr} {sl9 : Array (Option Value)} {oc9 kV9 dc9 pm9 cd9 ct9 : Value}
    {f10 : Addr} {od10 an10 : Option Addr} {sl10 : Array (Option Value)} {oc10 kV10 dc10 pm10 cd10 ct10 : Value}
    {f11 : Addr} {od11 an11 : Option Addr} {sl11 : Array (Option Value)} {oc11 kV11 dc11 pm11 cd11 ct11 : Value}
    {f12 : Addr} {od12 an12 : Option Addr} {sl12 : Array (Option Value)} {oc12 kV12 dc12 pm12 cd12 ct12 : Value}
    {f13 : Addr} {od13 an13 : Option Addr} {sl13 : Array (Option Value)} {oc13 kV13 dc13 pm13 cd13 ct13 : Value}
    {f14 : Addr} {od14 an14 : Option Addr} {sl14 : Array (Option Value)} {oc14 kV14 dc14 pm14 cd14 ct14 : Value}
    {f15 : Addr} {od15 an15 : Option Addr} {sl15 : Array (Option Value)} {oc15 kV15 dc15 pm15 cd15 ct15 : Value}
    {f16 : Addr} {od16 an16 : Option Addr} {sl16 : Array (Option Value)} {oc16 kV16 dc16 pm16 cd16 ct16 : Value}
    {f17 : Addr} {od17 an17 : Option Addr} {sl17 : Array (Option Value)} {oc17 kV17 dc17 pm17 cd17 ct17 : Value}
    {f18 : Addr} {od18 an18 : Option Addr} {sl18 : Array (Option Value)} {oc18 kV18 dc18 pm18 cd18 ct18 : Value}
    {f19 : Addr} {od19 an19 : Option Addr} {sl19 : Array (Option Value)} {oc19 kV19 dc19 pm19 cd19 ct19 : Value}
    {f20 : Addr} {od20 an20 : Option Addr} {sl20 : Array (Option Value)} {oc20 kV20 dc20 pm20 cd20 ct20 : Value}
    {f21 : Addr} {od21 an21 : Option Addr} {sl21 : Array (Option Value)} {oc21 kV21 dc21 pm21 cd21 ct21 : Value}
    {f22 : Addr} {od22 an22 : Option Addr} {sl22 : Array (Option Value)} {oc22 kV22 dc22 pm22 cd22 ct22 : Value}
    {f23 : Addr} {od23 an23 : Option Addr} {sl23 : Array (Option Value)} {oc23 kV23 dc23 pm23 cd23 ct23 : Value}
    {f24 : Addr} {od24 an24 : Option Addr} {sl24 : Array (Option Value)} {oc24 kV24 dc24 pm24 cd24 ct24 : Value}
    {C0 : Addr}
    {C1 : Addr}
    {t0 : Tok}
    {t1 : Tok}
    (h_a0 : PySem.W.nsIn K mainGlobals "is_whole" = some (some (.ref f0)))
    (h_l0 : K.lookup f0 = some ⟨oc0, od0, .func (PySem.W.fnOf "is_whole" "is_whole" (defArgs (top 6)) (defBody (top 6)) (defScope (top 6)) .none kV0 dc0 pm0 an0 cd0 ct0), sl0⟩)
    (h_c0 : PySem.W.codeIn K cd0 "is_whole" = true)
    (h_k0 : PySem.W.keepIn K (.ref f0) = true)
    (h_a1 : PySem.W.nsIn K mainGlobals "is_tuple_of" = some (some (.ref f1)))
    (h_l1 : K.lookup f1 = some ⟨oc1, od1, .func (PySem.W.fnOf "is_tuple_of" "is_tuple_of" (defArgs (top 7)) (defBody (top 7)) (defScope (top 7)) .none kV1 dc1 pm1 an1 cd1 ct1), sl1⟩)
    (h_c1 : PySem.W.codeIn K cd1 "is_tuple_of" = true)
    (h_k1 : PySem.W.keepIn K (.ref f1) = true)
    (h_a2 : PySem.W.nsIn K mainGlobals "fits_octets" = some (some (.ref f2)))
    (h_l2 : K.lookup f2 = some ⟨oc2, od2, .func (PySem.W.fnOf "fits_octets" "fits_octets" (defArgs (top 8)) (defBody (top 8)) (defScope (top 8)) .none kV2 dc2 pm2 an2 cd2 ct2), sl2⟩)
    (h_c2 : PySem.W.codeIn K cd2 "fits_octets" = true)
    (h_k2 : PySem.W.keepIn K (.ref f2) = true)
    (h_a3 : PySem.W.nsIn K mainGlobals "fits_edits" = some (some (.ref f3)))
    (h_l3 : K.lookup f3 = some ⟨oc3, od3, .func (PySem.W.fnOf "fits_edits" "fits_edits" (defArgs (top 11)) (defBody (top 11)) (defScope (top 11)) .none kV3 dc3 pm3 an3 cd3 ct3), sl3⟩)
    (h_c3 : PySem.W.codeIn K cd3 "fits_edits" = true)
    (h_k3 : PySem.W.keepIn K (.ref f3) = true)
    (h_a4 : PySem.W.nsIn K mainGlobals "alike_ends" = some (some (.ref f4)))
    (h_l4 : K.lookup f4 = some ⟨oc4, od4, .func (PySem.W.fnOf "alike_ends" "alike_ends" (defArgs (top 12)) (defBody (top 12)) (defScope (top 12)) .none kV4 dc4 pm4 an4 cd4 ct4), sl4⟩)
    (h_c4 : PySem.W.codeIn K cd4 "alike_ends" = true)
    (h_k4 : PySem.W.keepIn K (.ref f4) = true)
    (h_a5 : PySem.W.nsIn K mainGlobals "least_table" = some (some (.ref f5)))
    (h_l5 : K.lookup f5 = some ⟨oc5, od5, .func (PySem.W.fnOf "least_table" "least_table" (defArgs (top 13)) (defBody (top 13)) (defScope (top 13)) .none kV5 dc5 pm5 an5 cd5 ct5), sl5⟩)
    (h_c5 : PySem.W.codeIn K cd5 "least_table" = true)
    (h_k5 : PySem.W.keepIn K (.ref f5) = true)
    (h_a6 : PySem.W.nsIn K mainGlobals "edits_in" = some (some (.ref f6)))
    (h_l6 : K.lookup f6 = some ⟨oc6, od6, .func (PySem.W.fnOf "edits_in" "edits_in" (defArgs (top 14)) (defBody (top 14)) (defScope (top 14)) .none kV6 dc6 pm6 an6 cd6 ct6), sl6⟩)
    (h_c6 : PySem.W.codeIn K cd6 "edits_in" = true)
    (h_k6 : PySem.W.keepIn K (.ref f6) = true)
    (h_a7 : PySem.W.nsIn K mainGlobals "joined_steps" = some (some (.ref f7)))
    (h_l7 : K.lookup f7 = some ⟨oc7, od7, .func (PySem.W.fnOf "joined_steps" "joined_steps" (defArgs (top 15)) (defBody (top 15)) (defScope (top 15)) .none kV7 dc7 pm7 an7 cd7 ct7), sl7⟩)
    (h_c7 : PySem.W.codeIn K cd7 "joined_steps" = true)
    (h_k7 : PySem.W.keepIn K (.ref f7) = true)
    (h_a8 : PySem.W.nsIn K mainGlobals "edited" = some (some (.ref f8)))
    (h_l8 : K.lookup f8 = some ⟨oc8, od8, .func (PySem.W.fnOf "edited" "edited" (defArgs (top 16)) (defBody (top 16)) (defScope (top 16)) .none kV8 dc8 pm8 an8 cd8 ct8), sl8⟩)
    (h_c8 : PySem.W.codeIn K cd8 "edited" = true)
    (h_k8 : PySem.W.keepIn K (.ref f8) = true)
    (h_a9 : PySem.W.nsIn K mainGlobals "need_file" = some (some (.ref f9)))
    (h_l9 : K.lookup f9 = some ⟨oc9, od9, .func (PySem.W.fnOf "need_file" "need_file" (defArgs (top 17)) (defBody (top 17)) (defScope (top 17)) .none kV9 dc9 pm9 an9 cd9 ct9), sl9⟩)
    (h_c9 : PySem.W.codeIn K cd9 "need_file" = true)
    (h_k9 : PySem.W.keepIn K (.ref f9) = true)
    (h_a10 : PySem.W.nsIn K mainGlobals "need_edits" = some (some (.ref f10)))
    (h_l10 : K.lookup f10 = some ⟨oc10, od10, .func (PySem.W.fnOf "need_edits" "need_edits" (defArgs (top 18)) (defBody (top 18)) (defScope (top 18)) .none kV10 dc10 pm10 an10 cd10 ct10), sl10⟩)
    (h_c10 : PySem.W.codeIn K cd10 "need_edits" = true)
    (h_k10 : PySem.W.keepIn K (.ref f10) = true)
    (h_a11 : PySem.W.nsIn K mainGlobals "is_edits" = some (some (.ref f11)))
    (h_l11 : K.lookup f11 = some ⟨oc11, od11, .func (PySem.W.fnOf "is_edits" "is_edits" (defArgs (top 19)) (defBody (top 19)) (defScope (top 19)) .none kV11 dc11 pm11 an11 cd11 ct11), sl11⟩)
    (h_c11 : PySem.W.codeIn K cd11 "is_edits" = true)
    (h_k11 : PySem.W.keepIn K (.ref f11) = true)
    (h_a12 : PySem.W.nsIn K mainGlobals "edits_between" = some (some (.ref f12)))
    (h_l12 : K.lookup f12 = some ⟨oc12, od12, .func (PySem.W.fnOf "edits_between" "edits_between" (defArgs (top 20)) (defBody (top 20)) (defScope (top 20)) .none kV12 dc12 pm12 an12 cd12 ct12), sl12⟩)
    (h_c12 : PySem.W.codeIn K cd12 "edits_between" = true)
    (h_k12 : PySem.W.keepIn K (.ref f12) = true)
    (h_a13 : PySem.W.nsIn K mainGlobals "edited_by" = some (some (.ref f13)))
    (h_l13 : K.lookup f13 = some ⟨oc13, od13, .func (PySem.W.fnOf "edited_by" "edited_by" (defArgs (top 21)) (defBody (top 21)) (defScope (top 21)) .none kV13 dc13 pm13 an13 cd13 ct13), sl13⟩)
    (h_c13 : PySem.W.codeIn K cd13 "edited_by" = true)
    (h_k13 : PySem.W.keepIn K (.ref f13) = true)
    (h_a14 : PySem.W.nsIn K mainGlobals "price_of" = some (some (.ref f14)))
    (h_l14 : K.lookup f14 = some ⟨oc14, od14, .func (PySem.W.fnOf "price_of" "price_of" (defArgs (top 22)) (defBody (top 22)) (defScope (top 22)) .none kV14 dc14 pm14 an14 cd14 ct14), sl14⟩)
    (h_c14 : PySem.W.codeIn K cd14 "price_of" = true)
    (h_k14 : PySem.W.keepIn K (.ref f14) = true)
    (h_a15 : PySem.W.nsIn K mainGlobals "_law_cup" = some (some (.ref f15)))
    (h_l15 : K.lookup f15 = some ⟨oc15, od15, .func (PySem.W.fnOf "_law_cup" "_law_cup" (defArgs (top 24)) (defBody (top 24)) (defScope (top 24)) .none kV15 dc15 pm15 an15 cd15 ct15), sl15⟩)
    (h_c15 : PySem.W.codeIn K cd15 "_law_cup" = true)
    (h_k15 : PySem.W.keepIn K (.ref f15) = true)
    (h_a16 : PySem.W.nsIn K mainGlobals "_law_roll" = some (some (.ref f16)))
    (h_l16 : K.lookup f16 = some ⟨oc16, od16, .func (PySem.W.fnOf "_law_roll" "_law_roll" (defArgs (top 25)) (defBody (top 25)) (defScope (top 25)) .none kV16 dc16 pm16 an16 cd16 ct16), sl16⟩)
    (h_c16 : PySem.W.codeIn K cd16 "_law_roll" = true)
    (h_k16 : PySem.W.keepIn K (.ref f16) = true)
    (h_a17 : PySem.W.nsIn K mainGlobals "_law_files" = some (some (.ref f17)))
    (h_l17 : K.lookup f17 = some ⟨oc17, od17, .func (PySem.W.fnOf "_law_files" "_law_files" (defArgs (top 26)) (defBody (top 26)) (defScope (top 26)) .none kV17 dc17 pm17 an17 cd17 ct17), sl17⟩)
    (h_c17 : PySem.W.codeIn K cd17 "_law_files" = true)
    (h_k17 : PySem.W.keepIn K (.ref f17) = true)
    (h_a18 : PySem.W.nsIn K mainGlobals "_law_least" = some (some (.ref f18)))
    (h_l18 : K.lookup f18 = some ⟨oc18, od18, .func (PySem.W.fnOf "_law_least" "_law_least" (defArgs (top 27)) (defBody (top 27)) (defScope (top 27)) .none kV18 dc18 pm18 an18 cd18 ct18), sl18⟩)
    (h_c18 : PySem.W.codeIn K cd18 "_law_least" = true)
    (h_k18 : PySem.W.keepIn K (.ref f18) = true)
    (h_a19 : PySem.W.nsIn K mainGlobals "_law_led" = some (some (.ref f19)))
    (h_l19 : K.lookup f19 = some ⟨oc19, od19, .func (PySem.W.fnOf "_law_led" "_law_led" (defArgs (top 28)) (defBody (top 28)) (defScope (top 28)) .none kV19 dc19 pm19 an19 cd19 ct19), sl19⟩)
    (h_c19 : PySem.W.codeIn K cd19 "_law_led" = true)
    (h_k19 : PySem.W.keepIn K (.ref f19) = true)
    (h_a20 : PySem.W.nsIn K mainGlobals "_law_ends" = some (some (.ref f20)))
    (h_l20 : K.lookup f20 = some ⟨oc20, od20, .func (PySem.W.fnOf "_law_ends" "_law_ends" (defArgs (top 29)) (defBody (top 29)) (defScope (top 29)) .none kV20 dc20 pm20 an20 cd20 ct20), sl20⟩)
    (h_c20 : PySem.W.codeIn K cd20 "_law_ends" = true)
    (h_k20 : PySem.W.keepIn K (.ref f20) = true)
    (h_a21 : PySem.W.nsIn K mainGlobals "_law_pair_right" = some (some (.ref f21)))
    (h_l21 : K.lookup f21 = some ⟨oc21, od21, .func (PySem.W.fnOf "_law_pair_right" "_law_pair_right" (defArgs (top 30)) (defBody (top 30)) (defScope (top 30)) .none kV21 dc21 pm21 an21 cd21 ct21), sl21⟩)
    (h_c21 : PySem.W.codeIn K cd21 "_law_pair_right" = true)
    (h_k21 : PySem.W.keepIn K (.ref f21) = true)
    (h_a22 : PySem.W.nsIn K mainGlobals "_law_all_edits" = some (some (.ref f22)))
    (h_l22 : K.lookup f22 = some ⟨oc22, od22, .func (PySem.W.fnOf "_law_all_edits" "_law_all_edits" (defArgs (top 31)) (defBody (top 31)) (defScope (top 31)) .none kV22 dc22 pm22 an22 cd22 ct22), sl22⟩)
    (h_c22 : PySem.W.codeIn K cd22 "_law_all_edits" = true)
    (h_k22 : PySem.W.keepIn K (.ref f22) = true)
    (h_a23 : PySem.W.nsIn K mainGlobals "_law_is_edits" = some (some (.ref f23)))
    (h_l23 : K.lookup f23 = some ⟨oc23, od23, .func (PySem.W.fnOf "_law_is_edits" "_law_is_edits" (defArgs (top 32)) (defBody (top 32)) (defScope (top 32)) .none kV23 dc23 pm23 an23 cd23 ct23), sl23⟩)
    (h_c23 : PySem.W.codeIn K cd23 "_law_is_edits" = true)
    (h_k23 : PySem.W.keepIn K (.ref f23) = true)
    (h_a24 : PySem.W.nsIn K mainGlobals "law" = some (some (.ref f24)))
    (h_l24 : K.lookup f24 = some ⟨oc24, od24, .func (PySem.W.fnOf "law" "law" (defArgs (top 33)) (defBody (top 33)) (defScope (top 33)) .none kV24 dc24 pm24 an24 cd24 ct24), sl24⟩)
    (h_c24 : PySem.W.codeIn K cd24 "law" = true)
    (h_k24 : PySem.W.keepIn K (.ref f24) = true)
    (h_x0 : PySem.W.nsIn K mainGlobals "InvalidOctets" = some (some (.ref C0)))
    (h_y0 : PySem.W.excIn K C0 [.type "ValueError", .type "Exception", .type "BaseException", .type "object"] "ValueError.__new__" = true)
    (h_xk0 : PySem.W.keepIn K (.ref C0) = true)
    (h_xs0 : PySem.W.subIn K (.ref C0) (.type "BaseException") = some true)
    (h_xt0 : PySem.W.typeIn K (.ref C0) = some (.type "type"))
    (h_x1 : PySem.W.nsIn K mainGlobals "InvalidLook" = some (some (.ref C1)))
    (h_y1 : PySem.W.excIn K C1 [.type "ValueError", .type "Exception", .type "BaseException", .type "object"] "ValueError.__new__" = true)
    (h_xk1 : PySem.W.keepIn K (.ref C1) = true)
    (h_xs1 : PySem.W.subIn K (.ref C1) (.type "BaseException") = some true)
    (h_xt1 : PySem.W.typeIn K (.ref C1) = some (.type "type"))
    (h_g0 : PySem.W.nsIn K mainGlobals "OCTETS" = some (some (.int 1000 t0)))
    (h_g1 : PySem.W.nsIn K mainGlobals "CELLS" = some (some (.int 40000 t1)))
    (h_z0 : PySem.W.nsIn K mainGlobals "isinstance" = some none)
    (h_z1 : PySem.W.nsIn K mainGlobals "int" = some none)
    (h_z2 : PySem.W.nsIn K mainGlobals "bool" = some none)
    (h_z3 : PySem.W.nsIn K mainGlobals "tuple" = some none)
    (h_z4 : PySem.W.nsIn K mainGlobals "len" = some none)
    (h_z5 : PySem.W.nsIn K mainGlobals "all" = some none)
    (h_z6 : PySem.W.nsIn K mainGlobals "str" = some none)
    (h_z7 : PySem.W.nsIn K mainGlobals "zip" = some none)
    (h_z8 : PySem.W.nsIn K mainGlobals "min" = some none)
    (h_z9 : PySem.W.nsIn K mainGlobals "range" = some none)
    (h_z10 : PySem.W.nsIn K mainGlobals "sum" = some none)
    (h_z11 : PySem.W.nsIn K mainGlobals "abs" = some none)
    (h_z12 : PySem.W.nsIn K mainGlobals "list" = some none)
    (h_z13 : PySem.W.nsIn K mainGlobals "enumerate" = some none)
    (h_z14 : PySem.W.nsIn K mainGlobals "max" = some none)
    (pl : ∀ ns : List Int, ns.length ≤ 63 → ∃ outs, run (rows.map (·.df)) (12 + 1) (2 * 24) [.val (.scr ns)] = .ok (.bl true) outs) :
    ∃ fd : FuncData, (∀ (s : Shared) (v : Value), BindsTo s fd ⟨[v], []⟩ [("script", v)]) ∧ ∀ base : Heap, K.In base → base.Ns mainGlobals mg → FnOk P w K mg base (L2.CX P w) (12 + 1) fa fd ["script"] (spLaw K) := by
  have e := hfa.symm.trans (PySem.W.mg_of X G h_a24)
  have e2 : f24 = fa := by cases e; rfl
  subst e2
  have GT : GloT tb (fun i => match i with | 0 => .ref C0 | 1 => .ref C1 | _ => .none) K mg := by
    refine ⟨fun x hx => ?_, fun i x hx => ?_, fun x d hx => ?_⟩
    · have hx := List.contains_iff_mem.mp hx
      simp only [tb, List.mem_cons, List.not_mem_nil, or_false] at hx
      rcases hx with rfl | rfl | rfl | rfl | rfl | rfl | rfl | rfl | rfl | rfl | rfl | rfl | rfl | rfl | rfl
      · exact PySem.W.mg_none_of X G h_z0
      · exact PySem.W.mg_none_of X G h_z1
      · exact PySem.W.mg_none_of X G h_z2
      · exact PySem.W.mg_none_of X G h_z3
      · exact PySem.W.mg_none_of X G h_z4
      · exact PySem.W.mg_none_of X G h_z5
      · exact PySem.W.mg_none_of X G h_z6
      · exact PySem.W.mg_none_of X G h_z7
      · exact PySem.W.mg_none_of X G h_z8
      · exact PySem.W.mg_none_of X G h_z9
      · exact PySem.W.mg_none_of X G h_z10
      · exact PySem.W.mg_none_of X G h_z11
      · exact PySem.W.mg_none_of X G h_z12
      · exact PySem.W.mg_none_of X G h_z13
      · exact PySem.W.mg_none_of X G h_z14
    · match i, hx with
      | 0, hx => cases hx; exact ⟨C0, _, _, _, _, PySem.F.excBase_ValueError, h_y0, rfl, PySem.W.mg_of X G h_x0, h_xk0, h_xs0, h_xt0⟩
      | 1, hx => cases hx; exact ⟨C1, _, _, _, _, PySem.F.excBase_ValueError, h_y1, rfl, PySem.W.mg_of X G h_x1, h_xk1, h_xs1, h_xt1⟩
      | n + 2, hx => cases hx
    · have hx := PySem.mem_of_lookup hx
      simp only [tb, List.mem_cons, Prod.mk.injEq, List.not_mem_nil, or_false] at hx
      rcases hx with ⟨rfl, rfl⟩ | ⟨rfl, rfl⟩
      · exact ⟨_, .int 1000, PySem.W.mg_of X G h_g0, ⟨_, rfl⟩, fun _ _ => rfl⟩
      · exact ⟨_, .int 40000, PySem.W.mg_of X G h_g1, ⟨_, rfl⟩, fun _ _ => rfl⟩
  have F0 := fun_mk (st := top 6) h_l0 h_c0 h_k0
  have R0 : RowOk K mg r_is_whole := ⟨f0, _, PySem.W.mg_of X G h_a0, F0, F0.binds fun _ _ _ _ _ _ us hl => match us, hl with | [_, _, _], _ => rfl⟩
  have F1 := fun_mk (st := top 7) h_l1 h_c1 h_k1
  have R1 : RowOk K mg r_is_tuple_of := ⟨f1, _, PySem.W.mg_of X G h_a1, F1, F1.binds fun _ _ _ _ _ _ us hl => match us, hl with | [_, _, _], _ => rfl⟩
  have F2 := fun_mk (st := top 8) h_l2 h_c2 h_k2
  have R2 : RowOk K mg r_fits_octets := ⟨f2, _, PySem.W.mg_of X G h_a2, F2, F2.binds fun _ _ _ _ _ _ us hl => match us, hl with | [_, _], _ => rfl⟩
  have F3 := fun_mk (st := top 11) h_l3 h_c3 h_k3
  have R3 : RowOk K mg r_fits_edits := ⟨f3, _, PySem.W.mg_of X G h_a3, F3, F3.binds fun _ _ _ _ _ _ us hl => match us, hl with | [_], _ => rfl⟩
  have F4 := fun_mk (st := top 12) h_l4 h_c4 h_k4
  have R4 : RowOk K mg r_alike_ends := ⟨f4, _, PySem.W.mg_of X G h_a4, F4, F4.binds fun _ _ _ _ _ _ us hl => match us, hl with | [_, _], _ => rfl⟩
  have F5 := fun_mk (st := top 13) h_l5 h_c5 h_k5
  have R5 : RowOk K mg r_least_table := ⟨f5, _, PySem.W.mg_of X G h_a5, F5, F5.binds fun _ _ _ _ _ _ us hl => match us, hl with | [_, _], _ => rfl⟩
  have F6 := fun_mk (st := top 14) h_l6 h_c6 h_k6
  have R6 : RowOk K mg r_edits_in := ⟨f6, _, PySem.W.mg_of X G h_a6, F6, F6.binds fun _ _ _ _ _ _ us hl => match us, hl with | [_, _], _ => rfl⟩
  have F7 := fun_mk (st := top 15) h_l7 h_c7 h_k7
  have R7 : RowOk K mg r_joined_steps := ⟨f7, _, PySem.W.mg_of X G h_a7, F7, F7.binds fun _ _ _ _ _ _ us hl => match us, hl with | [_, _, _], _ => rfl⟩
  have F8 := fun_mk (st := top 16) h_l8 h_c8 h_k8
  have R8 : RowOk K mg r_edited := ⟨f8, _, PySem.W.mg_of X G h_a8, F8, F8.binds fun _ _ _ _ _ _ us hl => match us, hl with | [_, _], _ => rfl⟩
  have F9 := fun_mk (st := top 17) h_l9 h_c9 h_k9
  have R9 : RowOk K mg r_need_file := ⟨f9, _, PySem.W.mg_of X G h_a9, F9, F9.binds fun _ _ _ _ _ _ us hl => match us, hl with | [_], _ => rfl⟩
  have F10 := fun_mk (st := top 18) h_l10 h_c10 h_k10
  have R10 : RowOk K mg r_need_edits := ⟨f10, _, PySem.W.mg_of X G h_a10, F10, F10.binds fun _ _ _ _ _ _ us hl => match us, hl with | [_], _ => rfl⟩
  have F11 := fun_mk (st := top 19) h_l11 h_c11 h_k11
  have R11 : RowOk K mg r_is_edits := ⟨f11, _, PySem.W.mg_of X G h_a11, F11, F11.binds fun _ _ _ _ _ _ us hl => match us, hl with | [_], _ => rfl⟩
  have F12 := fun_mk (st := top 20) h_l12 h_c12 h_k12
  have R12 : RowOk K mg r_edits_between := ⟨f12, _, PySem.W.mg_of X G h_a12, F12, F12.binds fun _ _ _ _ _ _ us hl => match us, hl with | [_, _], _ => rfl⟩
  have F13 := fun_mk (st := top 21) h_l13 h_c13 h_k13
  have R13 : RowOk K mg r_edited_by := ⟨f13, _, PySem.W.mg_of X G h_a13, F13, F13.binds fun _ _ _ _ _ _ us hl => match us, hl with | [_, _], _ => rfl⟩
  have F14 := fun_mk (st := top 22) h_l14 h_c14 h_k14
  have R14 : RowOk K mg r_price_of := ⟨f14, _, PySem.W.mg_of X G h_a14, F14, F14.binds fun _ _ _ _ _ _ us hl => match us, hl with | [_], _ => rfl⟩
  have F15 := fun_mk (st := top 24) h_l15 h_c15 h_k15
  have R15 : RowOk K mg r__law_cup := ⟨f15, _, PySem.W.mg_of X G h_a15, F15, F15.binds fun _ _ _ _ _ _ us hl => match us, hl with | [_], _ => rfl⟩
  have F16 := fun_mk (st := top 25) h_l16 h_c16 h_k16
  have R16 : RowOk K mg r__law_roll := ⟨f16, _, PySem.W.mg_of X G h_a16, F16, F16.binds fun _ _ _ _ _ _ us hl => match us, hl with | [_, _], _ => rfl⟩
  have F17 := fun_mk (st := top 26) h_l17 h_c17 h_k17
  have R17 : RowOk K mg r__law_files := ⟨f17, _, PySem.W.mg_of X G h_a17, F17, F17.binds fun _ _ _ _ _ _ us hl => match us, hl with | [_, _], _ => rfl⟩
  have F18 := fun_mk (st := top 27) h_l18 h_c18 h_k18
  have R18 : RowOk K mg r__law_least := ⟨f18, _, PySem.W.mg_of X G h_a18, F18, F18.binds fun _ _ _ _ _ _ us hl => match us, hl with | [_, _], _ => rfl⟩
  have F19 := fun_mk (st := top 28) h_l19 h_c19 h_k19
  have R19 : RowOk K mg r__law_led := ⟨f19, _, PySem.W.mg_of X G h_a19, F19, F19.binds fun _ _ _ _ _ _ us hl => match us, hl with | [_, _], _ => rfl⟩
  have F20 := fun_mk (st := top 29) h_l20 h_c20 h_k20
  have R20 : RowOk K mg r__law_ends := ⟨f20, _, PySem.W.mg_of X G h_a20, F20, F20.binds fun _ _ _ _ _ _ us hl => match us, hl with | [_, _], _ => rfl⟩
  have F21 := fun_mk (st := top 30) h_l21 h_c21 h_k21
  have R21 : RowOk K mg r__law_pair_right := ⟨f21, _, PySem.W.mg_of X G h_a21, F21, F21.binds fun _ _ _ _ _ _ us hl => match us, hl with | [_, _], _ => rfl⟩
  have F22 := fun_mk (st := top 31) h_l22 h_c22 h_k22
  have R22 : RowOk K mg r__law_all_edits := ⟨f22, _, PySem.W.mg_of X G h_a22, F22, F22.binds fun _ _ _ _ _ _ us hl => match us, hl with | [_], _ => rfl⟩
  have F23 := fun_mk (st := top 32) h_l23 h_c23 h_k23
  have R23 : RowOk K mg r__law_is_edits := ⟨f23, _, PySem.W.mg_of X G h_a23, F23, F23.binds fun _ _ _ _ _ _ us hl => match us, hl with | [_], _ => rfl⟩
  have F24 := fun_mk (st := top 33) h_l24 h_c24 h_k24
  have R24 : RowOk K mg r_law := ⟨f24, _, PySem.W.mg_of X G h_a24, F24, F24.binds fun _ _ _ _ _ _ us hl => match us, hl with | [_], _ => rfl⟩
  have hr : ∀ r ∈ rows, RowOk K mg r := fun r hr => by
    simp only [rows, List.mem_cons, List.not_mem_nil, or_false] at hr
    rcases hr with rfl | rfl | rfl | rfl | rfl | rfl | rfl | rfl | rfl | rfl | rfl | rfl | rfl | rfl | rfl | rfl | rfl | rfl | rfl | rfl | rfl | rfl | rfl | rfl | rfl
    · exact R0
    · exact R1
    · exact R2
    · exact R3
    · exact R4
    · exact R5
    · exact R6
    · exact R7
    · exact R8
    · exact R9
    · exact R10
    · exact R11
    · exact R12
    · exact R13
    · exact R14
    · exact R15
    · exact R16
    · exact R17
    · exact R18
    · exact R19
    · exact R20
    · exact R21
    · exact R22
    · exact R23
    · exact R24
  exact ⟨PySem.W.fnOf "law" "law" (defArgs (top 33)) (defBody (top 33)) (defScope (top 33)) .none kV24 dc24 pm24 an24 cd24 ct24, fun s v => .of_eq rfl, fun base _ _ => law_ok (i := 24) (r := r_law) GT hfn hck hr rfl F24 pl⟩
end
theorem walkEnd {l : PySem.W.OpenLaw} {q : Program} {loose : List Str} {XP : (Str → Option Value) → Heap → Prop} {YP : World → Heap → Prop} {d : DefRec} {K : Params → PySem.W.Frag} (hn : l.most = some 63) (hdf : d.params.defaults = [])
    (hY : ∀ (w : World) (h : Heap), YP w h → (K w.params).In h)
    (F : ∀ (w : World) (mg : Str → Option Value) (fa : Addr) (h : Heap), (K w.params).In h → h.Ns mainGlobals mg → mg d.name = some (.ref fa) →
      ∃ fd : FuncData, (∀ (s : Shared) (u : Value), BindsTo s fd ⟨[u], []⟩ [("script", u)]) ∧ ∀ base : Heap, (K w.params).In base → base.Ns mainGlobals mg → FnOk l.prog w (K w.params) mg base (L2.CX l.prog w) (12 + 1) fa fd ["script"] (spLaw (K w.params))) :
    PySem.W.WalkO q loose XP YP l.row.toRowW d [] (fun f vs => PySem.call f vs) :=
  L2.walk_of (n := 63) (k := 12 + 1) (x := "script") (CX := fun w => L2.CX l.prog w) (sp := fun w => spLaw (K w.params)) hn (by decide) hdf ⟨by decide, by decide, by decide⟩ hY F (fun _ _ a ns hl _ hS => ⟨a, ns, rfl, hS, hl, fun _ => rfl⟩) fun _ _ _ _ _ z => no_out _ _ _ _ z
end K16
open PySem PySem.W PyProof.Rows in
set_option maxRecDepth 100000 in
set_option maxHeartbeats 0 in
theorem PySem.Challenge.cw_layersheld_k16_whole_fewest_edits_of_all_holds : PySem.Challenge.rw_layersheld_k16_whole_fewest_edits_of_all.Holds := by
  w_on; o_law; k_head; (case hw => w_witness2)
  k_fill
  refine K16.walkEnd (l := PySem.Challenge.rw_layersheld_k16_whole_fewest_edits_of_all) rfl rfl (fun w h Y => PySem.W.kIn_of Y) ?F
  case F =>
    intro w mg fa h KX G hmg
    refine' K16.all_mk KX G hmg ?h_a0 ?h_l0 ?h_c0 ?h_k0 ?h_a1 ?h_l1 ?h_c1 ?h_k1 ?h_a2 ?h_l2 ?h_c2 ?h_k2 ?h_a3 ?h_l3 ?h_c3 ?h_k3 ?h_a4 ?h_l4 ?h_c4 ?h_k4 ?h_a5 ?h_l5 ?h_c5 ?h_k5 ?h_a6 ?h_l6 ?h_c6 ?h_k6 ?h_a7 ?h_l7 ?h_c7 ?h_k7 ?h_a8 ?h_l8 ?h_c8 ?h_k8 ?h_a9 ?h_l9 ?h_c9 ?h_k9 ?h_a10 ?h_l10 ?h_c10 ?h_k10 ?h_a11 ?h_l11 ?h_c11 ?h_k11 ?h_a12 ?h_l12 ?h_c12 ?h_k12 ?h_a13 ?h_l13 ?h_c13 ?h_k13 ?h_a14 ?h_l14 ?h_c14 ?h_k14 ?h_a15 ?h_l15 ?h_c15 ?h_k15 ?h_a16 ?h_l16 ?h_c16 ?h_k16 ?h_a17 ?h_l17 ?h_c17 ?h_k17 ?h_a18 ?h_l18 ?h_c18 ?h_k18 ?h_a19 ?h_l19 ?h_c19 ?h_k19 ?h_a20 ?h_l20 ?h_c20 ?h_k20 ?h_a21 ?h_l21 ?h_c21 ?h_k21 ?h_a22 ?h_l22 ?h_c22 ?h_k22 ?h_a23 ?h_l23 ?h_c23 ?h_k23 ?h_a24 ?h_l24 ?h_c24 ?h_k24 ?h_x0 ?h_y0 ?h_xk0 ?h_xs0 ?h_xt0 ?h_x1 ?h_y1 ?h_xk1 ?h_xs1 ?h_xt1 ?h_g0 ?h_g1 ?h_z0 ?h_z1 ?h_z2 ?h_z3 ?h_z4 ?h_z5 ?h_z6 ?h_z7 ?h_z8 ?h_z9 ?h_z10 ?h_z11 ?h_z12 ?h_z13 ?h_z14 K16.plain
    (case h_a0 => k_is)
    (case h_l0 => k_is)
    (case h_c0 => k_is)
    (case h_k0 => k_is)
    (case h_a1 => k_is)
    (case h_l1 => k_is)
    (case h_c1 => k_is)
    (case h_k1 => k_is)
    (case h_a2 => k_is)
    (case h_l2 => k_is)
    (case h_c2 => k_is)
    (case h_k2 => k_is)
    (case h_a3 => k_is)
    (case h_l3 => k_is)
    (case h_c3 => k_is)
    (case h_k3 => k_is)
    (case h_a4 => k_is)
    (case h_l4 => k_is)
    (case h_c4 => k_is)
    (case h_k4 => k_is)
    (case h_a5 => k_is)
    (case h_l5 => k_is)
    (case h_c5 => k_is)
    (case h_k5 => k_is)
    (case h_a6 => k_is)
    (case h_l6 => k_is)
    (case h_c6 => k_is)
    (case h_k6 => k_is)
    (case h_a7 => k_is)
    (case h_l7 => k_is)
    (case h_c7 => k_is)
    (case h_k7 => k_is)
    (case h_a8 => k_is)
    (case h_l8 => k_is)
    (case h_c8 => k_is)
    (case h_k8 => k_is)
    (case h_a9 => k_is)
    (case h_l9 => k_is)
    (case h_c9 => k_is)
    (case h_k9 => k_is)
    (case h_a10 => k_is)
    (case h_l10 => k_is)
    (case h_c10 => k_is)
    (case h_k10 => k_is)
    (case h_a11 => k_is)
    (case h_l11 => k_is)
    (case h_c11 => k_is)
    (case h_k11 => k_is)
    (case h_a12 => k_is)
    (case h_l12 => k_is)
    (case h_c12 => k_is)
    (case h_k12 => k_is)
    (case h_a13 => k_is)
    (case h_l13 => k_is)
    (case h_c13 => k_is)
    (case h_k13 => k_is)
    (case h_a14 => k_is)
    (case h_l14 => k_is)
    (case h_c14 => k_is)
    (case h_k14 => k_is)
    (case h_a15 => k_is)
    (case h_l15 => k_is)
    (case h_c15 => k_is)
    (case h_k15 => k_is)
    (case h_a16 => k_is)
    (case h_l16 => k_is)
    (case h_c16 => k_is)
    (case h_k16 => k_is)
    (case h_a17 => k_is)
    (case h_l17 => k_is)
    (case h_c17 => k_is)
    (case h_k17 => k_is)
    (case h_a18 => k_is)
    (case h_l18 => k_is)
    (case h_c18 => k_is)
    (case h_k18 => k_is)
    (case h_a19 => k_is)
    (case h_l19 => k_is)
    (case h_c19 => k_is)
    (case h_k19 => k_is)
    (case h_a20 => k_is)
    (case h_l20 => k_is)
    (case h_c20 => k_is)
    (case h_k20 => k_is)
    (case h_a21 => k_is)
    (case h_l21 => k_is)
    (case h_c21 => k_is)
    (case h_k21 => k_is)
    (case h_a22 => k_is)
    (case h_l22 => k_is)
    (case h_c22 => k_is)
    (case h_k22 => k_is)
    (case h_a23 => k_is)
    (case h_l23 => k_is)
    (case h_c23 => k_is)
    (case h_k23 => k_is)
    (case h_a24 => k_is)
    (case h_l24 => k_is)
    (case h_c24 => k_is)
    (case h_k24 => k_is)
    (case h_x0 => k_is)
    (case h_y0 => k_exc)
    (case h_xk0 => k_is)
    (case h_xs0 => k_is)
    (case h_xt0 => k_is)
    (case h_x1 => k_is)
    (case h_y1 => k_exc)
    (case h_xk1 => k_is)
    (case h_xs1 => k_is)
    (case h_xt1 => k_is)
    (case h_g0 => k_is)
    (case h_g1 => k_is)
    (case h_z0 => k_is)
    (case h_z1 => k_is)
    (case h_z2 => k_is)
    (case h_z3 => k_is)
    (case h_z4 => k_is)
    (case h_z5 => k_is)
    (case h_z6 => k_is)
    (case h_z7 => k_is)
    (case h_z8 => k_is)
    (case h_z9 => k_is)
    (case h_z10 => k_is)
    (case h_z11 => k_is)
    (case h_z12 => k_is)
    (case h_z13 => k_is)
    (case h_z14 => k_is)
