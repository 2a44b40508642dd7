import PyProof.Rows.All
import Wide.All
import OpenK.AllK
import Wide.FinOn
import HandS.ForMost
import HandS.Walk
import HandS.Zip
import HandS.TupAny
import HandS.TupMul
import HandS.TupLe
import HandS.Style
import HandS.Deep
import HandS.IsInst
import HandS.Exc
import HandS.TryOnly
import HandS.ExcOwn
import HandS.WordsExc
import HandS.Lambda
import HandS.Text
import HandS.StrMore
import KE.SortCalls
import KE.SortData
import KE.DataCmp
import KE.DataMinMax
import PyProof.TupleOfSeq
import KE.GoesEnum
import HandS.ExcValue
import HandS.ExcIs
import HandS.EndBits
import HandS.EndTab
import PyProof.Rows.CountFlat
import PySem.Challenge.RW_brokenparts_k33_whole_all_ways
set_option Elab.async false
set_option linter.all false
set_option maxRecDepth 100000
set_option maxHeartbeats 4000000
/-! EvA: a small language of its own (expressions E, statements S), a reader of PySem's terms into it, and what it computes. -/
namespace Ev
open PySem PySem.Spec PyProof.Rows L2

abbrev D := PyData

/-- what a piece of code gives: a value, an own exception by its class's name, or nothing that is told -/
inductive R (α : Type) where
  | ok (a : α) | exc (c : Str) | bad
def R.bind {α β : Type} : R α → (α → R β) → R β
  | .ok a, f => f a
  | .exc c, _ => .exc c
  | .bad, _ => .bad
instance : Monad R where
  pure := R.ok
  bind := R.bind
@[simp] theorem bind_ok {α β : Type} (a : α) (f : α → R β) : (R.ok a >>= f) = f a := rfl
@[simp] theorem bind_exc {α β : Type} (c : Str) (f : α → R β) : ((R.exc c : R α) >>= f) = .exc c := rfl
@[simp] theorem bind_bad {α β : Type} (f : α → R β) : ((R.bad : R α) >>= f) = .bad := rfl
@[simp] theorem pure_ok {α : Type} (a : α) : (pure a : R α) = .ok a := rfl

/-- a slot: data, or a list that this def alone holds -/
inductive Sl where
  | dat (d : D) | own (ds : List D)
abbrev Env := List (Option Sl)

inductive Tg where
  | nm (i : Nat) | tp (ts : List Tg)

inductive Bf where
  | len | int | tuple | list | all | max1 | max2 | abs | sum | sorted | str | setsorted | min1
inductive Mf where
  | upper | join | split | lstrip
inductive Ty where
  | str | tuple | int | bool | list

mutual
inductive E where
  | cst (d : D)
  | slot (i : Nat)
  | glob (x : Str)
  | tup (es : List E)
  | lst (es : List E)
  | bin (op : Operator) (a b : E)
  | neg (a : E)
  | cmp (op : CmpOp) (a b : E)
  | cmp2 (op op2 : CmpOp) (a b c : E)
  | band (a b : E)
  | bor (a b : E)
  | bnot (a : E)
  | ite (c a b : E)
  | ix (a b : E)
  | cut (a : E) (lo hi : Option E)
  | rev (a : E)
  | call (f : Str) (es : List E)
  | blt (f : Bf) (es : List E)
  | meth (m : Mf) (o : E) (es : List E)
  | isi (a : E) (t : Ty)
  | told (a : E)
  | lc (ws : List Nat) (tg : Tg) (it : Wk) (cond : E) (elt : E)
  | bad
/-- what is walked -/
inductive Wk where
  | sq (e : E)
  | rng (a b : E)
  | enm (a : E)
  | zip (a b : E)
end

inductive S where
  | set (i : Nat) (e : E)
  | seto (i : Nat) (e : E)
  | asg (t : Tg) (e : E)
  | par (is : List Nat) (es : List E)
  | app (i : Nat) (e : E)
  | pop (i : Nat)
  | exp (e : E)
  | ret (e : E)
  | ret0
  | ife (c : E) (a b : List S)
  | for (t : Tg) (it : Wk) (body : List S)
  | fz (js : List Nat) (s : S)
  | raise (c : Str)
  | cont | brk | pass
  | bad

/-! ### what the pieces compute -/
def lim : Nat := 16777216
def truth : D → R D
  | .none => .ok (.bool false)
  | .bool b => .ok (.bool b)
  | .int i => .ok (.bool (i != 0))
  | .str x => if x.length ≤ lim then .ok (.bool ((x.length : Int) != 0)) else .bad
  | .list xs => .ok (.bool (!xs.isEmpty))
  | .tuple xs => .ok (.bool (!xs.isEmpty))
  | .dict _ => .bad
def md (m : Bool) (r : R D) : R D := if m then r >>= truth else r
def cutL {α : Type} (xs : List α) (lo hi : Option Int) : List α := (xs.drop (HT.sIx xs.length 0 lo)).take (HT.sIx xs.length xs.length hi - HT.sIx xs.length 0 lo)
def big (i : Int) : Bool := decide (-(2 ^ 64) < i) && decide (i < 2 ^ 64)

/-- a text n times -/
def mulS (x : Str) (n : Nat) : Str := ⟨(List.replicate n x.cps.toList).flatten.toArray⟩
def revS (x : Str) : Str := ⟨x.cps.toList.reverse.toArray⟩
def binD : Operator → D → D → R D
  | .Add, .int i, .int j => .ok (.int (i + j))
  | .Add, .str x, .str y => if x.length + y.length ≤ lim then .ok (.str (x ++ y)) else .bad
  | .Add, .tuple xs, .tuple ys => if xs.length + ys.length ≤ lim then .ok (.tuple (xs ++ ys)) else .bad
  | .Add, .list xs, .list ys => if xs.length + ys.length ≤ lim then .ok (.list (xs ++ ys)) else .bad
  | .Sub, .int i, .int j => .ok (.int (i - j))
  | .Mult, .int i, .int j => if big i || big j then .ok (.int (i * j)) else .bad
  | .Mult, .tuple xs, .int k => if !xs.isEmpty && decide (2 ≤ k) && decide (k ≤ 1000) && decide (xs.length ≤ 1000) then .ok (.tuple (List.replicate k.toNat xs).flatten) else .bad
  | .Mult, .str x, .int k => if decide (-1000 ≤ k) && decide (k ≤ 1000) && decide (x.length ≤ 1000) then .ok (.str (mulS x k.toNat)) else .bad
  | .FloorDiv, .int i, .int j => if 0 < j ∧ j < 1073741824 then .ok (.int (i / j)) else .bad
  | .Mod, .int i, .int j => if 0 < j then .ok (.int (i % j)) else .bad
  | _, _, _ => .bad

def shp (d : D) : Bool := SeqAt.shaped d
def isNone : D → Bool
  | .none => true
  | _ => false
def isD (neg : Bool) (d : D) : D → R D
  | .none => .ok (.bool (if neg then !isNone d else isNone d))
  | .bool b => match d with
    | .bool a => .ok (.bool (if neg then !decide (a = b) else decide (a = b)))
    | _ => .bad
  | _ => .bad
def inD (neg : Bool) (d : D) : D → R D
  | .list ds => if shp d && shp (.list ds) then .ok (.bool (if neg then !ds.any fun z => PyData.eqv z d else ds.any fun z => PyData.eqv z d)) else .bad
  | .tuple ds => if shp d && shp (.tuple ds) then .ok (.bool (if neg then !ds.any fun z => PyData.eqv z d else ds.any fun z => PyData.eqv z d)) else .bad
  | .str z => match d with
    | .str x => match x.cps.toList with
      | [c] => .ok (.bool (if neg then !decide (c ∈ z.cps.toList) else decide (c ∈ z.cps.toList)))
      | _ => .bad
    | _ => .bad
  | _ => .bad
/-- the two can be compared by < -/
def alk (d e : D) : Bool := PySem.W.alike d e && decide (min d.depth e.depth ≤ 60)
def ltD : D → D → R D
  | .int i, .int j => .ok (.bool (decide (i < j)))
  | .str x, .str y => .ok (.bool (decide (x.cps.toList < y.cps.toList)))
  | .tuple xs, .tuple ys => if alk (.tuple xs) (.tuple ys) then .ok (.bool (PySem.W.dataLt (.tuple xs) (.tuple ys))) else .bad
  | _, _ => .bad
def leD : D → D → R D
  | .int i, .int j => .ok (.bool (decide (i ≤ j)))
  | .str x, .str y => .ok (.bool (!decide (y.cps.toList < x.cps.toList)))
  | .tuple xs, .tuple ys => if alk (.tuple ys) (.tuple xs) then .ok (.bool (!PySem.W.dataLt (.tuple ys) (.tuple xs))) else .bad
  | _, _ => .bad
def cmpD (op : CmpOp) (d e : D) : R D := match op with
  | .Eq => if shp d && shp e then .ok (.bool (PyData.eqv d e)) else .bad
  | .NotEq => if shp d && shp e then .ok (.bool (!PyData.eqv d e)) else .bad
  | .Lt => ltD d e
  | .LtE => leD d e
  | .Gt => ltD e d
  | .GtE => leD e d
  | .Is => isD false d e
  | .IsNot => isD true d e
  | .In => inD false d e
  | .NotIn => inD true d e

def ixD : D → D → R D
  | .tuple xs, .int i => match atI xs i with | some d => .ok d | none => .bad
  | .list xs, .int i => match atI xs i with | some d => .ok d | none => .bad
  | .str z, .int i => if z.length ≤ lim then (match atI z.cps.toList i with | some c => .ok (.str ⟨#[c]⟩) | none => .bad) else .bad
  | _, _ => .bad
def cutD : D → Option Int → Option Int → R D
  | .tuple xs, lo, hi => .ok (.tuple (cutL xs lo hi))
  | .list xs, lo, hi => .ok (.list (cutL xs lo hi))
  | .str z, lo, hi => if z.length ≤ lim then .ok (.str (cutS z lo hi)) else .bad
  | _, _, _ => .bad
def revD : D → R D
  | .list xs => .ok (.list xs.reverse)
  | .tuple xs => .ok (.tuple xs.reverse)
  | .str z => if z.length ≤ lim then .ok (.str (revS z)) else .bad
  | _ => .bad

def Ty.name : Ty → String
  | .str => "str" | .tuple => "tuple" | .int => "int" | .bool => "bool" | .list => "list"
def isiD : D → Ty → R D
  | .none, _ => .ok (.bool false)
  | .bool _, .bool => .ok (.bool true)
  | .bool _, .int => .ok (.bool true)
  | .bool _, _ => .ok (.bool false)
  | .int _, .int => .ok (.bool true)
  | .int _, _ => .ok (.bool false)
  | .str _, .str => .ok (.bool true)
  | .str _, _ => .ok (.bool false)
  | .tuple _, .tuple => .ok (.bool true)
  | .tuple _, _ => .ok (.bool false)
  | .list _, .list => .ok (.bool true)
  | .list _, _ => .ok (.bool false)
  | .dict _, _ => .bad

def boolsOf : List D → Option (List Bool)
  | [] => some []
  | .bool b :: r => (boolsOf r).map (b :: ·)
  | _ :: _ => none
def intsOf : List D → Option (List Int)
  | [] => some []
  | .int b :: r => (intsOf r).map (b :: ·)
  | _ :: _ => none
def maxL : Int → List Int → Int
  | m, [] => m
  | m, x :: r => maxL (if x > m then x else m) r

def strsOf : List D → Option (List Str)
  | [] => some []
  | .str b :: r => (strsOf r).map (b :: ·)
  | _ :: _ => none
/-- every two can be compared -/
def alks (ds : List D) : Bool := ds.all fun x => ds.all fun y => PySem.W.alike x y
def neTup : D → Bool
  | .tuple (_ :: _) => true
  | _ => false
def noTup : D → Bool
  | .none => false
  | .tuple _ => false
  | _ => true
def isTupD : D → Bool
  | .tuple _ => true
  | _ => false
/-- tuples with an item all, or no tuples, or tuples of which the first is empty -/
def srtable (ds : List D) : Bool := ds.all neTup || ds.all noTup || (match ds with
  | .tuple [] :: r => r.all isTupD
  | _ => false)
def srt (ds : List D) : List D := ds.mergeSort fun a b => !PySem.W.dataLt b a
def srtD (ds : List D) : R D := if alks ds && srtable ds && decide (PyData.depthAll ds ≤ 60) then .ok (.list (srt ds)) else .bad
def bltD : Bf → List D → R D
  | .len, [.str z] => if z.length ≤ lim then .ok (.int z.length) else .bad
  | .len, [.tuple xs] => .ok (.int xs.length)
  | .len, [.list xs] => .ok (.int xs.length)
  | .int, [.bool b] => .ok (.int (if b then 1 else 0))
  | .int, [.int i] => .ok (.int i)
  | .tuple, [.list xs] => .ok (.tuple xs)
  | .tuple, [.tuple xs] => .ok (.tuple xs)
  | .list, [.list xs] => .ok (.list xs)
  | .list, [.tuple xs] => .ok (.list xs)
  | .all, [.list xs] => match boolsOf xs with | some bs => .ok (.bool (bs.all id)) | none => .bad
  | .max1, [.list xs] => match intsOf xs with | some (m :: ns) => .ok (.int (maxL m ns)) | _ => .bad
  | .max2, [.int i, .int j] => .ok (.int (if j > i then j else i))
  | .abs, [.int i] => .ok (.int (if i < 0 then -i else i))
  | .sum, [.list xs] => match intsOf xs with | some ns => .ok (.int ns.sum) | none => .bad
  | .sorted, [.list xs] => srtD xs
  | .sorted, [.tuple xs] => srtD xs
  | .min1, [.list (x :: xs)] => if alks (x :: xs) && (x :: xs).all (fun d => !isNone d) && decide (PyData.depthAll (x :: xs) ≤ 60) then .ok (PySem.W.minD x xs) else .bad
  | .str, [.int i] => if i.natAbs.log2 < 1920 then .ok (.str (toString i)) else .bad
  | _, _ => .bad
def methD : Mf → D → List D → R D
  | .upper, .str z, [] => if z.length ≤ 5592405 then .ok (.str (Txt.upper z)) else .bad
  | .join, .str z, [.list xs] => match strsOf xs with
    | some ys => if (ys.map (·.length)).sum + ys.length * z.length ≤ lim then .ok (.str (Txt.join z ys)) else .bad
    | none => .bad
  | .split, .str a, [.str b] => if (!(b.length == 0)) && decide (a.length + 2 ≤ lim) then .ok (.list ((Txt.split a b).map PyData.str)) else .bad
  | .lstrip, .str a, [.str b] => if a.length ≤ lim then .ok (.str (Txt.lstripChars a b)) else .bad
  | _, _, _ => .bad
/-- a text -/
def strR : D → R D
  | .str z => .ok (.str z)
  | _ => .bad
def mfOf (x : Str) (n : Nat) : Option Mf :=
  if n = 0 then (if x = ("upper" : Str) then some .upper else none)
  else if n = 1 then (if x = ("join" : Str) then some .join else if x = ("split" : Str) then some .split else if x = ("lstrip" : Str) then some .lstrip else none)
  else none
/-- super() and the like -/
def isCall0 : Expr → Bool
  | .Call _ [] [] _ => true
  | _ => false

/-! ### slots -/
def getS (env : Env) (i : Nat) : R D := match env[i]? with
  | some (some (.dat d)) => .ok d
  | _ => .bad
def wipeE (env : Env) : List Nat → Env
  | [] => env
  | v :: vs => (wipeE env vs).set v none
mutual
def bindT : Tg → D → Env → R Env
  | .nm i, d, env => .ok (env.set i (some (.dat d)))
  | .tp ts, .tuple ds, env => bindTs ts ds env
  | .tp _, _, _ => .bad
def bindTs : List Tg → List D → Env → R Env
  | [], [], env => .ok env
  | t :: ts, d :: ds, env => bindT t d env >>= bindTs ts ds
  | [], _ :: _, _ => .bad
  | _ :: _, [], _ => .bad
end

/-! ### the evaluator -/
/-- fn: the defs' parameters; run: what a def gives; gl: constants; ex: the places of the classes that a teller tells; lo: what a def gives within a lambda -/
structure G where
  fn : Str → Option (List Str)
  run : Str → List D → R D
  gl : Str → Option D
  ex : Str → Option Nat := fun _ => none
  lo : Option (Str → List D → R D) := none
/-- within a lambda -/
def G.low (g : G) (r : Str → List D → R D) : G := ⟨g.fn, r, g.gl, g.ex, none⟩
/-- a teller's answer -/
def toldR (ex : Str → Option Nat) : R D → R D
  | .ok d => .ok (.tuple [.str "told", d])
  | .exc c => match ex c with
    | some k => .ok (.tuple [.str "refused", .int (k : Int)])
    | none => .bad
  | .bad => .bad

def enumFrom (k : Int) : List D → List D
  | [] => []
  | d :: r => .tuple [.int k, d] :: enumFrom (k + 1) r
def rngL (i j : Int) : List D := (List.range (j - i).toNat).map fun k : Nat => PyData.int (i + (k : Int))
def strL (z : Str) : List D := z.cps.toList.map fun c => PyData.str ⟨#[c]⟩
def ord62 (i : Int) : Bool := decide (-(2 ^ 62) ≤ i) && decide (i < 2 ^ 62)

def lcLoop (tg : Tg) (c e : Env → R D) (ws : List Nat) (env : Env) : List D → List D → R D
  | [], acc => .ok (.list acc)
  | d :: r, acc => bindT tg d (wipeE env ws) >>= fun env1 =>
    c env1 >>= fun k => match k with
      | .bool true => e env1 >>= fun y => if acc.length < lim then lcLoop tg c e ws env r (acc ++ [y]) else .bad
      | .bool false => lcLoop tg c e ws env r acc
      | _ => .bad

/-- exceptions are not let out of a comprehension here -/
def noExc : R D → R D
  | .exc _ => .bad
  | r => r

mutual
/-- m: as a test -/
def ev (g : G) (m : Bool) : E → Env → R D
  | .cst d, _ => md m (.ok d)
  | .slot i, env => md m (getS env i)
  | .glob x, _ => md m (match g.gl x with | some d => .ok d | none => .bad)
  | .tup es, env => md m (evL g es env >>= fun ds => if ds.length ≤ lim then .ok (.tuple ds) else .bad)
  | .lst es, env => md m (evL g es env >>= fun ds => if ds.length ≤ lim then .ok (.list ds) else .bad)
  | .bin op a b, env => md m (ev g false a env >>= fun x => ev g false b env >>= fun y => binD op x y)
  | .neg a, env => md m (ev g false a env >>= fun x => match x with | .int i => .ok (.int (-i)) | _ => .bad)
  | .cmp op a b, env => ev g false a env >>= fun x => ev g false b env >>= fun y => cmpD op x y
  | .cmp2 op op2 a b c, env => ev g false a env >>= fun x => ev g false b env >>= fun y => cmpD op x y >>= fun k => match k with
      | .bool true => ev g false c env >>= fun z => cmpD op2 y z
      | .bool false => .ok (.bool false)
      | _ => .bad
  | .band a b, env => ev g m a env >>= fun k => match k with
      | .bool true => ev g m b env
      | .bool false => .ok (.bool false)
      | _ => .bad
  | .bor a b, env => ev g m a env >>= fun k => match k with
      | .bool true => .ok (.bool true)
      | .bool false => ev g m b env
      | _ => .bad
  | .bnot a, env => ev g m a env >>= fun k => match k with
      | .bool b => .ok (.bool (!b))
      | _ => .bad
  | .ite c a b, env => if m then .bad else (ev g true c env >>= fun k => match k with
      | .bool true => ev g false a env
      | .bool false => ev g false b env
      | _ => .bad)
  | .ix a b, env => md m (ev g false a env >>= fun x => ev g false b env >>= fun y => ixD x y)
  | .cut a lo hi, env => md m (ev g false a env >>= fun x => evO g lo env >>= fun l => evO g hi env >>= fun h => cutD x l h)
  | .rev a, env => md m (ev g false a env >>= revD)
  | .call f es, env => md m (evL g es env >>= fun ds => match g.fn f with
      | some ps => if ds.length = ps.length then g.run f ds else .bad
      | none => .bad)
  | .blt f es, env => md m (evL g es env >>= bltD f)
  | .meth f o es, env => md m (ev g false o env >>= fun x => strR x >>= fun x => evL g es env >>= methD f x)
  | .isi a t, env => md m (ev g false a env >>= fun x => isiD x t)
  | .told a, env => match g.lo with
    | some r => md m (toldR g.ex (ev (g.low r) false a env))
    | none => .bad
  | .lc ws tg it c e, env => md m (evI g it env >>= fun ds => lcLoop tg (fun env' => noExc (ev g true c env')) (fun env' => noExc (ev g false e env')) ws env ds [])
  | .bad, _ => .bad
termination_by structural e => e
def evL (g : G) : List E → Env → R (List D)
  | [], _ => .ok []
  | e :: es, env => ev g false e env >>= fun d => evL g es env >>= fun ds => .ok (d :: ds)
termination_by structural es => es
def evO (g : G) : Option E → Env → R (Option Int)
  | none, _ => .ok none
  | some e, env => ev g false e env >>= fun d => match d with | .int i => .ok (some i) | _ => .bad
termination_by structural o => o
/-- what is walked, item by item -/
def evI (g : G) : Wk → Env → R (List D)
  | .rng a b, env => ev g false a env >>= fun x => ev g false b env >>= fun y => match x, y with
      | .int i, .int j => if ord62 i && ord62 j then .ok (rngL i j) else .bad
      | _, _ => .bad
  | .enm a, env => ev g false a env >>= fun x => match x with
      | .tuple ds => .ok (enumFrom 0 ds)
      | .list ds => .ok (enumFrom 0 ds)
      | _ => .bad
  | .zip a b, env => ev g false a env >>= fun x => ev g false b env >>= fun y => match x, y with
      | .tuple ds, .tuple es => .ok (List.zipWith (fun d e => PyData.tuple [d, e]) ds es)
      | .list ds, .list es => .ok (List.zipWith (fun d e => PyData.tuple [d, e]) ds es)
      | _, _ => .bad
  | .sq e, env => ev g false e env >>= fun x => match x with
      | .tuple ds => .ok ds
      | .list ds => .ok ds
      | .str z => .ok (strL z)
      | _ => .bad
termination_by structural i => i
end

/-! ### statements -/
inductive RS where
  | nx (env : Env) | rt (d : D) | bk (env : Env) | ct (env : Env) | exc (c : Str) | bad
def RS.seq : RS → (Env → RS) → RS
  | .nx env, f => f env
  | r, _ => r
def R.toS (r : R D) (f : D → RS) : RS := match r with
  | .ok d => f d
  | .exc c => .exc c
  | .bad => .bad
def R.toE (r : R Env) : RS := match r with
  | .ok e => .nx e
  | .exc c => .exc c
  | .bad => .bad
def relS1 : Option Sl → Option Sl
  | some (.own ds) => some (.dat (.list ds))
  | s => s
/-- all lists of its own given out -/
def rel (env : Env) : Env := env.map relS1
def frz1 (env : Env) (j : Nat) : Env := match env[j]? with
  | some (some (.own ds)) => env.set j (some (.dat (.list ds)))
  | _ => env
def frz (env : Env) : List Nat → Env
  | [] => env
  | j :: js => frz (frz1 env j) js
def setAll (env : Env) : List Nat → List D → R Env
  | [], [] => .ok env
  | i :: is, d :: ds => setAll (env.set i (some (.dat d))) is ds
  | _, _ => .bad
def forLoop (tg : Tg) (body : Env → RS) : List D → Env → RS
  | [], env => .nx env
  | d :: r, env => match bindT tg d env with
    | .ok env1 => match body env1 with
      | .nx e => forLoop tg body r e
      | .ct e => forLoop tg body r e
      | .bk e => .nx e
      | .rt d => .rt d
      | .exc c => .exc c
      | .bad => .bad
    | _ => .bad
mutual
def ex1 (g : G) : S → Env → RS
  | .set i e, env => (ev g false e env).toS fun d => .nx (env.set i (some (.dat d)))
  | .seto i e, env => (ev g false e env).toS fun d => match d with
      | .list ds => .nx (env.set i (some (.own ds)))
      | _ => .bad
  | .asg t e, env => (ev g false e env).toS fun d => (bindT t d env).toE
  | .par is es, env => match evL g es env with
      | .ok ds => (setAll env is ds).toE
      | .exc c => .exc c
      | .bad => .bad
  | .app i e, env => match env[i]? with
      | some (some (.own ds)) => (ev g false e env).toS fun d => if ds.length < lim then .nx (env.set i (some (.own (ds ++ [d])))) else .bad
      | _ => .bad
  | .pop i, env => match env[i]? with
      | some (some (.own ds)) => if ds.isEmpty then .bad else .nx (env.set i (some (.own ds.dropLast)))
      | _ => .bad
  | .exp e, env => (ev g false e env).toS fun _ => .nx env
  | .ret e, env => (ev g false e (rel env)).toS fun d => .rt d
  | .ret0, _ => .rt .none
  | .ife c a b, env => (ev g true c (rel env)).toS fun k => match k with
      | .bool true => exs g a env
      | .bool false => exs g b env
      | _ => .bad
  | .for t it body, env => match evI g it env with
      | .ok ds => forLoop t (fun e => exs g body e) ds env
      | .exc c => .exc c
      | .bad => .bad
  | .fz js s, env => ex1 g s (frz env js)
  | .raise c, _ => .exc c
  | .cont, env => .ct env
  | .brk, env => .bk env
  | .pass, env => .nx env
  | .bad, _ => .bad
termination_by structural s => s
def exs (g : G) : List S → Env → RS
  | [], env => .nx env
  | s :: r, env => (ex1 g s env).seq (exs g r)
termination_by structural s => s
end

/-- a def: its parameters, how many slots, its body -/
structure Fn where
  ps : List Str
  n : Nat
  body : List S
def startE (n : Nat) (ds : List D) : Env := ds.map (fun d => some (.dat d)) ++ List.replicate (n - ds.length) none
def RS.out : RS → R D
  | .nx _ => .ok .none
  | .rt d => .ok d
  | .exc c => .exc c
  | _ => .bad
/-- T: the defs that are read; X: defs that are told otherwise -/
structure Pr where
  T : Str → Option Fn
  gl : Str → Option D
  X : Str → Option (List Str × (List D → R D))
  ex : Str → Option Nat := fun _ => none
def Pr.fn (P : Pr) (f : Str) : Option (List Str) := match P.X f with
  | some q => some q.1
  | none => (P.T f).map (·.ps)
/-- what a def gives within a lambda -/
def run (P : Pr) : Nat → Str → List D → R D
  | 0 => fun _ _ => .bad
  | n + 1 => fun f ds => match P.X f with
    | some q => q.2 ds
    | none => match P.T f with
      | none => .bad
      | some F => (exs ⟨P.fn, run P n, P.gl, P.ex, match n with
        | m + 2 => some (run P m)
        | _ => none⟩ F.body (startE F.n ds)).out
def loOf (P : Pr) : Nat → Option (Str → List D → R D)
  | m + 2 => some (run P m)
  | _ => none
def gOf (P : Pr) (n : Nat) : G := ⟨P.fn, run P n, P.gl, P.ex, loOf P n⟩
theorem run_succ {P : Pr} {n : Nat} {f : Str} {F : Fn} (hx : P.X f = none) (h : P.T f = some F) (ds : List D) : run P (n + 1) f ds = (exs (gOf P n) F.body (startE F.n ds)).out := by
  unfold run
  rw [hx]
  try dsimp only
  rw [h]
  match n with
  | 0 => rfl
  | 1 => rfl
  | m + 2 => rfl
theorem run_given {P : Pr} {n : Nat} {f : Str} {q : List Str × (List D → R D)} (hx : P.X f = some q) (ds : List D) : run P (n + 1) f ds = q.2 ds := by
  unfold run
  rw [hx]

/-! ### the reader -/
/-- the names of the program: own defs, built-ins that no name of the module hides -/
structure Nm where
  fns : List Str
  bl : List Str
  excs : List Str
  told : List Str := []
structure Sc where
  N : List Str
  sc : Scope
  fn : Str → Bool
  lam : Bool := false
def idxN : List Str → Str → Option Nat
  | [], _ => none
  | y :: r, x => if y = x then some 0 else (idxN r x).map (· + 1)
theorem idxN_get : ∀ {N : List Str} {x : Str} {i : Nat}, idxN N x = some i → N[i]? = some x
  | [], _, _, h => by cases h
  | y :: r, x, i, h => by
    unfold idxN at h
    split at h
    · rename_i e
      cases h
      rw [e]; rfl
    · cases q : idxN r x with
      | none => rw [q] at h; cases h
      | some j =>
        rw [q] at h
        cases h
        show r[j]? = some x
        exact idxN_get q
def dunder (x : Str) : Bool := x == ("__debug__" : Str) || x == ("__classdict__" : Str) || x == ("__name__" : Str)
def visB (k : Option NameKind) : Bool := match k with
  | some .local => true | some .cell => true | some .free => true | _ => false
def glB (Z : Sc) (x : Str) : Bool := (match Z.sc.names.lookup x with | some .globalImplicit => true | _ => false) && !dunder x
def locB (Z : Sc) (x : Str) : Bool := match Z.sc.names.lookup x with
  | some .local => true
  | some .cell => Z.fn x
  | _ => false
def trName (Z : Sc) (x : Str) : E :=
  if dunder x then .bad
  else if visB (Z.sc.names.lookup x) then (match idxN Z.N x with | some i => .slot i | none => .bad)
  else if glB Z x then .glob x else .bad
mutual
def trT (Z : Sc) : Expr → Option Tg
  | .Name x _ => if locB Z x then (idxN Z.N x).map .nm else none
  | .Tuple es _ _ => (trTs Z es).map .tp
  | _ => none
termination_by structural e => e
def trTs (Z : Sc) : List Expr → Option (List Tg)
  | [] => some []
  | e :: es => match trT Z e, trTs Z es with
    | some t, some ts => some (t :: ts)
    | _, _ => none
termination_by structural e => e
end
def tyOf (x : Str) : Option Ty :=
  if x = ("str" : Str) then some .str else if x = ("tuple" : Str) then some .tuple else if x = ("int" : Str) then some .int
  else if x = ("bool" : Str) then some .bool else if x = ("list" : Str) then some .list else none
def bfOf (x : Str) (n : Nat) : Option Bf :=
  if n = 1 then
    if x = ("len" : Str) then some .len else if x = ("int" : Str) then some .int else if x = ("tuple" : Str) then some .tuple
    else if x = ("list" : Str) then some .list else if x = ("all" : Str) then some .all else if x = ("max" : Str) then some .max1
    else if x = ("abs" : Str) then some .abs else if x = ("sum" : Str) then some .sum else if x = ("sorted" : Str) then some .sorted
    else if x = ("min" : Str) then some .min1 else if x = ("str" : Str) then some .str else none
  else if n = 2 then
    if x = ("max" : Str) then some .max2 else none
  else none
def blB (M : Nm) (Z : Sc) (x : Str) : Bool := glB Z x && M.bl.contains x
def isStar : Expr → Bool
  | .Starred _ _ => true
  | _ => false
def isSet : Expr → Bool
  | .Set _ _ _ => true
  | _ => false
def isTup : Expr → Bool
  | .Tuple _ _ _ => true
  | _ => false
/-- the own names of a comprehension's block, by their slots -/
def ownOf (N : List Str) (scope : Scope) : List (Str × Nat) := scope.names.filterMap fun y => match y.2 with
  | .local => (idxN N y.1).map fun i => (y.1, i)
  | .cell => (idxN N y.1).map fun i => (y.1, i)
  | _ => none
/-- within a lambda without parameters -/
def Sc.lamb (Z : Sc) (scope : Scope) : Sc := ⟨Z.N, scope, fun _ => false, false⟩
def noPar (a : Arguments) : Bool := a.posonlyargs.isEmpty && a.args.isEmpty && a.vararg.isNone && a.kwonlyargs.isEmpty && a.kw_defaults.isEmpty && a.kwarg.isNone && a.defaults.isEmpty
def Sc.blk (Z : Sc) (scope : Scope) : Sc := ⟨Z.N, L2.relS scope Z.sc, fun x => scope.names.lookup x == some .cell, false⟩
mutual
def slotsT : Tg → List Nat
  | .nm i => [i]
  | .tp ts => slotsTs ts
termination_by structural t => t
def slotsTs : List Tg → List Nat
  | [] => []
  | t :: ts => slotsT t ++ slotsTs ts
termination_by structural t => t
end
/-- a comprehension's target goes to names of the block's own -/
def ownsT (Z : Sc) (scope : Scope) (tg : Expr) : Bool := match trT (Z.blk scope) tg with
  | some t => (slotsT t).all fun i => ((ownOf Z.N scope).map (·.2)).contains i
  | none => false
def isUSub : UnaryOp → Bool
  | .USub => true
  | _ => false
def isM1 : Expr → Bool
  | .UnaryOp op (.Constant (.int i) _ _) _ => isUSub op && decide (i = 1)
  | _ => false
def isRevS (lo hi st : Option Expr) : Bool := lo.isNone && hi.isNone && (match st with | some e => isM1 e | none => false)
def trCall (M : Nm) (Z : Sc) (f : Str) (e : Expr) (es : List Expr) (e' : E) (args : List E) (lam : Option E) : E :=
  if (e :: es).any isStar then .bad
  else if glB Z f then
    (if M.told.contains f then (match es, lam with
      | [], some b => .told b
      | _, _ => .bad)
    else if M.fns.contains f then .call f args
    else if M.bl.contains f then
      (match bfOf f (es.length + 1) with
      | some b => .blt b args
      | none => if f = ("isinstance" : Str) then (match es with
        | [.Name t _] => (match tyOf t with
          | some t' => if blB M Z t then .isi e' t' else .bad
          | none => .bad)
        | _ => .bad) else .bad)
    else .bad)
  else .bad
def trLc (Z : Sc) (tg iter : Expr) (a : Int) (scope : Scope) (it : Wk) (cs : List E) (elt : E) : E :=
  if decide (a = 0) && blkC Z.N Z.sc scope (ownOf Z.N scope) && ownsT Z scope tg && !isSet iter then
    (match trT (Z.blk scope) tg with
    | some t => (match cs with
      | [] => .lc ((ownOf Z.N scope).map (·.2)) t it (.cst (.bool true)) elt
      | [c] => .lc ((ownOf Z.N scope).map (·.2)) t it c elt
      | _ => .bad)
    | none => .bad)
  else .bad
mutual
def tr (M : Nm) (Z : Sc) : Expr → E
  | .Constant .none _ _ => .cst .none
  | .Constant (.bool b) _ _ => .cst (.bool b)
  | .Constant (.int i) _ _ => .cst (.int i)
  | .Constant (.str s) _ _ => .cst (.str s)
  | .Name x _ => trName Z x
  | .BoolOp op es _ => trB M Z op es
  | .BinOp a op b _ => .bin op (tr M Z a) (tr M Z b)
  | .UnaryOp .Not a _ => .bnot (tr M Z a)
  | .UnaryOp .USub a _ => .neg (tr M Z a)
  | .IfExp c a b _ => .ite (tr M Z c) (tr M Z a) (tr M Z b)
  | .Compare a [op] [b] _ => if behindInMarks op b then .bad else .cmp op (tr M Z a) (tr M Z b)
  | .Compare a [op, op2] [b, c] _ => if behindInMarks op2 c then .bad else .cmp2 op op2 (tr M Z a) (tr M Z b) (tr M Z c)
  | .List es _ => if es.any isStar then .bad else .lst (trL M Z es)
  | .Tuple es _ _ => if es.any isStar then .bad else .tup (trL M Z es)
  | .Subscript a (.Slice lo hi st _) _ => if st.isNone then .cut (tr M Z a) (trO M Z lo) (trO M Z hi) else if isRevS lo hi st then .rev (tr M Z a) else .bad
  | .Subscript a b _ => .ix (tr M Z a) (tr M Z b)
  | .Call (.Name f _) (e :: es) [] _ => trCall M Z f e es (tr M Z e) (trL M Z (e :: es)) (trLam M Z e)
  | .Call (.Attribute o m ap) [] [] cp => if (ap.endLine == cp.line) && !isCall0 o then (match mfOf m 0 with
      | some f => .meth f (tr M Z o) []
      | none => .bad) else .bad
  | .Call (.Attribute o m ap) [e] [] cp => if (ap.endLine == cp.line) && !isCall0 o && !isStar e then (match mfOf m 1 with
      | some f => .meth f (tr M Z o) [tr M Z e]
      | none => .bad) else .bad
  | .ListComp elt [⟨tg, iter, ifs, a⟩] scope _ => trLc Z tg iter a scope ((trI M Z (isTup tg) iter).getD (.sq (tr M Z iter))) (trL M (Z.blk scope) ifs) (tr M (Z.blk scope) elt)
  | _ => .bad
termination_by structural e => e
/-- a lambda without parameters: its body -/
def trLam (M : Nm) (Z : Sc) : Expr → Option E
  | .Lambda params body scope _ => if Z.lam && noPar params && LamX.lamSB Z.sc scope then some (tr M (Z.lamb scope) body) else none
  | _ => none
termination_by structural e => e
def trL (M : Nm) (Z : Sc) : List Expr → List E
  | [] => []
  | e :: es => tr M Z e :: trL M Z es
termination_by structural e => e
def trO (M : Nm) (Z : Sc) : Option Expr → Option E
  | none => none
  | some e => some (tr M Z e)
termination_by structural e => e
def trB (M : Nm) (Z : Sc) (op : BoolOp) : List Expr → E
  | [] => .bad
  | e :: es => match op, es with
    | _, [] => tr M Z e
    | .And, e2 :: es2 => .band (tr M Z e) (trB M Z op (e2 :: es2))
    | .Or, e2 :: es2 => .bor (tr M Z e) (trB M Z op (e2 :: es2))
termination_by structural e => e
/-- tup: the target is a written tuple; none: walked as a value -/
def trI (M : Nm) (Z : Sc) (tup : Bool) : Expr → Option Wk
  | .Call (.Name f _) [a] [] _ =>
    if isStar a then none
    else if blB M Z f && decide (f = ("range" : Str)) then some (.rng (.cst (.int 0)) (tr M Z a))
    else if tup && blB M Z f && decide (f = ("enumerate" : Str)) then some (.enm (tr M Z a))
    else none
  | .Call (.Name f _) [a, b] [] _ =>
    if isStar a || isStar b then none
    else if blB M Z f && decide (f = ("range" : Str)) then some (.rng (tr M Z a) (tr M Z b))
    else if tup && blB M Z f && decide (f = ("zip" : Str)) then some (.zip (tr M Z a) (tr M Z b))
    else none
  | _ => none
termination_by structural e => e
end

mutual
/-- does the slot occur in it -/
def occ (i : Nat) : E → Bool
  | .slot j => i == j
  | .tup es => occL i es
  | .lst es => occL i es
  | .bin _ a b => occ i a || occ i b
  | .neg a => occ i a
  | .cmp _ a b => occ i a || occ i b
  | .cmp2 _ _ a b c => occ i a || occ i b || occ i c
  | .band a b => occ i a || occ i b
  | .bor a b => occ i a || occ i b
  | .bnot a => occ i a
  | .ite c a b => occ i c || occ i a || occ i b
  | .ix a b => occ i a || occ i b
  | .cut a lo hi => occ i a || occO i lo || occO i hi
  | .rev a => occ i a
  | .call _ es => occL i es
  | .blt _ es => occL i es
  | .meth _ o es => occ i o || occL i es
  | .isi a _ => occ i a
  | .told a => occ i a
  | .lc _ _ it c e => occI i it || occ i c || occ i e
  | _ => false
termination_by structural e => e
def occL (i : Nat) : List E → Bool
  | [] => false
  | e :: es => occ i e || occL i es
termination_by structural e => e
def occO (i : Nat) : Option E → Bool
  | none => false
  | some e => occ i e
termination_by structural e => e
def occI (i : Nat) : Wk → Bool
  | .sq e => occ i e
  | .rng a b => occ i a || occ i b
  | .enm a => occ i a
  | .zip a b => occ i a || occ i b
termination_by structural e => e
end
/-- s, the own lists (among O) that e names given out ahead of it -/
def fzd (O : List Nat) (p : Nat → Bool) (s : S) : S := match O.filter p with
  | [] => s
  | js => .fz js s
/-- an expression that makes a new list -/
def fresh : E → Bool
  | .lst _ => true
  | .bin .Add _ _ => true
  | .cut _ _ _ => true
  | .blt .list _ => true
  | .lc _ _ _ _ _ => true
  | _ => false
def freshX : Expr → Bool
  | .List _ _ => true | .BinOp _ _ _ _ => true | .Subscript _ _ _ => true | .Call (.Name _ _) _ _ _ => true | .ListComp _ _ _ _ => true
  | _ => false
def isComp : Expr → Bool
  | .ListComp _ _ _ _ => true | .SetComp _ _ _ _ => true | .DictComp _ _ _ _ _ => true | _ => false
/-- may a comprehension be stored so -/
def lcOk (Z : Sc) (x : Str) (px : Pos) : Expr → Bool
  | .ListComp _ _ scope pos => match Z.sc.names.lookup x with
    | some .local => px.line == pos.line && !(scope.names.any fun y => y.1 == x && (y.2 == .local || y.2 == .cell))
    | some .cell => true
    | _ => false
  | .SetComp _ _ _ _ => false
  | .DictComp _ _ _ _ _ => false
  | _ => true
def isLocal (Z : Sc) (x : Str) : Bool := match Z.sc.names.lookup x with | some .local => true | _ => false
def asgS (M : Nm) (Z : Sc) (O : List Nat) (ts : List Expr) (e : Expr) : S := match ts with
  | [.Name x px] => if locB Z x && lcOk Z x px e then (match idxN Z.N x with
      | some i => if O.contains i && freshX e && fresh (tr M Z e) then fzd O (fun j => occ j (tr M Z e)) (.seto i (tr M Z e)) else fzd O (fun j => occ j (tr M Z e)) (.set i (tr M Z e))
      | none => .bad) else .bad
  | [.Tuple us _ _] => (match us, e with
    | [.Name x px, .Name y py], .Tuple [a, b] _ _ =>
      if isLocal Z x && isLocal Z y && decide (x ≠ y) && px.line == py.line && !isStar a && !isStar b && !([a, b].all (foldedForSure 8)) && !([a, b].all (constantsAlone 8))
      then (match idxN Z.N x, idxN Z.N y with
        | some i, some j => fzd O (fun q => occ q (tr M Z a) || occ q (tr M Z b)) (.par [i, j] [tr M Z a, tr M Z b])
        | _, _ => .bad)
      else .bad
    | us, e => if isTup e || isComp e then .bad else (match trTs Z us with
      | some t => fzd O (fun j => occ j (tr M Z e)) (.asg (.tp t) (tr M Z e))
      | none => .bad))
  | _ => .bad
def expS (M : Nm) (Z : Sc) (O : List Nat) (e : Expr) : S := match e with
  | .Constant (.str _) _ _ => .pass
  | .Call (.Attribute (.Name x _) m ap) [e] [] cp =>
    if m = ("append" : Str) && (ap.endLine == cp.line) && visB (Z.sc.names.lookup x) && !dunder x && !isStar e then (match idxN Z.N x with
      | some i => fzd (O.filter (· != i)) (fun j => occ j (tr M Z e)) (.app i (tr M Z e))
      | none => .bad) else .bad
  | .Call (.Attribute (.Name x _) m ap) [] [] cp =>
    if m = ("pop" : Str) && (ap.endLine == cp.line) && visB (Z.sc.names.lookup x) && !dunder x then (match idxN Z.N x with
      | some i => .pop i
      | none => .bad) else .bad
  | e => if isComp e then .bad else fzd O (fun j => occ j (tr M Z e)) (.exp (tr M Z e))
def raiS (M : Nm) (Z : Sc) (e c : Option Expr) : S := match e, c with
  | some (.Call (.Name c _) [.Constant (.str _) _ _] [] _), none => if glB Z c && M.excs.contains c then .raise c else .bad
  | _, _ => .bad
def retS (M : Nm) (Z : Sc) (e : Option Expr) : S := match e with
  | some e => .ret (tr M Z e)
  | none => .ret0
def forS (M : Nm) (Z : Sc) (O : List Nat) (tg it : Expr) (orelse : List Stmt) (body : List S) : S := match orelse with
  | [] => if isSet it then .bad else (match trT Z tg with
      | some t => fzd O (fun j => occI j ((trI M Z (isTup tg) it).getD (.sq (tr M Z it)))) (.for t ((trI M Z (isTup tg) it).getD (.sq (tr M Z it))) body)
      | none => .bad)
  | _ => .bad
mutual
def trS (M : Nm) (Z : Sc) (O : List Nat) : Stmt → S
  | .Assign ts e _ => asgS M Z O ts e
  | .Return e _ => retS M Z e
  | .If c a b _ => .ife (tr M Z c) (trSs M Z O a) (trSs M Z O b)
  | .For tg it body orelse _ => forS M Z O tg it orelse (trSs M Z O body)
  | .Expr e _ => expS M Z O e
  | .Raise e c _ => raiS M Z e c
  | .Continue _ => .cont
  | .Break _ => .brk
  | .Pass _ => .pass
  | _ => .bad
termination_by structural s => s
def trSs (M : Nm) (Z : Sc) (O : List Nat) : List Stmt → List S
  | [] => []
  | s :: r => trS M Z O s :: trSs M Z O r
termination_by structural s => s
end
/-- a def's names, as FnScope asks -/
def fnScB (N ps : List Str) (sc : Scope) : Bool :=
  (match sc.kind with | .function => true | _ => false) && !sc.isCoroutine && !sc.isGenerator && decide N.Nodup && decide (N.take ps.length = ps) &&
    ps.all (fun x => match sc.names.lookup x with | some .local => true | some .cell => true | _ => false) && sc.names.all (fun y => match y.2 with | .free => false | _ => true)
/-- the def st, its names N (parameters first), the slots O of its own lists; lam: it may hold lambdas -/
def trD (M : Nm) (N : List Str) (O : List Nat) (lam : Bool) (st : Stmt) : List S := trSs M ⟨N, defScope st, fun _ => true, lam⟩ O (defBody st)
end Ev
/-! EvB: data in the heap, worlds, what an expression's reading is. -/
namespace Ev
open PySem PySem.Spec PyProof.Rows L2

/-! ### data in the ground B -/
mutual
inductive Rp (K : PySem.W.Frag) (B : Hp) : V → D → Prop
  | non : Rp K B .non .none
  | bl (b : Bool) : Rp K B (.bl b) (.bool b)
  | int (i : Int) : Rp K B (.int i) (.int i)
  | str (x : Str) : Rp K B (.str x) (.str x)
  | lst {a : Addr} {xs : List V} {ds : List D} : SqL K B a xs → RpAll K B xs ds → Rp K B (.ref a) (.list ds)
  | tup {a : Addr} {xs : List V} {ds : List D} : SqT K B a xs → RpAll K B xs ds → Rp K B (.ref a) (.tuple ds)
inductive RpAll (K : PySem.W.Frag) (B : Hp) : List V → List D → Prop
  | nil : RpAll K B [] []
  | cons {v : V} {vs : List V} {d : D} {ds : List D} : Rp K B v d → RpAll K B vs ds → RpAll K B (v :: vs) (d :: ds)
end
theorem _root_.L2.Rd.mono {B B' : Hp} (s : Same B B') {a : Addr} {u : HO} (h : Rd B a u) : Rd B' a u := by
  rcases h with h | ⟨o, h⟩
  · exact .inl (s _ _ h)
  · exact .inr ⟨o, s _ _ h⟩
theorem _root_.L2.SqL.mono {K : PySem.W.Frag} {B B' : Hp} (s : Same B B') {a : Addr} {xs : List V} (h : SqL K B a xs) : SqL K B' a xs := by
  rcases h with h | h
  · exact .inl (Rd.mono s h)
  · exact .inr h
theorem _root_.L2.SqT.mono {K : PySem.W.Frag} {B B' : Hp} (s : Same B B') {a : Addr} {xs : List V} (h : SqT K B a xs) : SqT K B' a xs := by
  rcases h with h | h
  · exact .inl (Rd.mono s h)
  · exact .inr h
mutual
theorem Rp.mono {K : PySem.W.Frag} {B B' : Hp} (s : Same B B') : ∀ {v : V} {d : D}, Rp K B v d → Rp K B' v d
  | _, _, .non => .non
  | _, _, .bl b => .bl b
  | _, _, .int i => .int i
  | _, _, .str x => .str x
  | _, _, .lst h r => .lst (SqL.mono s h) (RpAll.mono s r)
  | _, _, .tup h r => .tup (SqT.mono s h) (RpAll.mono s r)
theorem RpAll.mono {K : PySem.W.Frag} {B B' : Hp} (s : Same B B') : ∀ {v : List V} {d : List D}, RpAll K B v d → RpAll K B' v d
  | _, _, .nil => .nil
  | _, _, .cons h r => .cons (Rp.mono s h) (RpAll.mono s r)
end
mutual
theorem Rp.dp {K : PySem.W.Frag} {B : Hp} : ∀ {v : V} {d : D}, Rp K B v d → Dp K B v d
  | _, _, .non => .non
  | _, _, .bl b => .bl b
  | _, _, .int i => .int i
  | _, _, .str x => .str x
  | _, _, .lst h r => .lst h (RpAll.dp r)
  | _, _, .tup h r => .tup h (RpAll.dp r)
theorem RpAll.dp {K : PySem.W.Frag} {B : Hp} : ∀ {v : List V} {d : List D}, RpAll K B v d → DpAll K B v d
  | _, _, .nil => .nil
  | _, _, .cons h r => .cons (Rp.dp h) (RpAll.dp r)
end
section
variable {K : PySem.W.Frag} {B : Hp}
theorem RpAll.length : ∀ {vs : List V} {ds : List D}, RpAll K B vs ds → vs.length = ds.length
  | _, _, .nil => rfl
  | _, _, .cons _ r => congrArg (· + 1) (RpAll.length r)
theorem RpAll.append : ∀ {vs ws : List V} {ds es : List D}, RpAll K B vs ds → RpAll K B ws es → RpAll K B (vs ++ ws) (ds ++ es)
  | _, _, _, _, .nil, s => s
  | _, _, _, _, .cons h r, s => .cons h (RpAll.append r s)
theorem RpAll.drop : ∀ {vs : List V} {ds : List D} (n : Nat), RpAll K B vs ds → RpAll K B (vs.drop n) (ds.drop n)
  | _, _, 0, h => h
  | _, _, _ + 1, .nil => .nil
  | _, _, n + 1, .cons _ r => RpAll.drop n r
theorem RpAll.take : ∀ {vs : List V} {ds : List D} (n : Nat), RpAll K B vs ds → RpAll K B (vs.take n) (ds.take n)
  | _, _, 0, _ => .nil
  | _, _, _ + 1, .nil => .nil
  | _, _, n + 1, .cons h r => .cons h (RpAll.take n r)
theorem RpAll.get : ∀ {vs : List V} {ds : List D} {i : Nat} {d : D}, RpAll K B vs ds → ds[i]? = some d → ∃ v, vs[i]? = some v ∧ Rp K B v d
  | _, _, _, _, .nil, e => by simp at e
  | _, _, 0, _, .cons h _, e => by simp at e; subst e; exact ⟨_, rfl, h⟩
  | _, _, i + 1, _, .cons _ r, e => by
    obtain ⟨v, h1, h2⟩ := RpAll.get (i := i) r (by simpa using e)
    exact ⟨v, by simpa using h1, h2⟩
theorem RpAll.getV : ∀ {vs : List V} {ds : List D} {i : Nat} {v : V}, RpAll K B vs ds → vs[i]? = some v → ∃ d, ds[i]? = some d ∧ Rp K B v d
  | _, _, _, _, .nil, e => by simp at e
  | _, _, 0, _, .cons h _, e => by simp at e; subst e; exact ⟨_, rfl, h⟩
  | _, _, i + 1, _, .cons _ r, e => by
    obtain ⟨v, h1, h2⟩ := RpAll.getV (i := i) r (by simpa using e)
    exact ⟨v, by simpa using h1, h2⟩
theorem RpAll.reverse {vs : List V} {ds : List D} (h : RpAll K B vs ds) : RpAll K B vs.reverse ds.reverse := by
  have aux : ∀ {vs : List V} {ds : List D}, RpAll K B vs ds → RpAll K B vs.reverse ds.reverse := fun {vs} => by
    induction vs with
    | nil => intro ds h; cases h; exact .nil
    | cons v vs ih =>
      intro ds h
      cases h with
      | cons h1 h2 =>
        rw [List.reverse_cons, List.reverse_cons]
        exact (ih h2).append (.cons h1 .nil)
  exact aux h
theorem RpAll.cut {vs : List V} {ds : List D} (h : RpAll K B vs ds) (lo hi : Option Int) : RpAll K B (cutV vs lo hi) (cutL ds lo hi) := by
  unfold cutV cutL
  rw [h.length]
  exact (h.drop _).take _
theorem RpAll.rep {vs : List V} {ds : List D} (h : RpAll K B vs ds) : ∀ n : Nat, RpAll K B (List.replicate n vs).flatten (List.replicate n ds).flatten
  | 0 => .nil
  | n + 1 => by
    rw [List.replicate_succ, List.replicate_succ, List.flatten_cons, List.flatten_cons]
    exact h.append (h.rep n)
theorem RpAll.nil_iff {vs : List V} {ds : List D} (h : RpAll K B vs ds) : vs = [] ↔ ds = [] := by
  cases h <;> simp
theorem RpAll.atI {vs : List V} {ds : List D} {i : Int} {d : D} (h : RpAll K B vs ds) (e : L2.atI ds i = some d) : ∃ v, L2.atI vs i = some v ∧ Rp K B v d := by
  unfold L2.atI at e ⊢
  rw [h.length]
  cases q : ixN ds.length i with
  | none => rw [q] at e; cases e
  | some j =>
    rw [q] at e
    exact h.get e
end

/-! ### worlds: what changes by itself (tables, memos), and what holds of it -/
structure Wd where
  vol : Addr → Prop
  J : Hp → Prop
  new : ∀ {H : Hp} {p : Addr} {o : HO}, J H → H p = none → (∀ ps, o ≠ .tbl ps) → J (upd H p o)
  occ : ∀ {H : Hp} {b : Addr}, J H → vol b → H b ≠ none
  app : ∀ {H : Hp} {p : Addr} {vs ws : List V}, J H → H p = some (.lst vs) → ¬ vol p → J (upd H p (.lst ws))
/-- the plain world -/
def W0 : Wd := ⟨fun _ => False, fun _ => True, fun _ _ _ => trivial, fun _ h => h.elim, fun _ _ _ => trivial⟩

def Ext (W : Wd) (H H' : Hp) : Prop := ∀ b o, H b = some o → ¬ W.vol b → H' b = some o
theorem Ext.refl {W : Wd} (H : Hp) : Ext W H H := fun _ _ h _ => h
theorem Ext.trans {W : Wd} {H H1 H2 : Hp} (a : Ext W H H1) (b : Ext W H1 H2) : Ext W H H2 := fun c o h n => b c o (a c o h n) n
structure Gd (W : Wd) (B H : Hp) : Prop where
  j : W.J H
  same : Same B H
  vol : ∀ b, W.vol b → B b = none
structure Stp (W : Wd) (B H B' H' : Hp) : Prop where
  ext : Ext W H H'
  same : Same B B'
  gd : Gd W B' H'
  out : ∀ p, B p = none → H p ≠ none → B' p = none
section
variable {W : Wd} {B H B1 H1 B2 H2 : Hp}
theorem Stp.refl (g : Gd W B H) : Stp W B H B H := ⟨Ext.refl H, Same.refl B, g, fun _ h _ => h⟩
theorem Stp.occ (s : Stp W B H B1 H1) {p : Addr} (h : H p ≠ none) : H1 p ≠ none := by
  by_cases hv : W.vol p
  · exact W.occ s.gd.j hv
  · cases e : H p with
    | none => exact absurd e h
    | some o => rw [s.ext p o e hv]; exact fun z => nomatch z
theorem Stp.trans (s : Stp W B H B1 H1) (t : Stp W B1 H1 B2 H2) : Stp W B H B2 H2 :=
  ⟨s.ext.trans t.ext, s.same.trans t.same, t.gd, fun p h1 h2 => t.out p (s.out p h1 h2) (s.occ h2)⟩
theorem Gd.free (g : Gd W B H) {p : Addr} (h : H p = none) : B p = none := by
  cases e : B p with
  | none => rfl
  | some o => rw [g.same p o e] at h; cases h
/-- a new thing is laid -/
theorem Stp.new (g : Gd W B H) {p : Addr} (o : HO) (h : H p = none) (ht : ∀ ps, o ≠ .tbl ps := by intro _ z; cases z) : Stp W B H (upd B p o) (upd H p o) := by
  refine ⟨fun b u e _ => ?_, fun b u e => ?_, ⟨W.new g.j h ht, fun b u e => ?_, fun b hb => ?_⟩, fun q h1 h2 => ?_⟩
  · rw [upd_ne (ne_of_none e h)]; exact e
  · rw [upd_ne (ne_of_none e (g.free h))]; exact e
  · by_cases hb : b = p
    · rw [hb, upd_same] at e ⊢; exact e
    · rw [upd_ne hb] at e ⊢; exact g.same b u e
  · have hbp : b ≠ p := fun z => W.occ g.j hb (by rw [z]; exact h)
    rw [upd_ne hbp]; exact g.vol b hb
  · have hqp : q ≠ p := fun z => h2 (by rw [z]; exact h)
    rw [upd_ne hqp]; exact h1
/-- .. in the heap, not in the ground -/
theorem Stp.newH (g : Gd W B H) {p : Addr} (o : HO) (h : H p = none) (ht : ∀ ps, o ≠ .tbl ps := by intro _ z; cases z) : Stp W B H B (upd H p o) := by
  refine ⟨fun b u e _ => ?_, Same.refl B, ⟨W.new g.j h ht, fun b u e => ?_, g.vol⟩, fun q h1 _ => h1⟩
  · rw [upd_ne (ne_of_none e h)]; exact e
  · rw [upd_ne (ne_of_none e (g.free h))]; exact g.same b u e
end

section
variable {W : Wd} {B H B1 H1 : Hp} {p : Addr} {o : HO} {vs ws : List V}
/-- what was new is taken into the ground -/
theorem Stp.take (g : Gd W B H) (s : Stp W B H B1 H1) (h0 : H p = none) (h1 : H1 p = some o) (hb : B1 p = none) (hv : ¬ W.vol p) : Stp W B H (upd B1 p o) H1 := by
  refine ⟨s.ext, fun b u e => ?_, ⟨s.gd.j, fun b u e => ?_, fun b hb' => ?_⟩, fun q h2 h3 => ?_⟩
  · have hbp : b ≠ p := fun z => by rw [z] at e; have := g.same p u e; rw [h0] at this; cases this
    rw [upd_ne hbp]; exact s.same b u e
  · by_cases hbp : b = p
    · rw [hbp, upd_same] at e; rw [hbp]; exact h1.trans e
    · rw [upd_ne hbp] at e; exact s.gd.same b u e
  · have hbp : b ≠ p := fun z => hv (z ▸ hb')
    rw [upd_ne hbp]; exact s.gd.vol b hb'
  · have hqp : q ≠ p := fun z => h3 (by rw [z]; exact h0)
    rw [upd_ne hqp]; exact s.out q h2 h3
/-- a list that is not in the ground, new since, is written -/
theorem Stp.write (s : Stp W B H B1 H1) (h0 : H p = none) (h1 : H1 p = some (.lst vs)) (hb : B1 p = none) (hv : ¬ W.vol p) : Stp W B H B1 (upd H1 p (.lst ws)) := by
  refine ⟨fun b u e hn => ?_, s.same, ⟨W.app s.gd.j h1 hv, fun b u e => ?_, s.gd.vol⟩, fun q h2 h3 => s.out q h2 h3⟩
  · have hbp : b ≠ p := fun z => by rw [z, h0] at e; cases e
    rw [upd_ne hbp]; exact s.ext b u e hn
  · have hbp : b ≠ p := fun z => by rw [z, hb] at e; cases e
    rw [upd_ne hbp]; exact s.gd.same b u e
theorem Gd.novol (g : Gd W B H) (h : H p = none) : ¬ W.vol p := fun z => W.occ g.j z h
end

/-! ### what is wanted of an answer -/
section
def OutG (W : Wd) (mg : Str → Option Value) (E : XK) {α : Type} (B H : Hp) (r : R α) (P : α → Hp → Hp → Prop) : Prop := match r with
  | .ok a => ∀ B' H', Stp W B H B' H' → P a B' H'
  | .exc c => ∀ cls H', mg c = some cls → Ext W H H' → W.J H' → E cls none H'
  | .bad => False
variable (W : Wd) (X : Cx) (E : XK)
abbrev Out (B H : Hp) (r : R D) (Q : VK) : Prop := OutG W X.mg E B H r fun d B' H' => ∀ v, Rp X.K B' v d → Q v H'
def RepE (K : PySem.W.Frag) (B : Hp) (σ : L2.St) (env : Env) : Prop := σ.length = env.length ∧ ∀ (i : Nat) (d : D), env[i]? = some (some (Sl.dat d)) → ∃ v : V, σ[i]? = some (some v) ∧ Rp K B v d
/-- an expression's reading -/
def tP (f : Env → R D) : TE := fun σ H Q => ∃ B env, Gd W B H ∧ RepE X.K B σ env ∧ Out W X E B H (f env) Q
def tPT (f : Env → R D) : TT := fun σ H Q => ∃ B env, Gd W B H ∧ RepE X.K B σ env ∧ OutG W X.mg E B H (f env) fun d _ H' => ∃ k, d = .bool k ∧ Q k H'
def tPA (f : Env → R (List D)) : TA := fun σ H Q => ∃ B env, Gd W B H ∧ RepE X.K B σ env ∧ OutG W X.mg E B H (f env) fun ds B' H' => ∀ vs, RpAll X.K B' vs ds → Q vs H'
def tPO (f : Env → R (Option Int)) : TO := fun σ H Q => ∃ B env, Gd W B H ∧ RepE X.K B σ env ∧ OutG W X.mg E B H (f env) fun o _ H' => Q o H'
end
section
variable {W : Wd} {mg : Str → Option Value} {X : Cx} {E : XK} {B H B1 H1 : Hp} {α β : Type}
theorem OutG.step (s : Stp W B H B1 H1) {r : R α} {P : α → Hp → Hp → Prop} (h : OutG W mg E B H r P) : OutG W mg E B1 H1 r P := by
  cases r with
  | ok a => exact fun B' H' t => h B' H' (s.trans t)
  | exc c => exact fun cls H' e x j => h cls H' e (s.ext.trans x) j
  | bad => exact h
theorem OutG.bind {r : R α} {f : α → R β} {P : β → Hp → Hp → Prop} {P' : α → Hp → Hp → Prop} (h : OutG W mg E B H (r >>= f) P)
    (hc : ∀ a B1 H1, r = .ok a → Stp W B H B1 H1 → OutG W mg E B1 H1 (f a) P → P' a B1 H1) : OutG W mg E B H r P' := by
  cases r with
  | ok a => exact fun B' H' s => hc a B' H' rfl s (h.step s)
  | exc c => exact h
  | bad => exact h
theorem OutG.imp {r : R α} {P P' : α → Hp → Hp → Prop} (h : OutG W mg E B H r P) (hc : ∀ a B1 H1, r = .ok a → Stp W B H B1 H1 → P a B1 H1 → P' a B1 H1) : OutG W mg E B H r P' := by
  cases r with
  | ok a => exact fun B' H' s => hc a B' H' rfl s (h B' H' s)
  | exc c => exact h
  | bad => exact h
theorem OutG.now {a : α} {P : α → Hp → Hp → Prop} (g : Gd W B H) (h : OutG W mg E B H (.ok a) P) : P a B H := h B H (Stp.refl g)
theorem RepE.mono {K : PySem.W.Frag} (s : Same B B1) {σ : L2.St} {env : Env} (h : RepE K B σ env) : RepE K B1 σ env := ⟨h.1, fun i d e => by
  obtain ⟨v, e1, r⟩ := h.2 i d e
  exact ⟨v, e1, r.mono s⟩⟩
theorem _root_.L2.PE.imp {e : Expr} {t t' : TE} (h : PE X e t) (i : ∀ σ H Q, t' σ H Q → t σ H Q) : PE X e t' := ⟨fun pins s σ H Q I q => h.run pins s σ H Q I (i σ H Q q)⟩
theorem _root_.L2.PT.imp {e : Expr} {t t' : TT} (h : PT X e t) (i : ∀ σ H Q, t' σ H Q → t σ H Q) : PT X e t' := ⟨fun pins s σ H Q I q => h.run pins s σ H Q I (i σ H Q q)⟩
theorem _root_.L2.PA.imp {es : List Expr} {t t' : TA} (h : PA X es t) (i : ∀ σ H Q, t' σ H Q → t σ H Q) : PA X es t' := ⟨fun pos pins s σ H Q I q => h.run pos pins s σ H Q I (i σ H Q q)⟩
theorem _root_.L2.PS.imp {st : Stmt} {t t' : TS} (h : PS X st t) (i : ∀ D σ H, t' D σ H → t D σ H) : PS X st t' := ⟨fun pins s σ H D I q => h.run pins s σ H D I (i D σ H q)⟩
theorem _root_.L2.PSs.imp {st : List Stmt} {t t' : TS} (h : PSs X st t) (i : ∀ D σ H, t' D σ H → t D σ H) : PSs X st t' := ⟨fun pins s σ H D I q => h.run pins s σ H D I (i D σ H q)⟩
theorem _root_.L2.PI.imp {tg e : Expr} {t t' : TI} (h : PI X tg e t) (i : ∀ σ H R, t' σ H R → t σ H R) : PI X tg e t' := ⟨fun pins s σ H R I q => h.run pins s σ H R I (i σ H R q)⟩
theorem _root_.L2.PI.or {tg e : Expr} {t t' : TI} (h : PI X tg e t) (h' : PI X tg e t') : PI X tg e (fun σ H R => t σ H R ∨ t' σ H R) := ⟨fun pins s σ H R I q => q.elim (h.run pins s σ H R I) (h'.run pins s σ H R I)⟩
/-- nothing is to be shown where nothing is told -/
theorem pe_bad {e : Expr} {f : Env → R D} (h : ∀ env, f env = .bad) : PE X e (tP W X E f) := ⟨fun pins s σ H Q I ⟨B, env, _, _, q⟩ => by rw [h env] at q; exact q.elim⟩
theorem pt_bad {e : Expr} {f : Env → R D} (h : ∀ env, f env = .bad) : PT X e (tPT W X E f) := ⟨fun pins s σ H Q I ⟨B, env, _, _, q⟩ => by rw [h env] at q; exact q.elim⟩
end
end Ev
/-! EvO: the operators, by data. -/
namespace Ev
open PySem PySem.Spec PyProof.Rows L2
theorem lim_eq : sizeLine = lim := sizeLine_eq
theorem _root_.L2.Same.sqT {K : PySem.W.Frag} {H H' : Hp} {a : Addr} {xs : List V} (e : Same H H') (h : SqT K H a xs) : SqT K H' a xs := SqT.mono e h
section
variable {W : Wd} {mg : Str → Option Value} {X : Cx} {E : XK} {B H : Hp} {α : Type}
theorem OutG.ite {c : Prop} [Decidable c] {r : R α} {P : α → Hp → Hp → Prop} (h : OutG W mg E B H (if c then r else .bad) P) : c ∧ OutG W mg E B H r P := by
  by_cases hc : c
  · rw [if_pos hc] at h; exact ⟨hc, h⟩
  · rw [if_neg hc] at h; exact h.elim
theorem Out.now {d : D} {v : V} {Q : VK} (g : Gd W B H) (r : Rp X.K B v d) (h : Out W X E B H (.ok d) Q) : Q v H := h B H (Stp.refl g) v r
/-- an answer at a new place -/
theorem Out.tup {ds : List D} {vs : List V} {Q : VK} (g : Gd W B H) (r : RpAll X.K B vs ds) (h : Out W X E B H (.ok (.tuple ds)) Q) : ∀ p, H p = none → Q (.ref p) (upd H p (.tup vs)) := fun p hp =>
  h _ _ (Stp.new g (.tup vs) hp) _ (.tup (.inl (.inl upd_same)) (r.mono (Stp.new g (.tup vs) hp).same))
theorem Out.lst {ds : List D} {vs : List V} {Q : VK} (g : Gd W B H) (r : RpAll X.K B vs ds) (h : Out W X E B H (.ok (.list ds)) Q) : ∀ p, H p = none → Q (.ref p) (upd H p (.lst vs)) := fun p hp =>
  h _ _ (Stp.new g (.lst vs) hp) _ (.lst (.inl (.inl upd_same)) (r.mono (Stp.new g (.lst vs) hp).same))
theorem _root_.L2.Rd.lift (g : Gd W B H) {a : Addr} {u : HO} (h : Rd B a u) : Rd H a u := Rd.mono g.same h
theorem _root_.L2.SqL.lift (g : Gd W B H) {K : PySem.W.Frag} {a : Addr} {xs : List V} (h : SqL K B a xs) : SqL K H a xs := SqL.mono g.same h
theorem _root_.L2.SqT.lift (g : Gd W B H) {K : PySem.W.Frag} {a : Addr} {xs : List V} (h : SqT K B a xs) : SqT K H a xs := SqT.mono g.same h
end

section
variable {W : Wd} {X : Cx} {E : XK}
/-! ### list + list, both to be read -/
def rCatR (K : PySem.W.Frag) : R2 := fun x y H Q => ∃ l b xs zs, x = .ref l ∧ y = .ref b ∧ SqL K H l xs ∧ SqL K H b zs ∧ xs.length + zs.length ≤ sizeLine ∧ ∀ p, H p = none → Q (.ref p) (upd H p (.lst (xs ++ zs)))
theorem op_catR : OpR X (binaryOp .Add) (rCatR X.K) := by
  intro pins s σ H x y v u Q I rx ry h
  obtain ⟨l, b, xs, zs, rfl, rfl, hH, hB, hz, q⟩ := h
  cases rx
  cases ry
  obtain ⟨its, r, ⟨⟨cls, dd, data, sl⟩, n, e, hc, hdd, hd⟩, _⟩ := I.list hH
  obtain ⟨its2, r2, ⟨⟨cls2, dd2, data2, sl2⟩, n2, e2, hc2, hdd2, hd2⟩, _⟩ := I.list hB
  simp only at hc hd hc2 hd2
  subst hc hd hc2 hd2
  have hl := r.length
  have hl2 := r2.length
  have ea : its.toArray ++ its2.toArray = (its ++ its2).toArray := by simp
  refine PySem.concat_meets ⟨_, e, rfl⟩ ⟨_, e2, rfl⟩ noFill_list_add seq_list_add PySem.F.slot_list_add PySem.F.entry_list_add (PySem.F.args_list_add_2 _ _) (list_addW l b its.toArray its2.toArray n n2 dd dd2 sl sl2 (by rw [List.size_toArray, List.size_toArray]; omega)) ⟨e, e2, ?_⟩
  rw [ea]
  exact ⟨.ref _, _, I.lnew (t' := s.toks) (r.append r2) (by rw [List.length_append]; omega), rfl, q _ I.fresh⟩

/-! ### a text n times -/
theorem foldl_app (a : Array Nat) : ∀ (n : Nat) (acc : List Nat), List.foldl (· ++ ·) acc.toArray (List.replicate n a) = (acc ++ (List.replicate n a.toList).flatten).toArray
  | 0, acc => by simp
  | n + 1, acc => by
    have e : acc.toArray ++ a = (acc ++ a.toList).toArray := by simp
    rw [List.replicate_succ, List.foldl_cons, e, foldl_app a n, List.replicate_succ, List.flatten_cons, List.append_assoc]
theorem mulS_length (x : Str) (n : Nat) : (mulS x n).length = n * x.length := by
  show ((List.replicate n x.cps.toList).flatten.toArray).size = _
  rw [List.size_toArray, List.length_flatten, List.map_replicate, List.sum_replicate_nat]
  rfl
def rMulS : R2 := fun x y H Q => ∃ z k, x = .str z ∧ y = .int k ∧ -1000 ≤ k ∧ k ≤ 1000 ∧ z.length ≤ 1000 ∧ Q (.str (mulS z k.toNat)) H
theorem mulS_zero {x : Str} {n : Nat} (h : n * x.length = 0) : mulS x n = Str.empty := by
  have h1 : (mulS x n).cps = #[] := Array.eq_empty_of_size_eq_zero (by
    have := mulS_length x n
    rw [h] at this
    exact this)
  show (⟨_⟩ : Str) = ⟨_⟩
  exact congrArg _ h1
theorem mulS_one (x : Str) : mulS x 1 = x := by
  unfold mulS
  rw [List.replicate_succ, List.replicate_zero, List.flatten_cons, List.flatten_nil, List.append_nil]
theorem op_mulS : OpR X (binaryOp .Mult) rMulS := by
  intro pins s σ H x y v u Q I rx ry ⟨z, k, ex, ey, h2, h3, h4, q⟩
  subst ex ey
  obtain ⟨t, rfl⟩ := rx
  obtain ⟨t', rfl⟩ := ry
  have hk : k.toNat ≤ 1000 := by omega
  have hm : z.length * k.toNat ≤ 1000000 := Nat.le_trans (Nat.mul_le_mul h4 hk) (by decide)
  have e : (⟨(List.replicate k.toNat z.cps).foldl (· ++ ·) #[]⟩ : Str) = mulS z k.toNat := by
    have := foldl_app z.cps k.toNat []
    unfold mulS
    rw [← List.nil_append (List.replicate k.toNat z.cps.toList).flatten, ← this]
  refine PySem.P.mul_str ?_ (fun hk1 _ => ?_) (fun _ _ => ?_) ?_
  · have h5 : ¬ k < -(2 ^ 63 : Int) := by omega
    have h6 : ¬ k ≥ 2 ^ 63 := by omega
    rw [decide_eq_false h5, decide_eq_false h6]; rfl
  · have : (9223372036854775 : Int) ≤ (2 ^ 63 - 1) / k := by
      rw [Int.le_ediv_iff_mul_le (by omega)]
      omega
    omega
  · unfold PySem.Builtin.Str.tooLong
    exact decide_eq_false (by have : (1000000 : Nat) ≤ sizeLine := by decide
                              omega)
  · by_cases c1 : k < 1
    · rw [if_pos c1]
      have e0 : mulS z k.toNat = Str.empty := mulS_zero (by
        have : k.toNat = 0 := by omega
        rw [this, Nat.zero_mul])
      rw [e0] at q
      exact ⟨by decide, .str _, H, I.tok _, ⟨_, rfl⟩, q⟩
    rw [if_neg c1]
    by_cases c : (k == 1 || z.length == 0) = true
    · rw [if_pos c]
      refine ⟨.str z, H, I, ⟨t, rfl⟩, ?_⟩
      rw [Bool.or_eq_true, beq_iff_eq, beq_iff_eq] at c
      have ez : mulS z k.toNat = z := by
        rcases c with c | c
        · have : k.toNat = 1 := by omega
          rw [this, mulS_one]
        · rw [mulS_zero (by rw [c, Nat.mul_zero])]
          have h0 : z.cps = #[] := Array.eq_empty_of_size_eq_zero c
          cases z with
          | mk c =>
            show (⟨_⟩ : Str) = ⟨_⟩
            exact congrArg _ h0.symm
      rw [ez] at q
      exact q
    · rw [if_neg c]
      refine ⟨?_, .str _, H, I.tok _, ⟨_, rfl⟩, by rw [e]; exact q⟩
      rw [e, mulS_length, Nat.mul_comm]
      exact Nat.le_trans hm (by decide)
def rBinD (W : Wd) (X : Cx) (E : XK) (op : Operator) : R2 := fun x y H Q => ∃ B d e, Gd W B H ∧ Rp X.K B x d ∧ Rp X.K B y e ∧ Out W X E B H (binD op d e) Q
theorem opr_bin (op : Operator) : OpR X (binaryOp op) (rBinD W X E op) := by
  intro pins s σ H x y v u Q I rx ry h
  obtain ⟨B, d, e, g, rd, re, h⟩ := h
  cases op
  case Add =>
    cases rd
    case int i =>
      cases re
      case int j => exact op_add pins s σ H _ _ v u Q I rx ry ⟨i, j, rfl, rfl, Out.now g (.int _) h⟩
      all_goals exact False.elim h
    case str a =>
      cases re
      case str b =>
        obtain ⟨hz, h⟩ := OutG.ite h
        exact op_add_str pins s σ H _ _ v u Q I rx ry ⟨a, b, rfl, rfl, by rw [lim_eq]; exact hz, Out.now g (.str _) h⟩
      all_goals exact False.elim h
    case tup a xs ds ha hx =>
      cases re
      case tup b ys es hb hy =>
        obtain ⟨hz, h⟩ := OutG.ite h
        refine op_catA pins s σ H _ _ v u Q I rx ry ⟨a, b, xs, ys, rfl, rfl, SqT.lift g ha, SqT.lift g hb, by rw [lim_eq, hx.length, hy.length]; exact hz, fun z => ?_, fun _ z => ?_, fun _ _ => Out.tup g (hx.append hy) h⟩
        · refine Out.now g (.tup hb ?_) h
          rw [hx.nil_iff.mp z]; exact hy
        · refine Out.now g (.tup ha ?_) h
          rw [hy.nil_iff.mp z, List.append_nil]; exact hx
      all_goals exact False.elim h
    case lst a xs ds ha hx =>
      cases re
      case lst b ys es hb hy =>
        obtain ⟨hz, h⟩ := OutG.ite h
        exact op_catR pins s σ H _ _ v u Q I rx ry ⟨a, b, xs, ys, rfl, rfl, SqL.lift g ha, SqL.lift g hb, by rw [lim_eq, hx.length, hy.length]; exact hz, Out.lst g (hx.append hy) h⟩
      all_goals exact False.elim h
    all_goals (cases re <;> exact False.elim h)
  case Sub =>
    cases rd
    case int i =>
      cases re
      case int j => exact op_sub pins s σ H _ _ v u Q I rx ry ⟨i, j, rfl, rfl, Out.now g (.int _) h⟩
      all_goals exact False.elim h
    all_goals (cases re <;> exact False.elim h)
  case Mult =>
    cases rd
    case int i =>
      cases re
      case int j =>
        obtain ⟨hz, h⟩ := OutG.ite h
        refine op_mul pins s σ H _ _ v u Q I rx ry ⟨i, j, rfl, rfl, ?_, Out.now g (.int _) h⟩
        unfold big at hz
        simp only [Bool.or_eq_true, Bool.and_eq_true, decide_eq_true_eq] at hz
        exact hz
      all_goals exact False.elim h
    case tup a xs ds ha hx =>
      cases re
      case int k =>
        obtain ⟨hz, h⟩ := OutG.ite h
        simp only [Bool.and_eq_true, decide_eq_true_eq, Bool.not_eq_true', List.isEmpty_eq_false_iff] at hz
        obtain ⟨⟨⟨h1, h2⟩, h3⟩, h4⟩ := hz
        exact op_repT pins s σ H _ _ v u Q I rx ry ⟨a, k, xs, rfl, rfl, SqT.lift g ha, fun z => h1 (hx.nil_iff.mp z), h2, h3, by rw [hx.length]; exact h4, Out.tup g (hx.rep _) h⟩
      all_goals exact False.elim h
    case str z =>
      cases re
      case int k =>
        obtain ⟨hz, h⟩ := OutG.ite h
        simp only [Bool.and_eq_true, decide_eq_true_eq] at hz
        obtain ⟨⟨h1, h2⟩, h3⟩ := hz
        exact op_mulS pins s σ H _ _ v u Q I rx ry ⟨z, k, rfl, rfl, h1, h2, h3, Out.now g (.str _) h⟩
      all_goals exact False.elim h
    all_goals (cases re <;> exact False.elim h)
  case FloorDiv =>
    cases rd
    case int i =>
      cases re
      case int j =>
        obtain ⟨hz, h⟩ := OutG.ite h
        exact op_fdiv pins s σ H _ _ v u Q I rx ry ⟨i, j, rfl, rfl, hz, Out.now g (.int _) h⟩
      all_goals exact False.elim h
    all_goals (cases re <;> exact False.elim h)
  case Mod =>
    cases rd
    case int i =>
      cases re
      case int j =>
        obtain ⟨hz, h⟩ := OutG.ite h
        exact op_mod pins s σ H _ _ v u Q I rx ry ⟨i, j, rfl, rfl, hz, Out.now g (.int _) h⟩
      all_goals exact False.elim h
    all_goals (cases re <;> exact False.elim h)
  all_goals (cases rd <;> cases re <;> exact False.elim h)
end
end Ev
/-! EvO2: comparisons, places, slices, truth, built-ins, by data. -/
namespace Ev
open PySem PySem.Spec PyProof.Rows L2
section
variable {W : Wd} {X : Cx} {E : XK}
def rCmpD (W : Wd) (X : Cx) (E : XK) (op : CmpOp) : R2 := fun x y H Q => ∃ B d e, Gd W B H ∧ Rp X.K B x d ∧ Rp X.K B y e ∧ Out W X E B H (cmpD op d e) Q
theorem Out.bl {B H : Hp} {b : Bool} {Q : VK} (g : Gd W B H) (h : Out W X E B H (.ok (.bool b)) Q) : Q (.bl b) H := Out.now g (.bl b) h
theorem is_none {K : PySem.W.Frag} {B : Hp} {x : V} {d : D} (r : Rp K B x d) : decide (x = .non) = isNone d := by
  cases r <;> simp [isNone]
theorem in_seq_data {pins : List (Addr × Obj)} {σ : L2.St} {H : Hp} {s : Shared} {x y : V} {v u : Value} {d : D} {ds : List D} {Q : VK} (hu : X.A.units + 65 < cLine) (I : Inv X pins σ H s) (rx : L2.RelV x v) (ry : L2.RelV y u)
    (hd : Dp X.K H x d) (he : Dp X.K H y (.tuple ds)) (sd : SeqAt.shaped d = true) (se : SeqAt.shaped (.tuple ds) = true) (q : Q (.bl (ds.any fun z => PyData.eqv z d)) H) :
    wpAny (model X.prog X.w) X.A (compareOp .In v u) (EP X pins σ Q) X.xe s := by
  obtain ⟨as, r1⟩ := Dp.reads I d x v hd rx
  obtain ⟨bs, r2⟩ := Dp.reads I (.tuple ds) y u he ry
  exact SeqAt.in_tuple_reads r2 r1 (SeqAt.canLay_of_shaped se) (SeqAt.canLay_of_shaped sd) (room_in_shaped sd hu) ⟨.bl _, H, I, rfl, q⟩
theorem notIn_seq_data {pins : List (Addr × Obj)} {σ : L2.St} {H : Hp} {s : Shared} {x y : V} {v u : Value} {d : D} {ds : List D} {Q : VK} (hu : X.A.units + 65 < cLine) (I : Inv X pins σ H s) (rx : L2.RelV x v) (ry : L2.RelV y u)
    (hd : Dp X.K H x d) (he : Dp X.K H y (.tuple ds)) (sd : SeqAt.shaped d = true) (se : SeqAt.shaped (.tuple ds) = true) (q : Q (.bl (!ds.any fun z => PyData.eqv z d)) H) :
    wpAny (model X.prog X.w) X.A (compareOp .NotIn v u) (EP X pins σ Q) X.xe s := by
  obtain ⟨as, r1⟩ := Dp.reads I d x v hd rx
  obtain ⟨bs, r2⟩ := Dp.reads I (.tuple ds) y u he ry
  exact SeqAt.notIn_tuple_reads r2 r1 (SeqAt.canLay_of_shaped se) (SeqAt.canLay_of_shaped sd) (room_in_shaped sd hu) ⟨.bl _, H, I, rfl, q⟩
theorem Rp.up {B H : Hp} (g : Gd W B H) {v : V} {d : D} (r : Rp X.K B v d) : Dp X.K H v d := (r.mono g.same).dp
/-- tuples, by their first difference -/
theorem tup_cmp {op : CmpOp} {b : Bool} {pins : List (Addr × Obj)} {σ : L2.St} {B H : Hp} {s : Shared} {x y : V} {v u : Value} {d e : D} {Q : VK} (hu : X.A.units + 65 < cLine) (I : Inv X pins σ H s) (rx : L2.RelV x v) (ry : L2.RelV y u) (g : Gd W B H)
    (rd : Rp X.K B x d) (re : Rp X.K B y e) (q : Q (.bl b) H)
    (h : ∀ (as bs : List Addr), Reads s.heap v d as → Reads s.heap u e bs → ∀ (R : Value → Shared → Prop) (E' : Value → Shared → Prop), R (.bool b) s → wpAny (model X.prog X.w) X.A (compareOp op v u) R E' s) :
    wpAny (model X.prog X.w) X.A (compareOp op v u) (EP X pins σ Q) X.xe s := by
  obtain ⟨as, r1⟩ := Dp.reads I d x v (Rp.up g rd) rx
  obtain ⟨bs, r2⟩ := Dp.reads I e y u (Rp.up g re) ry
  exact h as bs r1 r2 _ _ ⟨.bl b, H, I, rfl, q⟩
theorem alk_use {d e : D} (h : alk d e = true) : PySem.W.alike d e = true ∧ min d.depth e.depth ≤ 60 := by
  unfold alk at h
  rw [Bool.and_eq_true, decide_eq_true_eq] at h
  exact h
theorem alk_back {d e : D} (h : alk e d = true) : PySem.W.alike d e = true ∧ min d.depth e.depth ≤ 60 := by
  obtain ⟨h1, h2⟩ := alk_use h
  rw [PySem.W.alike_comm, Nat.min_comm]
  exact ⟨h1, h2⟩
theorem opr_cmp (hu : X.A.units + 65 < cLine) (op : CmpOp) : OpR X (compareOp op) (rCmpD W X E op) := by
  have hu' : X.A.units + 64 < cLine := by omega
  intro pins s σ H x y v u Q I rx ry h
  obtain ⟨B, d, e, g, rd, re, h⟩ := h
  cases op
  case Eq =>
    have h2 : Out W X E B H (if (shp d && shp e) = true then .ok (.bool (PyData.eqv d e)) else .bad) Q := h
    obtain ⟨hz, h2⟩ := OutG.ite h2
    rw [Bool.and_eq_true] at hz
    exact op_eqD hu' pins s σ H _ _ v u Q I rx ry ⟨d, e, Rp.up g rd, Rp.up g re, hz.1, hz.2, Out.bl g h2⟩
  case NotEq =>
    have h2 : Out W X E B H (if (shp d && shp e) = true then .ok (.bool (!PyData.eqv d e)) else .bad) Q := h
    obtain ⟨hz, h2⟩ := OutG.ite h2
    rw [Bool.and_eq_true] at hz
    exact op_neD hu' pins s σ H _ _ v u Q I rx ry ⟨d, e, Rp.up g rd, Rp.up g re, hz.1, hz.2, Out.bl g h2⟩
  case Lt =>
    cases rd
    case int i =>
      cases re
      case int j => exact op_lt pins s σ H _ _ v u Q I rx ry ⟨i, j, rfl, rfl, Out.bl g h⟩
      all_goals exact False.elim h
    case str a =>
      cases re
      case str b => exact op_lt_str pins s σ H _ _ v u Q I rx ry ⟨a, b, rfl, rfl, Out.bl g h⟩
      all_goals exact False.elim h
    case tup a xs ds ha hx =>
      cases re
      case tup b ys es hb hy =>
        obtain ⟨hz, h2⟩ := OutG.ite h
        obtain ⟨k1, k2⟩ := alk_use hz
        exact tup_cmp hu I rx ry g (.tup ha hx) (.tup hb hy) (Out.bl g h2) fun as bs r1 r2 R E' hq => PySem.W.lt_data r1 r2 k1 (fun z => nomatch z) (by omega) hq
      all_goals exact False.elim h
    all_goals (cases re <;> exact False.elim h)
  case LtE =>
    cases rd
    case int i =>
      cases re
      case int j => exact op_le pins s σ H _ _ v u Q I rx ry ⟨i, j, rfl, rfl, Out.bl g h⟩
      all_goals exact False.elim h
    case str a =>
      cases re
      case str b => exact op_le_str pins s σ H _ _ v u Q I rx ry ⟨a, b, rfl, rfl, Out.bl g h⟩
      all_goals exact False.elim h
    case tup a xs ds ha hx =>
      cases re
      case tup b ys es hb hy =>
        obtain ⟨hz, h2⟩ := OutG.ite h
        obtain ⟨k1, k2⟩ := alk_back hz
        exact tup_cmp hu I rx ry g (.tup ha hx) (.tup hb hy) (Out.bl g h2) fun as bs r1 r2 R E' hq => PySem.W.le_data r1 r2 k1 (fun z => nomatch z) (by omega) hq
      all_goals exact False.elim h
    all_goals (cases re <;> exact False.elim h)
  case Gt =>
    cases rd
    case int i =>
      cases re
      case int j => exact op_gt pins s σ H _ _ v u Q I rx ry ⟨i, j, rfl, rfl, Out.bl g h⟩
      all_goals exact False.elim h
    case str a =>
      cases re
      case str b => exact op_gt_str pins s σ H _ _ v u Q I rx ry ⟨a, b, rfl, rfl, Out.bl g h⟩
      all_goals exact False.elim h
    case tup a xs ds ha hx =>
      cases re
      case tup b ys es hb hy =>
        obtain ⟨hz, h2⟩ := OutG.ite h
        obtain ⟨k1, k2⟩ := alk_back hz
        exact tup_cmp hu I rx ry g (.tup ha hx) (.tup hb hy) (Out.bl g h2) fun as bs r1 r2 R E' hq => PySem.W.gt_data r1 r2 k1 (fun z => nomatch z) (by omega) hq
      all_goals exact False.elim h
    all_goals (cases re <;> exact False.elim h)
  case GtE =>
    cases rd
    case int i =>
      cases re
      case int j => exact op_ge pins s σ H _ _ v u Q I rx ry ⟨i, j, rfl, rfl, Out.bl g h⟩
      all_goals exact False.elim h
    case str a =>
      cases re
      case str b => exact op_ge_str pins s σ H _ _ v u Q I rx ry ⟨a, b, rfl, rfl, Out.bl g h⟩
      all_goals exact False.elim h
    case tup a xs ds ha hx =>
      cases re
      case tup b ys es hb hy =>
        obtain ⟨hz, h2⟩ := OutG.ite h
        obtain ⟨k1, k2⟩ := alk_use hz
        exact tup_cmp hu I rx ry g (.tup ha hx) (.tup hb hy) (Out.bl g h2) fun as bs r1 r2 R E' hq => PySem.W.ge_data r1 r2 k1 (fun z => nomatch z) (by omega) hq
      all_goals exact False.elim h
    all_goals (cases re <;> exact False.elim h)
  case Is =>
    cases re
    case non =>
      refine op_isN pins s σ H _ _ v u Q I rx ry ⟨rfl, ?_⟩
      rw [is_none rd]
      exact Out.bl g h
    case bl b =>
      cases rd
      case bl a => exact op_is_bl pins s σ H _ _ v u Q I rx ry ⟨a, b, rfl, rfl, Out.bl g h⟩
      all_goals exact False.elim h
    all_goals exact False.elim h
  case IsNot =>
    cases re
    case non =>
      refine op_notN pins s σ H _ _ v u Q I rx ry ⟨rfl, ?_⟩
      rw [is_none rd]
      exact Out.bl g h
    case bl b =>
      cases rd
      case bl a => exact op_isnot_bl pins s σ H _ _ v u Q I rx ry ⟨a, b, rfl, rfl, Out.bl g h⟩
      all_goals exact False.elim h
    all_goals (cases rd <;> exact False.elim h)
  case In =>
    cases re
    case lst a xs ds ha hx =>
      obtain ⟨hz, h2⟩ := OutG.ite h
      rw [Bool.and_eq_true] at hz
      exact op_inD hu pins s σ H _ _ v u Q I rx ry ⟨d, ds, Rp.up g rd, Rp.up g (.lst ha hx), hz.1, hz.2, Out.bl g h2⟩
    case tup a xs ds ha hx =>
      obtain ⟨hz, h2⟩ := OutG.ite h
      rw [Bool.and_eq_true] at hz
      exact in_seq_data hu I rx ry (Rp.up g rd) (Rp.up g (.tup ha hx)) hz.1 hz.2 (Out.bl g h2)
    case str z =>
      cases rd
      case str a =>
        obtain ⟨⟨l⟩⟩ := a
        cases l with
        | nil => exact False.elim h
        | cons c r =>
          cases r with
          | cons _ _ => exact False.elim h
          | nil => exact op_in_sign pins s σ H _ _ v u Q I rx ry ⟨c, z, rfl, rfl, Out.bl g h⟩
      all_goals exact False.elim h
    all_goals (cases rd <;> exact False.elim h)
  case NotIn =>
    cases re
    case lst a xs ds ha hx =>
      obtain ⟨hz, h2⟩ := OutG.ite h
      rw [Bool.and_eq_true] at hz
      exact op_notInD hu pins s σ H _ _ v u Q I rx ry ⟨d, ds, Rp.up g rd, Rp.up g (.lst ha hx), hz.1, hz.2, Out.bl g h2⟩
    case tup a xs ds ha hx =>
      obtain ⟨hz, h2⟩ := OutG.ite h
      rw [Bool.and_eq_true] at hz
      exact notIn_seq_data hu I rx ry (Rp.up g rd) (Rp.up g (.tup ha hx)) hz.1 hz.2 (Out.bl g h2)
    case str z =>
      cases rd
      case str a =>
        obtain ⟨⟨l⟩⟩ := a
        cases l with
        | nil => exact False.elim h
        | cons c r =>
          cases r with
          | cons _ _ => exact False.elim h
          | nil => exact op_notIn_sign pins s σ H _ _ v u Q I rx ry ⟨c, z, rfl, rfl, Out.bl g h⟩
      all_goals exact False.elim h
    all_goals (cases rd <;> exact False.elim h)

/-! ### places and slices -/
def rIxD (W : Wd) (X : Cx) (E : XK) : R2 := fun x y H Q => ∃ B d e, Gd W B H ∧ Rp X.K B x d ∧ Rp X.K B y e ∧ Out W X E B H (ixD d e) Q
theorem opr_ix : IxR X (rIxD W X E) := by
  intro value slice pins s σ H x y v u Q I rx ry h hs
  obtain ⟨B, d, e, g, rd, re, h⟩ := h
  cases re
  case int i =>
    cases rd
    case tup a xs ds ha hx =>
      have h2 : Out W X E B H (match L2.atI ds i with | some d => .ok d | none => .bad) Q := h
      cases e : L2.atI ds i with
      | none => rw [e] at h2; exact h2.elim
      | some d =>
        rw [e] at h2
        obtain ⟨w, e2, rw'⟩ := hx.atI e
        exact ix_tup value slice pins s σ H _ _ v u Q I rx ry ⟨a, xs, i, w, rfl, rfl, SqT.lift g ha, e2, Out.now g rw' h2⟩ hs
    case lst a xs ds ha hx =>
      have h2 : Out W X E B H (match L2.atI ds i with | some d => .ok d | none => .bad) Q := h
      cases e : L2.atI ds i with
      | none => rw [e] at h2; exact h2.elim
      | some d =>
        rw [e] at h2
        obtain ⟨w, e2, rw'⟩ := hx.atI e
        exact ix_list value slice pins s σ H _ _ v u Q I rx ry ⟨a, xs, i, w, rfl, rfl, SqL.lift g ha, e2, Out.now g rw' h2⟩ hs
    case str z =>
      obtain ⟨hz, h2⟩ := OutG.ite (α := D) (r := match L2.atI z.cps.toList i with | some c => .ok (PyData.str ⟨#[c]⟩) | none => .bad) h
      cases e : L2.atI z.cps.toList i with
      | none => rw [e] at h2; exact h2.elim
      | some c =>
        rw [e] at h2
        exact ix_str value slice pins s σ H _ _ v u Q I rx ry ⟨z, i, c, rfl, rfl, by rw [lim_eq]; exact hz, e, Out.now g (.str _) h2⟩ hs
    all_goals exact False.elim h
  all_goals (cases rd <;> exact False.elim h)
def rCutD (W : Wd) (X : Cx) (E : XK) : V → Option Int → Option Int → Hp → VK → Prop := fun x lo hi H Q => ∃ B d, Gd W B H ∧ Rp X.K B x d ∧ Out W X E B H (cutD d lo hi) Q
theorem cutV_whole {xs : List V} {lo hi : Option Int} (h : HT.sIx xs.length 0 lo = 0 ∧ HT.sIx xs.length xs.length hi = xs.length) : cutV xs lo hi = xs := by
  unfold cutV
  rw [h.1, h.2, List.drop_zero, Nat.sub_zero, List.take_length]
theorem opr_cut : SlR X (rCutD W X E) := by
  intro pins s σ H x v vl vu lo hi sl Q I rx hs pl pu h
  obtain ⟨B, d, g, rd, h⟩ := h
  cases rd
  case tup a xs ds ha hx =>
    refine sl_tupA pins s σ H _ v vl vu lo hi sl Q I rx hs pl pu ⟨a, xs, rfl, SqT.lift g ha, fun z => ?_, fun _ => Out.tup g (hx.cut lo hi) h⟩
    have e := hx.cut lo hi
    rw [cutV_whole z] at e
    exact Out.now g (.tup ha e) h
  case lst a xs ds ha hx =>
    exact sl_list pins s σ H _ v vl vu lo hi sl Q I rx hs pl pu ⟨a, xs, rfl, SqL.lift g ha, Out.lst g (hx.cut lo hi) h⟩
  case str z =>
    obtain ⟨hz, h2⟩ := OutG.ite h
    exact sl_str pins s σ H _ v vl vu lo hi sl Q I rx hs pl pu ⟨z, rfl, by rw [lim_eq]; exact hz, Out.now g (.str _) h2⟩
  all_goals exact False.elim h
end
end Ev
/-! EvO3: t[::-1] of tuples and lists, truth, isinstance, built-ins. -/
namespace Ev
open PySem PySem.Spec PyProof.Rows L2 HT
section
variable {prog : Program} {w : World} {A : Around} {E : Value → Shared → Prop} {s : Shared}
theorem adj_rev (n : Nat) : Builtin.Slice.sliceAdjust none none (-1) (n : Int) = ((n : Int) - 1, -1) := by
  unfold Builtin.Slice.sliceAdjust
  simp
theorem places_rev (n : Nat) : Builtin.Slice.slicePlaces ((n : Int) - 1) (-1) (-1) = n := by
  unfold Builtin.Slice.slicePlaces
  have h1 : ¬ ((-1 : Int) > 0) := by decide
  rw [if_neg h1]
  by_cases h : (n : Int) - 1 > -1
  · rw [if_pos h]
    have : ((n : Int) - 1 - -1 - 1) / (- -1) = (n : Int) - 1 := by
      rw [show (- -1 : Int) = 1 by decide, Int.ediv_one]
      omega
    rw [this]; omega
  · rw [if_neg h]; omega
theorem applied_rev {sl : Addr} {vl vu vs : Value} {n : Nat} {Q : Int × Int × Nat → Shared → Prop} (hs : s.heap.IsSliceOf sl vl vu vs) (pl : IsPart vl none) (pu : IsPart vu none) (ps : IsPart vs (some (-1)))
    (h : Q ((n : Int) - 1, -1, n) s) : wpAny (model prog w) A (Builtin.Slice.sliceApplied (.ref sl) (pure (n : Int))) Q E s := by
  obtain ⟨os, hos, hcs, hds⟩ := id hs
  unfold Builtin.Slice.sliceApplied Builtin.Slice.sliceFields
  refine wpAny_bind (wpAny_bind (wpAny_field hos hds (x := vl) rfl (wpAny_bind (wpAny_field hos hds (x := vu) rfl (wpAny_bind (wpAny_field hos hds (x := vs) rfl (wpAny_pure ?_)))))))
  refine wpAny_bind (slicePart_ ps ?_)
  show wpAny _ _ (if ((-1 : Int) == 0) = true then _ else _) _ _ s
  rw [if_neg (by decide)]
  refine wpAny_bind (slicePart_ pl (wpAny_bind (slicePart_ pu (wpAny_bind (wpAny_pure ?_)))))
  show wpAny _ _ (match Builtin.Slice.sliceAdjust none none (-1) (n : Int) with | (lo, hi) => pure (lo, (-1 : Int), Builtin.Slice.slicePlaces lo hi (-1))) _ _ s
  rw [adj_rev n]
  show wpAny _ _ (pure ((n : Int) - 1, (-1 : Int), Builtin.Slice.slicePlaces ((n : Int) - 1) (-1) (-1))) _ _ s
  rw [places_rev]
  exact wpAny_pure h
theorem fm_congr {α β : Type} {f g : α → Option β} : ∀ {l : List α}, (∀ x ∈ l, f x = g x) → l.filterMap f = l.filterMap g
  | [], _ => rfl
  | a :: l, h => by
    rw [List.filterMap_cons, List.filterMap_cons, h a List.mem_cons_self, fm_congr fun x hx => h x (List.mem_cons_of_mem _ hx)]
theorem pick_rev (xs : Array Value) : ((List.range xs.size).filterMap fun (m : Nat) => xs[((xs.size : Int) - 1 + (m : Int) * (-1)).toNat]?).toArray = xs.toList.reverse.toArray := by
  congr 1
  have e : ((List.range xs.size).filterMap fun (m : Nat) => xs[((xs.size : Int) - 1 + (m : Int) * (-1)).toNat]?) = ((List.range xs.size).map fun k => xs.size - 1 - k).filterMap (xs[·]?) := by
    rw [List.filterMap_map]
    refine fm_congr fun m hm => ?_
    have hm' := List.mem_range.mp hm
    have : ((xs.size : Int) - 1 + (m : Int) * (-1)).toNat = xs.size - 1 - m := by omega
    show xs[((xs.size : Int) - 1 + (m : Int) * (-1)).toNat]? = xs[xs.size - 1 - m]?
    rw [this]
  rw [e, PySem.W.krv_range, List.filterMap_reverse, PySem.W.krv_all]
theorem getItem_tuple_rev {t sl : Addr} {items : Array Value} {vl vu vs : Value} {Q : Value → Shared → Prop} (ht : IsTup s.heap t items) (hs : s.heap.IsSliceOf sl vl vu vs) (pl : IsPart vl none) (pu : IsPart vu none) (ps : IsPart vs (some (-1)))
    (h : Q (.ref s.heap.objs.size) { s with heap := s.heap.push { cls := .type "tuple", data := .seq items.toList.reverse.toArray } })
    (hsz : items.size ≤ sizeLine) : wpAny (model prog w) A (getItem (.ref t) (.ref sl)) Q E s := by
  have htake : sizeOk (.seq items.toList.reverse.toArray) := by
    show items.toList.reverse.toArray.size ≤ sizeLine
    rw [List.size_toArray, List.length_reverse, Array.length_toList]
    omega
  obtain ⟨os, hos, hcs, hds⟩ := id hs
  have hTs : s.TypeIs (.ref sl) "slice" := ⟨os, hos, hcs⟩
  unfold getItem
  try with_reducible refine wpAny_holding ?_
  first | refine wpAny_bind (wpAny_pure ?_) | skip
  refine wpAny_bind (wpAny_sequenceKey ht.typeIs (by decide) ?_)
  refine wpAny_bind (wpAny_callSpecial?_slot (name := Str.ofString "__getitem__") ht.typeIs PyProof.Rows.slot_tuple_getitem
    (wpAny_call_entry PyProof.Rows.slot_tuple_getitem ht.typeIs entry_tuple_getitem ?_ (args_tuple_getitem _ _)))
  show wpAny _ _ (Builtin.Tuple.tupleItemsOf (.ref t) >>= _) _ _ s
  refine wpAny_bind (tupleItemsOf_ ht ?_)
  refine wpAny_bind (wpAny_typeOf hTs ?_)
  rw [if_pos (by decide)]
  refine wpAny_bind (applied_rev hs pl pu ps ?_)
  have hno : ¬ ((((items.size : Int) - 1) == 0 && (-1 : Int) == 1 && items.size == items.size) = true) := by
    intro q
    rw [Bool.and_eq_true, Bool.and_eq_true] at q
    have q1 : (-1 : Int) = 1 := eq_of_beq q.1.2
    omega
  show wpAny _ _ (if (((items.size : Int) - 1) == 0 && (-1 : Int) == 1 && items.size == items.size) = true then _ else _) _ _ s
  rw [if_neg hno, pick_rev]
  first
    | exact wpAny_bind (m := Builtin.Tuple.tupleExact _) (wpAny_newObj_type (wpAny_pure ⟨_, rfl, wpAny_pure h⟩) htake)
    | exact wpAny_bind (m := Builtin.Tuple.tupleExact _) (wpAny_newObj_type (wpAny_bind (wpAny_pure (wpAny_pure ⟨_, rfl, wpAny_pure h⟩))) htake)
    | exact wpAny_bind (wpAny_bind (m := Builtin.Tuple.tupleExact _) (wpAny_newObj_type (wpAny_pure (wpAny_pure ⟨_, rfl, wpAny_pure h⟩)) htake))
    | exact wpAny_bind (wpAny_bind (m := Builtin.Tuple.tupleExact _) (wpAny_newObj_type (wpAny_pure ⟨_, rfl, wpAny_pure h⟩) htake))
end
section
variable {X : Cx} {pos : Pos}
/-- a text backwards -/
theorem strIx_rev (n : Nat) : Builtin.Str.strSliceIndices none none (-1) n = (List.range n).reverse := by
  have e : Builtin.Str.strSliceIndices none none (-1) n = sliceRange ((n : Int) - 1) (-1) (-1) := rfl
  rw [e, PySem.W.krv_sliceRange, PySem.W.krv_range]
theorem pick_revS (z : Str) : (⟨((Builtin.Str.strSliceIndices none none (-1) z.length).filterMap (z.cps[·]?)).toArray⟩ : Str) = revS z := by
  rw [strIx_rev, List.filterMap_reverse]
  show (⟨((List.range z.cps.size).filterMap (z.cps[·]?)).reverse.toArray⟩ : Str) = _
  rw [PySem.W.krv_all]
  rfl
theorem revS_length (z : Str) : (revS z).length = z.length := by
  show z.cps.toList.reverse.toArray.size = z.cps.size
  rw [List.size_toArray, List.length_reverse, Array.length_toList]
theorem getItem_rev {pins : List (Addr × Obj)} {σ : L2.St} {H : Hp} {s : Shared} {z : Str} {t : Tok} {sl : Addr} {vl vu vs : Value} {Q : VK} (I : Inv X pins σ H s) (hs : s.heap.IsSliceOf sl vl vu vs) (pl : IsPart vl none) (pu : IsPart vu none) (ps : IsPart vs (some (-1))) (hz : z.length ≤ sizeLine) (q : Q (.str (revS z)) H) :
    wpAny (model X.prog X.w) X.A (getItem (.str z t) (.ref sl)) (EP X pins σ Q) X.xe s := by
  obtain ⟨os, hos, hcs, hds⟩ := hs
  obtain ⟨l, rfl, e1⟩ := IsPart.raw pl
  obtain ⟨u, rfl, e2⟩ := IsPart.raw pu
  obtain ⟨st, rfl, e3⟩ := IsPart.raw ps
  cases l with
  | some _ => cases e1
  | none =>
    cases u with
    | some _ => cases e2
    | none =>
      cases st with
      | none => cases e3
      | some st =>
        obtain ⟨i, ti⟩ := st
        have ei : i = -1 := Option.some.inj e3
        subst ei
        refine wpAny_getItem_str_slice (l := none) (u := none) (st := some (-1, ti)) ⟨os, hos, hcs, hds⟩ rfl ?_
        show Made.post (if ((-1 : Int) == 1 && (Builtin.Str.strSliceIndices none none (-1) z.length).length == z.length) = true then Made.val (.str z t)
          else Made.str ⟨((Builtin.Str.strSliceIndices none none (-1) z.length).filterMap (z.cps[·]?)).toArray⟩) (EP X pins σ Q) s
        rw [if_neg (fun h => by rw [Bool.and_eq_true] at h; exact absurd h.1 (by decide)), pick_revS]
        exact ⟨by rw [revS_length]; exact hz, .str _, H, I.tok _, ⟨_, rfl⟩, q⟩
def tRevA (K : PySem.W.Frag) (te : TE) : TE := fun σ H Q => te σ H fun x H1 => (∃ z, x = .str z ∧ z.length ≤ sizeLine ∧ Q (.str (revS z)) H1) ∨ ∃ a xs, x = .ref a ∧ ((SqL K H1 a xs ∧ ∀ p, H1 p = none → Q (.ref p) (upd H1 p (.lst xs.reverse))) ∨ (SqT K H1 a xs ∧ ∀ p, H1 p = none → Q (.ref p) (upd H1 p (.tup xs.reverse))))
theorem pe_revA {e : Expr} {te : TE} {k : Nat} {p1 p2 p3 pos : Pos} (he : PE X e te) : PE X (.Subscript e (.Slice none none (some (.UnaryOp .USub (.Constant (.int 1) k p1) p2)) p3) pos) (tRevA X.K te) := by
  refine ⟨fun pins s σ H Q I h => ?_⟩
  refine Subscript_ (thn (he.run pins s σ H _ I h) fun v s1 ⟨x, H1, I1, r1, q1⟩ => ?_)
  have hst : PO X (some (.UnaryOp .USub (.Constant (.int 1) k p1) p2)) (tPart (tUn (rU fun i => .int (-i)) (tC (.int 1)))) := po_some (pe_un un_neg pe_int)
  refine wpAny_Slice (thn (po_none.run pins s1 σ H1 (fun o H2 => o = none ∧ H2 = H1) I1 ⟨rfl, rfl⟩) fun vl s2 ⟨l, H2, I2, pl, el, e2⟩ => ?_)
  subst el e2
  refine thn (po_none.run pins s2 σ H2 (fun o H3 => o = none ∧ H3 = H2) I2 ⟨rfl, rfl⟩) fun vu s3 ⟨u, H3, I3, pu, eu, e3⟩ => ?_
  subst eu e3
  refine thn (hst.run pins s3 σ H3 (fun o H4 => o = some (-1) ∧ H4 = H3) I3 ⟨1, rfl, -1, rfl, rfl, rfl⟩) fun vs s4 ⟨o, H4, I4, ps, eo, e4⟩ => ?_
  subst eo e4
  have I5 : Inv X pins σ H4 { s4 with heap := s4.heap.push { cls := .type "slice", data := .fields #[vl, vu, vs] } } := I4.kept (t' := s4.toks) fun b ob q => Heap.get?_push_of_some _ q
  rcases q1 with ⟨z, ex, hz, q⟩ | ⟨a, xs, ex, hx⟩
  · subst ex
    obtain ⟨t, rfl⟩ := r1
    show wpAny (model X.prog X.w) X.A (subscriptTail e (.Slice none none (some (.UnaryOp .USub (.Constant (.int 1) k p1) p2)) p3) (.str z t) (.ref s4.heap.objs.size)) (EP X pins σ Q) X.xe { s4 with heap := s4.heap.push { cls := .type "slice", data := .fields #[vl, vu, vs] } }
    exact tail_any (ops := [.str z t, .ref s4.heap.objs.size]) (typeIs_str _ z t) PySem.F.slot_str_getitem.lookup (getItem_rev I5 (Heap.IsSliceOf.new _ vl vu vs) pl pu ps hz q) (by with_unfolding_all rfl)
  subst ex
  cases r1
  show wpAny (model X.prog X.w) X.A (subscriptTail e (.Slice none none (some (.UnaryOp .USub (.Constant (.int 1) k p1) p2)) p3) (.ref a) (.ref s4.heap.objs.size)) (EP X pins σ Q) X.xe { s4 with heap := s4.heap.push { cls := .type "slice", data := .fields #[vl, vu, vs] } }
  rcases hx with ⟨hx, q⟩ | ⟨hx, q⟩
  · obtain ⟨its, r, ht, hz⟩ := I5.list hx
    have hlen := r.length
    refine tail_any (ops := [.ref a, .ref s4.heap.objs.size]) ht.isList.typeIs (PySem.slot_list_getitem.lookup) ?_ (by with_unfolding_all rfl)
    refine wpAny_getItem_list_slice ht.isList (Heap.IsSliceOf.new _ vl vu vs) pl pu ps (by decide) ?_ (by rw [List.size_toArray]; omega)
    rw [PySem.W.krv_pick]
    refine ⟨.ref _, _, I5.laid (t' := s4.toks) (o := .lst xs.reverse) (fun b ob q => Heap.get?_push_of_some _ q) (Nat.le_refl _) ?_, rfl, q _ (I5.hok.fresh (Nat.le_refl _))⟩
    exact ⟨by rw [List.length_reverse]; exact hz, _, 0, r.reverse, Heap.get?_push_size _ rfl⟩
  · obtain ⟨its, r, ht, hz⟩ := I5.tuple hx
    have hlen := r.length
    refine tail_any (ops := [.ref a, .ref s4.heap.objs.size]) ht.typeIs (slot_tuple_getitem.lookup) ?_ (by with_unfolding_all rfl)
    refine getItem_tuple_rev ht (Heap.IsSliceOf.new _ vl vu vs) pl pu ps ?_ (by rw [List.size_toArray]; omega)
    refine ⟨.ref _, _, I5.laid (t' := s4.toks) (o := .tup xs.reverse) (fun b ob q => Heap.get?_push_of_some _ q) (Nat.le_refl _) ?_, rfl, q _ (I5.hok.fresh (Nat.le_refl _))⟩
    exact ⟨by rw [List.length_reverse]; exact hz, its.reverse, r.reverse, ⟨_, Heap.get?_push_size _ rfl, rfl, _, rfl⟩⟩
end

section
variable {W : Wd} {X : Cx} {E : XK}
/-! ### truth -/
theorem tru_data {B H : Hp} {x : V} {d : D} {P : D → Hp → Hp → Prop} (g : Gd W B H) (r : Rp X.K B x d) (h : OutG W X.mg E B H (truth d) P) : ∃ k, TruV X.K x H k ∧ P (.bool k) B H := by
  cases r with
  | non => exact ⟨false, rfl, OutG.now g h⟩
  | bl b => exact ⟨b, rfl, OutG.now g h⟩
  | int i => exact ⟨i != 0, rfl, OutG.now g h⟩
  | str z =>
    obtain ⟨hz, h2⟩ := OutG.ite h
    exact ⟨_, ⟨by rw [lim_eq]; exact hz, rfl⟩, OutG.now g h2⟩
  | lst ha hx =>
    refine ⟨_, .inl ⟨_, SqL.lift g ha, rfl⟩, ?_⟩
    cases hx <;> exact OutG.now g h
  | tup ha hx =>
    refine ⟨_, .inr (.inl ⟨_, SqT.lift g ha, rfl⟩), ?_⟩
    cases hx <;> exact OutG.now g h

/-! ### isinstance -/
def tyN : D → String
  | .none => "NoneType" | .bool _ => "bool" | .int _ => "int" | .str _ => "str" | .list _ => "list" | .tuple _ => "tuple" | .dict _ => "dict"
theorem kit_of_names : ∀ (t : Ty),
    kitB "NoneType" t.name = some false ∧ kitB "bool" t.name = some (match t with | .bool => true | .int => true | _ => false) ∧ kitB "int" t.name = some (match t with | .int => true | _ => false) ∧
    kitB "str" t.name = some (match t with | .str => true | _ => false) ∧ kitB "list" t.name = some (match t with | .list => true | _ => false) ∧ kitB "tuple" t.name = some (match t with | .tuple => true | _ => false) := by
  intro t
  cases t <;> decide +kernel
theorem ty_data {B H : Hp} {x : V} {d : D} (g : Gd W B H) (r : Rp X.K B x d) : TyX X.K H x (.type (tyN d)) := by
  cases r with
  | non => exact .base .non
  | bl b => exact .base (.bl b)
  | int i => exact .base (.int i)
  | str z => exact .base (.str z)
  | lst ha hx =>
    rcases SqL.lift g ha with (h | ⟨o, h⟩) | ⟨o, its, n, h, c, _⟩
    · exact .base (.lst h)
    · exact .base (.frz h)
    · exact .kList h c
  | tup ha hx =>
    rcases SqT.lift g ha with (h | ⟨o, h⟩) | ⟨o, its, n, h, c, _⟩
    · exact .base (.tup h)
    · exact .fTuple h
    · exact .kTuple h c
theorem isi_data {B H : Hp} {x : V} {d : D} {t : Ty} (r : Rp X.K B x d) : ∃ b, kitB (tyN d) t.name = some b ∧ isiD d t = .ok (.bool b) := by
  obtain ⟨h1, h2, h3, h4, h5, h6⟩ := kit_of_names t
  cases r with
  | non => exact ⟨_, h1, by cases t <;> rfl⟩
  | bl b => exact ⟨_, h2, by cases t <;> rfl⟩
  | int i => exact ⟨_, h3, by cases t <;> rfl⟩
  | str z => exact ⟨_, h4, by cases t <;> rfl⟩
  | lst _ _ => exact ⟨_, h5, by cases t <;> rfl⟩
  | tup _ _ => exact ⟨_, h6, by cases t <;> rfl⟩
end
end Ev
/-! EvEnum: enumerate over a tuple, as a thing that a for or a comprehension walks. -/
namespace Ev
open PySem PySem.Spec PyProof.Rows L2
theorem enum1_new {v : Value} {o : Obj} {Hd : Heap → Prop} (Bg : Begins v o Hd) :
    Meets (Builtin.«enumerate.__new__» ⟨[.type "enumerate", v], []⟩) (fun _ R s => Hd s.heap ∧
      R (.ok (.ret (.ref (s.heap.push o).objs.size))) { s with heap := (s.heap.push o).push { cls := .type "enumerate", data := .fields #[.none, .bool false, .ref s.heap.objs.size, rawInt 0, .none, .none] } }) :=
  .of_wp fun prog w A R s hz => by
    obtain ⟨hp, gg, dd, tk, os⟩ := s
    obtain ⟨hA, hB⟩ := hz
    have hsub := sub_enumerate
    have step : ∀ {A' : Around} {E' : Value → Shared → Prop} {Q' : Value → Shared → Prop}, Q' (.ref hp.objs.size) ⟨hp.push o, gg, dd, tk, os⟩ → wpAny (model prog w) A' (pyIter v) Q' E' ⟨hp, gg, dd, tk, os⟩ :=
      fun q => Bg.iter prog w _ _ ⟨hp, gg, dd, tk, os⟩ _ hA q
    wp_walk using step
    refine wpAny_stack_any fun stk => wpAny_pure ?_
    split
    · rename_i cc _ _ _ _ _
      cases (cc == Value.type "enumerate") <;> (wp_walk using step; exact ⟨_, rfl, hB⟩)
    · (wp_walk using step; exact ⟨_, rfl, hB⟩)
section
variable {prog : Program} {w : World} {A : Around} {E : Value → Shared → Prop} {s : Shared}
theorem call_enum_tup {t : Addr} {items : Array Value} {Q : Value → Shared → Prop} (ht : s.heap.IsTuple t items)
    (h : ∀ h', IsEnum h' (s.heap.objs.size + 1) s.heap.objs.size 0 .none → h'.IsTupleIter s.heap.objs.size t 0 →
      (∀ b o, s.heap.get? b = some o → h'.get? b = some o) → Q (.ref (s.heap.objs.size + 1)) { s with heap := h' }) :
    wpAny (model prog w) A (call (.type "enumerate") [.ref t]) Q E s := by
  refine callType_new F.called_enumerate (by decide) (F.typeCall_enumerate_1 _) (F.newCall_enumerate_1 _) (fun obj => F.args_object_init_2 obj _) F.entry_enumerate_new
    (enum1_new (begins_tuple t items)) ⟨ht, ?_⟩
  have hz : (s.heap.push { cls := .type "tuple_iterator", data := .fields #[.ref t, .int 0 0] }).objs.size = s.heap.objs.size + 1 := Heap.size_push ..
  show _ ∧ _
  rw [hz]
  have en : IsEnum ((s.heap.push { cls := .type "tuple_iterator", data := .fields #[.ref t, .int 0 0] }).push
      { cls := .type "enumerate", data := .fields #[.none, .bool false, .ref s.heap.objs.size, rawInt 0, .none, .none] }) (s.heap.objs.size + 1) s.heap.objs.size 0 .none := by
    have q := Heap.get?_push_size (s.heap.push { cls := .type "tuple_iterator", data := .fields #[.ref t, .int 0 0] })
      (o := { cls := .type "enumerate", data := .fields #[.none, .bool false, .ref s.heap.objs.size, rawInt 0, .none, .none] }) rfl
    rw [hz] at q; exact q
  refine ⟨⟨_, en, rfl⟩, h _ en ?_ fun b o x => Heap.get?_push_of_some _ (Heap.get?_push_of_some _ x)⟩
  exact ⟨_, Heap.get?_push_of_some _ (Heap.get?_push_size _ rfl), rfl, rfl⟩
end
/-- the tuple at a at each turn, each item in a new pair -/
def IteT (K : PySem.W.Frag) (a : Addr) : L2.It :=
  ⟨fun i H => ∃ (xs : List V) (x : V), SqT K H a xs ∧ xs[i]? = some x, fun i H v H' => ∃ T x, v = .ref T ∧ H T = none ∧ H' = upd H T (.tup [.int (i : Nat), x]) ∧ ∀ xs, SqT K H a xs → xs[i]? = some x, fun i H => ∃ xs : List V, SqT K H a xs ∧ xs.length = i⟩
theorem turn_enumT {P : Program} {w : World} {K : PySem.W.Frag} {elts : List Expr} {kk : Nat} {tpos : Pos} (a e it : Addr) (hne : a ≠ it) :
    Turn P w K (.Tuple elts kk tpos) (IteT K a) [e, it] e (fun i h => (∃ old, IsEnum h e it ((i : Nat) : Int) old) ∧ h.IsTupleIter it a i ∧ e ≠ it ∧ e ≠ a) where
  mem := by simp
  obj := fun i h st b hb => by
    obtain ⟨⟨old, he⟩, ⟨o, ho, hc, hd⟩, _⟩ := st
    have e' : b = e ∨ b = it := by simpa using hb
    rcases e' with z | z
    · rw [z]; exact ⟨_, he, fun v q => nomatch q⟩
    · rw [z]; exact ⟨o, ho, fun v q => by rw [hd] at q; cases q⟩
  keep := fun i h h' st k => let ⟨⟨old, he⟩, hi, hn⟩ := st; ⟨⟨old, k e (by simp) _ he⟩, hi.at fun o q => k it (by simp) o q, hn⟩
  item := by
    intro X hP hw hK hc i pins s σ H E I hf st hg
    subst hP hw hK
    obtain ⟨⟨old, he⟩, hit, hei, hea⟩ := st
    obtain ⟨xs, x, hq, hx⟩ := hg
    obtain ⟨its, rv, p, hz⟩ := I.tuple hq
    obtain ⟨u, hu, ru⟩ := rv.get hx
    have hel : e < s.heap.objs.size := Heap.lt_size he
    have hil : it < s.heap.objs.size := by obtain ⟨_, q, _⟩ := hit; exact Heap.lt_size q
    have Dr := Draws.tuple (prog := X.prog) (w := X.w) (A := X.A.in1) (show X.A.in1.handled = none from I.ok.hd hc) it a hne its.toArray
    have hix : i < its.toArray.size := by
      obtain ⟨q, _⟩ := List.getElem?_eq_some_iff.mp hu
      simpa using q
    refine wpAny_pyNext_enum_itemD Dr he ⟨hit, show s.heap.IsTuple a its.toArray from p⟩ hix hei (by simp [hei, hea]) fun v h' tk hv ho hst hT hsz hk => ?_
    have ev : v = u := by
      have hv' : its.toArray[i]? = some v := hv
      have hu' : its.toArray[i]? = some u := by simpa using hu
      rw [hu'] at hv'
      exact (Option.some.inj hv').symm
    subst ev
    refine ⟨_, rfl, wpAny_letOwnedTupleGo_enum (s := { s with heap := h', toks := tk + 1 }) ho fun h'' he' sb => ?_⟩
    have hT2 : h''.get? s.heap.objs.size = some { cls := .type "tuple", data := .seq #[.int i tk, v] } := (sb.2 _ (Nat.ne_of_gt hel)).trans hT
    have new : ObjOk X.prog X.w (upd H s.heap.objs.size (.tup [.int (i : Nat), x])) h'' s.heap.objs.size (.tup [.int (i : Nat), x]) :=
      ⟨by show 2 ≤ sizeLine; decide, [.int i tk, v], .cons ⟨_, rfl⟩ (.cons ru .nil), ⟨_, hT2, rfl, _, rfl⟩⟩
    have I1 : Inv X pins σ (upd H s.heap.objs.size (.tup [.int (i : Nat), x])) { s with heap := h'', toks := tk + 1 } :=
      I.turnedNew (ch := [e, it]) (fun b ob hb q => (sb.2 b (fun z => hb (by simp [z]))).trans (hk b ob (fun z => hb (by simp [z])) (fun z => hb (by simp [z])) q)) hf (Nat.le_refl _) new
    refine ⟨.ref s.heap.objs.size, _, I1, rfl, ⟨_, x, rfl, I.hok.fresh (Nat.le_refl _), rfl, fun ys hy => by rw [I.tuple_inj hy hq]; exact hx⟩, ⟨⟨v, ?_⟩, hst.1.at fun o q => (sb.2 it (Ne.symm hei)).trans q, hei, hea⟩, fun b hb => ?_⟩
    · have e1 : ((i + 1 : Nat) : Int) = (i : Int) + 1 := by omega
      rw [e1]; exact he'
    · have hb' : b < s.heap.objs.size := by
        have e' : b = e ∨ b = it := by simpa using hb
        rcases e' with z | z
        · rw [z]; exact hel
        · rw [z]; exact hil
      rw [upd_ne (Nat.ne_of_lt hb')]
      exact (hf b hb).1
  done := by
    intro X hP hw hK hc i pins s σ H E I hf st hg
    subst hP hw hK
    obtain ⟨⟨old, he⟩, hit, hei, hea⟩ := st
    obtain ⟨xs, hq, hx⟩ := hg
    obtain ⟨its, rv, p, hz⟩ := I.tuple hq
    obtain ⟨f0, f1, f2, f3, f4, f5⟩ := hf it (by simp)
    have hl := rv.length
    have Dr := Draws.tuple (prog := X.prog) (w := X.w) (A := X.A.in1) (show X.A.in1.handled = none from I.ok.hd hc) it a hne its.toArray
    have hi : i = its.toArray.size := by simp; omega
    subst hi
    exact wpAny_pyNext_enum_endD Dr he ⟨hit, show s.heap.IsTuple a its.toArray from p⟩ fun h' eb => ⟨rfl, I.turned (t' := s.toks) (fun b o hb q => eb b o hb q) f0 f1 f3 f4 f5⟩
  self := fun A i s Q E st h => let ⟨⟨_, he⟩, _⟩ := st; wpAny_pyIter_enum he h
def iEnumT (K : PySem.W.Frag) (ta : TA) : TI := fun σ H R => ta σ H fun vs H1 => ∃ a xs, vs = [.ref a] ∧ SqT K H1 a xs ∧ R (IteT K a) H1
theorem pi_enumT {X : Cx} {e : Expr} {ta : TA} {p pos tpos : Pos} {elts : List Expr} {kk : Nat} (hg : Gl X "enumerate") (hm : X.mg "enumerate" = none) (ha : PA X [e] ta) (hs : starEach [e] X.env = [(false, eval e X.env)]) :
    PI X (.Tuple elts kk tpos) (.Call (.Name "enumerate" p) [e] [] pos) (iEnumT X.K ta) := by
  refine ⟨fun pins s σ H R I h => ?_⟩
  refine Call_ (ld_blt I hg hm boot_enumerate (PyProof.Rows.callWith_type1 (thn (ha.run pos pins s σ H _ I h) fun us s1 ⟨vs, H1, I1, r1, q1⟩ => ?_) hs rfl))
  obtain ⟨a, xs, ex, hq, q⟩ := q1
  subst ex
  cases r1 with
  | cons r rr =>
    cases rr
    cases r
    obtain ⟨its, rv, p', hz⟩ := I1.tuple hq
    have hal : a < s1.heap.objs.size := p'.lt
    refine call_enum_tup (show s1.heap.IsTuple a its.toArray from p') fun h' he hit hk => wpAny_pyIter_enum he ?_
    have I2 : Inv X pins σ H1 { s1 with heap := h' } := I1.kept (t' := s1.toks) hk
    refine ⟨s1.heap.objs.size + 1, [s1.heap.objs.size + 1, s1.heap.objs.size], _, _, H1, rfl, I2, turn_enumT a (s1.heap.objs.size + 1) s1.heap.objs.size (Nat.ne_of_lt hal), ⟨⟨.none, he⟩, hit, Nat.succ_ne_self _, Nat.ne_of_gt (Nat.lt_succ_of_lt hal)⟩, fun b hb => ?_, q⟩
    have e' : b = s1.heap.objs.size + 1 ∨ b = s1.heap.objs.size := by simpa using hb
    have hle : s1.heap.objs.size ≤ b := by
      rcases e' with z | z
      · rw [z]; exact Nat.le_add_right _ _
      · rw [z]; exact Nat.le_refl _
    exact I1.fpOk hle (I1.hok.fresh hle)
theorem walk_enumT {K : PySem.W.Frag} {a : Addr} {xs : List V} : Walk (IteT K a) xs.length (fun H => SqT K H a xs) (YPair (fun i => some (.int (i : Nat))) (fun i => xs[i]?)) := by
  refine ⟨fun i _ hi q => ⟨xs, xs[i], q, by simp [hi]⟩, fun _ q => ⟨xs, q, rfl⟩, fun i H v H' _ q y => ?_⟩
  obtain ⟨T, x, h1, h2, h3, h4⟩ := y
  exact ⟨T, .int (i : Nat), x, h1, h2, h3, rfl, h4 xs q⟩
end Ev
/-! EvE: targets, what is walked, comprehensions, calls: the rules of the readings. -/
namespace Ev
open PySem PySem.Spec PyProof.Rows L2

/-! ### a def's promise -/
def spR (W : Wd) (K : PySem.W.Frag) (mg : Str → Option Value) (n : Nat) (F : List D → R D) : Sp := fun vs H Q E => vs.length = n ∧ ∃ B ds, Gd W B H ∧ RpAll K B vs ds ∧ OutG W mg E B H (F ds) fun d B' H' => ∀ v, Rp K B' v d → Q v H'
/-- where one stands: the names Z, the functions g -/
structure Good0 (W : Wd) (g : G) (M : Nm) (k : Nat) (Z : Sc) (X : Cx) (E : XK) : Prop where
  N : X.N = Z.N
  nd : Z.N.Nodup
  sc : X.env.scope = Z.sc
  fn : X.fn = Z.fn
  calm : X.calm = true
  room : Room k X.A
  tk : Takes X (fun cls d _ H => E cls d H)
  bl : ∀ x, M.bl.contains x = true → X.mg x = none
  exc : ∀ c, M.excs.contains c = true → ∃ C, X.mg c = some (.ref C) ∧ PySem.W.excIn X.K C [.type "ValueError", .type "Exception", .type "BaseException", .type "object"] "ValueError.__new__" = true ∧ PySem.W.keepIn X.K (.ref C) = true ∧ Raises X (.ref C)
  gl : ∀ x d, g.gl x = some d → ∃ v u, X.mg x = some u ∧ L2.RelV v u ∧ ∀ B, Rp X.K B v d
  fk : ∀ f, M.fns.contains f = true → ∃ ps, g.fn f = some ps
  fns : ∀ f ps, g.fn f = some ps → ∃ a fd, FnOk X.prog X.w X.K X.mg X.base (L2.CX X.prog X.w) k a fd ps (spR W X.K X.mg ps.length (g.run f)) ∧ L2.Binds X.K fd ps [] ∧ PySem.W.keepIn X.K (.ref a) = true ∧ X.mg f = some (.ref a)
/-- a teller handed a lambda -/
def ToldRule (W : Wd) (g : G) (M : Nm) (k : Nat) (Z : Sc) (X : Cx) (E : XK) : Prop := ∀ (r : Str → List D → R D) (f : Str) (params : Arguments) (body : Expr) (scope : Scope) (lp p pos : Pos) (b : Ev.E), g.lo = some r → M.told.contains f = true → glB Z f = true → noPar params = true → LamX.lamSB Z.sc scope = true →
  (∀ (k' : Nat) (X' : Cx) (E' : XK), Good0 W (g.low r) M k' (Z.lamb scope) X' E' → PE X' body (tP W X' E' (ev (g.low r) false b))) → PE X (.Call (.Name f p) [.Lambda params body scope lp] [] pos) (tP W X E fun env => toldR g.ex (ev (g.low r) false b env))
structure Good (W : Wd) (g : G) (M : Nm) (k : Nat) (Z : Sc) (X : Cx) (E : XK) : Prop extends Good0 W g M k Z X E where
  lam : Z.lam = true → ToldRule W g M k Z X E
abbrev EN : XK := fun _ _ _ => False

section
variable {W : Wd} {g : G} {M : Nm} {k : Nat} {Z : Sc} {X : Cx} {E : XK}
theorem Good.units (G : Good W g M k Z X E) : X.A.units + 65 < cLine := by
  have := G.room.un
  omega
theorem Good.passes (G : Good W g M k Z X E) : L2.Passes (L2.CX X.prog X.w) X E := passes_call G.tk fun _ _ _ _ h => h

/-! ### names and constants -/
theorem lk_vis {k : Option NameKind} (h : visB k = true) : k = some .local ∨ k = some .cell ∨ k = some .free := by
  cases k with
  | none => cases h
  | some k => cases k <;> first | exact .inl rfl | exact .inr (.inl rfl) | exact .inr (.inr rfl) | cases h
theorem dn {x : Str} (h : dunder x = false) : (x == ("__debug__" : Str)) = false ∧ (x == ("__classdict__" : Str)) = false ∧ x ≠ "__name__" := by
  unfold dunder at h
  simp only [Bool.or_eq_false_iff] at h
  exact ⟨h.1.1, h.1.2, fun z => by have := h.2; rw [z] at this; simp at this⟩
theorem Good.gl_ (G : Good W g M k Z X E) {x : Str} (h : glB Z x = true) : Gl X x ∧ (x == ("__debug__" : Str)) = false ∧ x ≠ "__name__" := by
  unfold glB at h
  rw [Bool.and_eq_true] at h
  obtain ⟨h1, h2⟩ := h
  have d := dn (by simpa using h2)
  refine ⟨?_, d.1, d.2.2⟩
  show X.env.scope.names.lookup x = some .globalImplicit
  rw [G.sc]
  split at h1
  · assumption
  · cases h1
theorem RepE.slot {K : PySem.W.Frag} {B : Hp} {σ : L2.St} {env : Env} {i : Nat} {d : D} (r : RepE K B σ env) (h : getS env i = .ok d) : ∃ v : V, σ[i]? = some (some v) ∧ Rp K B v d := by
  unfold getS at h
  split at h
  · rename_i d' e
    cases h
    exact r.2 i d e
  · cases h
theorem getS_noexc (env : Env) (i : Nat) (c : Str) : getS env i ≠ .exc c := by
  unfold getS
  split <;> exact fun z => nomatch z
theorem pe_name (G : Good W g M k Z X E) (x : Str) (p : Pos) : PE X (.Name x p) (tP W X E (ev g false (trName Z x))) := by
  unfold trName
  by_cases hd : dunder x = true
  · rw [if_pos hd]; exact pe_bad fun _ => rfl
  rw [if_neg hd]
  have hd' := dn (by simpa using hd)
  by_cases hv : visB (Z.sc.names.lookup x) = true
  · rw [if_pos hv]
    cases hi : idxN Z.N x with
    | none => exact pe_bad fun _ => rfl
    | some i =>
      have vis : Vis X.env.scope x := by
        show X.env.scope.names.lookup x = _ ∨ X.env.scope.names.lookup x = _ ∨ X.env.scope.names.lookup x = _
        rw [G.sc]; exact lk_vis hv
      refine L2.PE.imp (L2.pe_var (i := i) (by rw [G.N]; exact idxN_get hi) vis hd'.1 hd'.2.1) fun σ H Q ⟨B, env, gd, r, o⟩ => ?_
      have o' : Out W X E B H (getS env i) Q := o
      cases e : getS env i with
      | ok d =>
        obtain ⟨v, e1, rv⟩ := r.slot e
        rw [e] at o'
        exact ⟨v, e1, Out.now gd rv o'⟩
      | exc c => exact absurd e (getS_noexc env i c)
      | bad => rw [e] at o'; exact o'.elim
  · rw [if_neg hv]
    by_cases hg : glB Z x = true
    · rw [if_pos hg]
      cases hx : g.gl x with
      | none => exact pe_bad fun env => by show (match g.gl x with | some d => R.ok d | none => .bad) = _; rw [hx]
      | some d =>
        obtain ⟨v, u, e1, rv, rp⟩ := G.gl x d hx
        obtain ⟨h1, h2, _⟩ := G.gl_ hg
        refine L2.PE.imp (L2.pe_glob h1 e1 rv h2) fun σ H Q ⟨B, env, gd, r, o⟩ => ?_
        have o' : Out W X E B H (match g.gl x with | some d => R.ok d | none => .bad) Q := o
        rw [hx] at o'
        exact Out.now gd (rp B) o'
    · rw [if_neg hg]; exact pe_bad fun _ => rfl
theorem pe_const {d : D} {v : V} {e : Expr} (hp : PE X e (tC v)) (r : ∀ B, Rp X.K B v d) : PE X e (tP W X E fun _ => .ok d) :=
  hp.imp fun σ H Q ⟨B, env, gd, rp, o⟩ => Out.now gd (r B) o

/-! ### from a value to its truth -/
def plainT : Expr → Bool
  | .UnaryOp .Not _ _ => false | .BoolOp _ _ _ => false | .IfExp _ _ _ _ => false | .Compare _ _ _ _ => false
  | _ => true
theorem plain_true {e : Expr} (h : plainT e = true) (env : PySem.Env) (whole : Sem Value) : isTrue e env whole = (do let v ← whole; standAt e.pos; holding [v] (truthy v)) := by
  cases e <;> first | rfl | (cases h; done) | skip
  rename_i op x p
  cases op <;> first | rfl | (cases h; done)
theorem pt_of {e : Expr} {f : Env → R D} (hp : PE X e (tP W X E f)) (h : plainT e = true) : PT X e (tPT W X E fun env => f env >>= truth) := by
  refine L2.PT.imp (L2.pt_truth hp (plain_true h X.env)) fun σ H Q ⟨B, env, gd, r, o⟩ => ⟨B, env, gd, r, o.bind fun d B1 H1 _ st o1 v rv => ?_⟩
  obtain ⟨c, t, d', e1, q⟩ := tru_data st.gd rv o1
  cases e1
  exact ⟨_, t, q⟩

/-! ### lists of expressions -/
theorem star_step {e : Expr} {es : List Expr} (h : isStar e = false) (env : PySem.Env) : starEach (e :: es) env = (false, eval e env) :: starEach es env := by
  cases e <;> first | rfl | (cases h; done)
theorem star_any : ∀ {es : List Expr}, es.any isStar = false → ∀ (env : PySem.Env) (pos : Pos), (backTo pos (starEach es env)).any (·.1) = false
  | [], _, _, _ => rfl
  | e :: es, h, env, pos => by
    rw [List.any_cons, Bool.or_eq_false_iff] at h
    rw [star_step h.1]
    show (false || (backTo pos (starEach es env)).any (·.1)) = false
    rw [star_any h.2]; rfl
theorem pa_nilD : PA X [] (tPA W X E fun _ => .ok []) := L2.PA.imp L2.pa_nil fun σ H Q ⟨B, env, gd, r, o⟩ => OutG.now gd o [] .nil
theorem pa_consD {e : Expr} {es : List Expr} {f : Env → R D} {fs : Env → R (List D)} (h : isStar e = false) (he : PE X e (tP W X E f)) (hs : PA X es (tPA W X E fs)) :
    PA X (e :: es) (tPA W X E fun env => f env >>= fun d => fs env >>= fun ds => .ok (d :: ds)) :=
  L2.PA.imp (L2.pa_cons he hs (star_step h X.env)) fun σ H Q ⟨B, env, gd, r, o⟩ => ⟨B, env, gd, r, o.bind fun d B1 H1 _ st o1 v rv =>
    ⟨B1, env, st.gd, r.mono st.same, o1.bind fun ds B2 H2 _ st2 o2 vs rvs => OutG.now st2.gd o2 (v :: vs) (.cons (rv.mono st2.same) rvs)⟩⟩

/-! ### displays -/
/-- a new list's reading: it stands at its place, out of the ground -/
def tF (W : Wd) (X : Cx) (E : XK) (f : Env → R D) : TE := fun σ H Q => ∃ B env, Gd W B H ∧ RepE X.K B σ env ∧ OutG W X.mg E B H (f env) fun d B' H' => ∃ ds : List D, d = PyData.list ds ∧ ∀ (p : Addr) (vs : List V), H p = none → B' p = none → H' p = some (.lst vs) → RpAll X.K B' vs ds → Q (.ref p) H'
/-- .. taken into the ground -/
theorem tF_of {f : Env → R D} (hl : ∀ env d, f env = .ok d → ∃ ds, d = .list ds) {σ : L2.St} {H : Hp} {Q : VK} (h : tP W X E f σ H Q) : tF W X E f σ H Q := by
  obtain ⟨B, env, gd, r, o⟩ := h
  refine ⟨B, env, gd, r, ?_⟩
  cases e : f env with
  | exc c => rw [e] at o; exact o
  | bad => rw [e] at o; exact o
  | ok d =>
    rw [e] at o
    intro B' H' st
    obtain ⟨ds, ed⟩ := hl env d e
    subst ed
    refine ⟨ds, rfl, fun p vs h0 h1 h2 rv => ?_⟩
    have st' := Stp.take gd st h0 h2 h1 (gd.novol h0)
    exact o _ _ st' _ (.lst (.inl (.inl upd_same)) (rv.mono fun b u q => by
      have hb : b ≠ p := fun z => by rw [z, h1] at q; cases q
      rw [upd_ne hb]; exact q))
theorem pe_ofF {e : Expr} {f : Env → R D} (hl : ∀ env d, f env = .ok d → ∃ ds, d = .list ds) (h : PE X e (tF W X E f)) : PE X e (tP W X E f) := h.imp fun σ H Q => tF_of hl
theorem pe_tupD {es : List Expr} {fs : Env → R (List D)} {x1 : Nat} {pos : Pos} (hs : PA X es (tPA W X E fs)) : PE X (.Tuple es x1 pos) (tP W X E fun env => fs env >>= fun ds => if ds.length ≤ lim then .ok (.tuple ds) else .bad) :=
  (L2.pe_tup hs).imp fun σ H Q ⟨B, env, gd, r, o⟩ => ⟨B, env, gd, r, o.bind fun ds B1 H1 _ st o1 vs rvs => by
    obtain ⟨hz, o2⟩ := OutG.ite o1
    exact ⟨by rw [lim_eq, rvs.length]; exact hz, Out.tup st.gd rvs o2⟩⟩
/-- the end of a new list's reading -/
theorem new_list {B H B1 H1 : Hp} {ds : List D} {vs : List V} {Q : VK} (st : Stp W B H B1 H1) (rv : RpAll X.K B1 vs ds)
    (o : OutG W X.mg E B1 H1 (.ok (PyData.list ds)) fun d B' H' => ∃ ds : List D, d = PyData.list ds ∧ ∀ (p : Addr) (vs : List V), H p = none → B' p = none → H' p = some (.lst vs) → RpAll X.K B' vs ds → Q (.ref p) H') : ∀ p, H1 p = none → Q (.ref p) (upd H1 p (.lst vs)) := fun p hp => by
  have hp0 : H p = none := by
    cases e : H p with
    | none => rfl
    | some u => exact absurd hp (st.occ (by rw [e]; exact fun z => nomatch z))
  obtain ⟨es, e, q⟩ := o _ _ (Stp.newH st.gd (.lst vs) hp)
  cases e
  exact q p vs hp0 (st.gd.free hp) upd_same rv
theorem pe_lstF {es : List Expr} {fs : Env → R (List D)} {pos : Pos} (hs : PA X es (tPA W X E fs)) : PE X (.List es pos) (tF W X E fun env => fs env >>= fun ds => if ds.length ≤ lim then .ok (.list ds) else .bad) :=
  (L2.pe_lst hs).imp fun σ H Q ⟨B, env, gd, r, o⟩ => ⟨B, env, gd, r, o.bind fun ds B1 H1 _ st o1 vs rvs => by
    obtain ⟨hz, o2⟩ := OutG.ite o1
    exact ⟨by rw [lim_eq, rvs.length]; exact hz, new_list st rvs o2⟩⟩

/-! ### operators -/
theorem pe_binD {a b : Expr} {fa fb : Env → R D} {pos : Pos} (op : Operator) (ha : PE X a (tP W X E fa)) (hb : PE X b (tP W X E fb)) : PE X (.BinOp a op b pos) (tP W X E fun env => fa env >>= fun x => fb env >>= fun y => binD op x y) :=
  (L2.pe_op (opr_bin op) ha hb).imp fun σ H Q ⟨B, env, gd, r, o⟩ => ⟨B, env, gd, r, o.bind fun d B1 H1 _ st o1 v rv =>
    ⟨B1, env, st.gd, r.mono st.same, o1.bind fun d2 B2 H2 _ st2 o2 v2 rv2 => ⟨B2, d, d2, st2.gd, rv.mono st2.same, rv2, o2⟩⟩⟩
theorem pe_negD {a : Expr} {fa : Env → R D} {pos : Pos} (ha : PE X a (tP W X E fa)) : PE X (.UnaryOp .USub a pos) (tP W X E fun env => fa env >>= fun x => match x with | .int i => .ok (.int (-i)) | _ => .bad) :=
  (L2.pe_un un_neg ha).imp fun σ H Q ⟨B, env, gd, r, o⟩ => ⟨B, env, gd, r, o.bind fun d B1 H1 e st o1 v rv => by
    clear e
    cases rv
    case int i => exact ⟨i, rfl, Out.now st.gd (.int _) o1⟩
    all_goals exact False.elim o1⟩
theorem pe_cmpD {a b : Expr} {fa fb : Env → R D} {pos : Pos} (op : CmpOp) (hu : X.A.units + 65 < cLine) (hm : behindInMarks op b = false) (ha : PE X a (tP W X E fa)) (hb : PE X b (tP W X E fb)) : PE X (.Compare a [op] [b] pos) (tP W X E fun env => fa env >>= fun x => fb env >>= fun y => cmpD op x y) :=
  (L2.pe_cmpR (opr_cmp hu op) ha hb hm).imp fun σ H Q ⟨B, env, gd, r, o⟩ => ⟨B, env, gd, r, o.bind fun d B1 H1 _ st o1 v rv =>
    ⟨B1, env, st.gd, r.mono st.same, o1.bind fun d2 B2 H2 _ st2 o2 v2 rv2 => ⟨B2, d, d2, st2.gd, rv.mono st2.same, rv2, o2⟩⟩⟩
theorem cmp_bool {op : CmpOp} {d e d' : D} (h : cmpD op d e = .ok d') : ∃ b, d' = .bool b := by
  unfold cmpD at h
  cases op <;> simp only at h
  case Eq => split at h <;> cases h; exact ⟨_, rfl⟩
  case NotEq => split at h <;> cases h; exact ⟨_, rfl⟩
  case Is =>
    cases e <;> simp only [isD] at h <;> first | (cases h; exact ⟨_, rfl⟩) | (cases h; done) | (split at h <;> cases h; exact ⟨_, rfl⟩)
  case IsNot =>
    cases e <;> simp only [isD] at h <;> first | (cases h; exact ⟨_, rfl⟩) | (cases h; done) | (split at h <;> cases h; exact ⟨_, rfl⟩)
  case In =>
    cases e <;> simp only [inD] at h <;> first | (cases h; done) | (split at h <;> first | (cases h; exact ⟨_, rfl⟩) | (cases h; done) | (split at h <;> cases h; exact ⟨_, rfl⟩))
  case NotIn =>
    cases e <;> simp only [inD] at h <;> first | (cases h; done) | (split at h <;> first | (cases h; exact ⟨_, rfl⟩) | (cases h; done) | (split at h <;> cases h; exact ⟨_, rfl⟩))
  case Lt => cases d <;> cases e <;> simp only [ltD] at h <;> first | (split at h <;> first | (cases h; exact ⟨_, rfl⟩) | (cases h; done)) | (cases h; exact ⟨_, rfl⟩) | (cases h; done)
  case LtE => cases d <;> cases e <;> simp only [leD] at h <;> first | (split at h <;> first | (cases h; exact ⟨_, rfl⟩) | (cases h; done)) | (cases h; exact ⟨_, rfl⟩) | (cases h; done)
  case Gt => cases d <;> cases e <;> simp only [ltD] at h <;> first | (split at h <;> first | (cases h; exact ⟨_, rfl⟩) | (cases h; done)) | (cases h; exact ⟨_, rfl⟩) | (cases h; done)
  case GtE => cases d <;> cases e <;> simp only [leD] at h <;> first | (split at h <;> first | (cases h; exact ⟨_, rfl⟩) | (cases h; done)) | (cases h; exact ⟨_, rfl⟩) | (cases h; done)
/-- a comparison's answer as a test's -/
theorem test_of {B H : Hp} {r : R D} {Q : Bool → Hp → Prop} (hb : ∀ d, r = .ok d → ∃ b, d = .bool b) (o : OutG W X.mg E B H r fun d _ H' => ∃ k, d = .bool k ∧ Q k H') :
    Out W X E B H r (fun x H' => ∃ k, x = .bl k ∧ Q k H') := o.imp fun d B1 H1 e st ⟨k, ek, q⟩ v rv => by
  subst ek
  cases rv
  exact ⟨_, rfl, q⟩
theorem pt_cmpD {a b : Expr} {fa fb : Env → R D} {pos : Pos} (op : CmpOp) (hu : X.A.units + 65 < cLine) (hm : behindInMarks op b = false) (ha : PE X a (tP W X E fa)) (hb : PE X b (tP W X E fb)) : PT X (.Compare a [op] [b] pos) (tPT W X E fun env => fa env >>= fun x => fb env >>= fun y => cmpD op x y) :=
  (L2.pt_cmpR (opr_cmp hu op) ha hb hm).imp fun σ H Q ⟨B, env, gd, r, o⟩ => ⟨B, env, gd, r, o.bind fun d B1 H1 _ st o1 v rv =>
    ⟨B1, env, st.gd, r.mono st.same, o1.bind fun d2 B2 H2 _ st2 o2 v2 rv2 => ⟨B2, d, d2, st2.gd, rv.mono st2.same, rv2, test_of (fun d h => cmp_bool h) o2⟩⟩⟩
theorem pe_chainD {a b c : Expr} {fa fb fc : Env → R D} {pos : Pos} (op op2 : CmpOp) (hu : X.A.units + 65 < cLine) (hm : behindInMarks op2 c = false) (ha : PE X a (tP W X E fa)) (hb : PE X b (tP W X E fb)) (hc : PE X c (tP W X E fc)) :
    PE X (.Compare a [op, op2] [b, c] pos) (tP W X E fun env => fa env >>= fun x => fb env >>= fun y => cmpD op x y >>= fun k => match k with
      | .bool true => fc env >>= fun z => cmpD op2 y z
      | .bool false => .ok (.bool false)
      | _ => .bad) :=
  (L2.pe_chain (opr_cmp hu op) (opr_cmp hu op2) ha hb hc hm).imp fun σ H Q ⟨B, env, gd, r, o⟩ => ⟨B, env, gd, r, o.bind fun d B1 H1 _ st o1 v rv =>
    ⟨B1, env, st.gd, r.mono st.same, o1.bind fun d2 B2 H2 _ st2 o2 v2 rv2 => ⟨B2, d, d2, st2.gd, rv.mono st2.same, rv2, o2.bind fun d3 B3 H3 e3 st3 o3 v3 rv3 => by
      obtain ⟨kb, ek⟩ := cmp_bool e3
      subst ek
      cases rv3
      refine ⟨kb, rfl, ?_⟩
      cases kb with
      | false => exact Out.bl st3.gd o3
      | true => exact ⟨B3, env, st3.gd, (r.mono st.same).mono (st2.same.trans st3.same), OutG.bind o3 fun d4 B4 H4 _ st4 o4 v4 rv4 => ⟨B4, d2, d4, st4.gd, (rv2.mono st3.same).mono st4.same, rv4, o4⟩⟩⟩⟩⟩
theorem pt_chainD {a b c : Expr} {fa fb fc : Env → R D} {pos : Pos} (op op2 : CmpOp) (hu : X.A.units + 65 < cLine) (hm : behindInMarks op2 c = false) (ha : PE X a (tP W X E fa)) (hb : PE X b (tP W X E fb)) (hc : PE X c (tP W X E fc)) :
    PT X (.Compare a [op, op2] [b, c] pos) (tPT W X E fun env => fa env >>= fun x => fb env >>= fun y => cmpD op x y >>= fun k => match k with
      | .bool true => fc env >>= fun z => cmpD op2 y z
      | .bool false => .ok (.bool false)
      | _ => .bad) :=
  (L2.pt_chain (opr_cmp hu op) (opr_cmp hu op2) ha hb hc hm).imp fun σ H Q ⟨B, env, gd, r, o⟩ => ⟨B, env, gd, r, o.bind fun d B1 H1 _ st o1 v rv =>
    ⟨B1, env, st.gd, r.mono st.same, o1.bind fun d2 B2 H2 _ st2 o2 v2 rv2 => ⟨B2, d, d2, st2.gd, rv.mono st2.same, rv2, o2.bind fun d3 B3 H3 e3 st3 o3 v3 rv3 => by
      obtain ⟨kb, ek⟩ := cmp_bool e3
      subst ek
      cases rv3
      refine ⟨kb, rfl, ?_⟩
      cases kb with
      | false =>
        obtain ⟨k', e', q⟩ := OutG.now st3.gd o3
        cases e'
        exact ⟨_, rfl, q⟩
      | true => exact ⟨B3, env, st3.gd, (r.mono st.same).mono (st2.same.trans st3.same), OutG.bind o3 fun d4 B4 H4 _ st4 o4 v4 rv4 => ⟨B4, d2, d4, st4.gd, (rv2.mono st3.same).mono st4.same, rv4, test_of (fun d h => cmp_bool h) o4⟩⟩⟩⟩⟩

/-! ### and, or, not, if -/
section
variable {a b c : Expr} {rest : List Expr} {fa fb fc : Env → R D} {pos : Pos}
theorem pe_andD (ha : PE X a (tP W X E fa)) (hb : PE X (.BoolOp .And (b :: rest) pos) (tP W X E fb)) : PE X (.BoolOp .And (a :: b :: rest) pos) (tP W X E fun env => fa env >>= fun k => match k with
      | .bool true => fb env
      | .bool false => .ok (.bool false)
      | _ => .bad) :=
  (L2.pe_and ha hb).imp fun σ H Q ⟨B, env, gd, r, o⟩ => ⟨B, env, gd, r, o.bind fun d B1 H1 e st o1 v rv => by
    clear e
    cases rv
    case bl k =>
      refine ⟨k, rfl, ?_⟩
      cases k with
      | true => exact ⟨B1, env, st.gd, r.mono st.same, o1⟩
      | false => exact Out.bl st.gd o1
    all_goals exact False.elim o1⟩
theorem pe_orD (ha : PE X a (tP W X E fa)) (hb : PE X (.BoolOp .Or (b :: rest) pos) (tP W X E fb)) : PE X (.BoolOp .Or (a :: b :: rest) pos) (tP W X E fun env => fa env >>= fun k => match k with
      | .bool true => .ok (.bool true)
      | .bool false => fb env
      | _ => .bad) :=
  (L2.pe_or ha hb).imp fun σ H Q ⟨B, env, gd, r, o⟩ => ⟨B, env, gd, r, o.bind fun d B1 H1 e st o1 v rv => by
    clear e
    cases rv
    case bl k =>
      refine ⟨k, rfl, ?_⟩
      cases k with
      | true => exact Out.bl st.gd o1
      | false => exact ⟨B1, env, st.gd, r.mono st.same, o1⟩
    all_goals exact False.elim o1⟩
theorem pw_andD (ha : PT X a (tPT W X E fa)) (hb : PW X (.BoolOp .And (b :: rest) pos) (tPT W X E fb)) : PW X (.BoolOp .And (a :: b :: rest) pos) (tPT W X E fun env => fa env >>= fun k => match k with
      | .bool true => fb env
      | .bool false => .ok (.bool false)
      | _ => .bad) := by
  refine ⟨fun wh pins s σ H Q I ⟨B, env, gd, r, o⟩ => (L2.pw_and ha hb).run wh pins s σ H Q I ⟨B, env, gd, r, o.bind fun d B1 H1 e st o1 => ?_⟩⟩
  clear e
  cases d
  case bool k =>
    refine ⟨k, rfl, ?_⟩
    cases k with
    | true => exact ⟨B1, env, st.gd, r.mono st.same, o1⟩
    | false =>
      obtain ⟨k', e', q⟩ := OutG.now st.gd o1
      cases e'
      exact q
  all_goals exact False.elim o1
theorem pw_orD (ha : PT X a (tPT W X E fa)) (hb : PW X (.BoolOp .Or (b :: rest) pos) (tPT W X E fb)) : PW X (.BoolOp .Or (a :: b :: rest) pos) (tPT W X E fun env => fa env >>= fun k => match k with
      | .bool true => .ok (.bool true)
      | .bool false => fb env
      | _ => .bad) := by
  refine ⟨fun wh pins s σ H Q I ⟨B, env, gd, r, o⟩ => (L2.pw_or ha hb).run wh pins s σ H Q I ⟨B, env, gd, r, o.bind fun d B1 H1 e st o1 => ?_⟩⟩
  clear e
  cases d
  case bool k =>
    refine ⟨k, rfl, ?_⟩
    cases k with
    | true =>
      obtain ⟨k', e', q⟩ := OutG.now st.gd o1
      cases e'
      exact q
    | false => exact ⟨B1, env, st.gd, r.mono st.same, o1⟩
  all_goals exact False.elim o1
theorem pe_notD (ha : PE X a (tP W X E fa)) : PE X (.UnaryOp .Not a pos) (tP W X E fun env => fa env >>= fun k => match k with | .bool b => .ok (.bool (!b)) | _ => .bad) :=
  (L2.pe_not ha).imp fun σ H Q ⟨B, env, gd, r, o⟩ => ⟨B, env, gd, r, o.bind fun d B1 H1 e st o1 v rv => by
    clear e
    cases rv
    case bl k => exact ⟨k, rfl, Out.bl st.gd o1⟩
    all_goals exact False.elim o1⟩
theorem pt_notD (ha : PT X a (tPT W X E fa)) : PT X (.UnaryOp .Not a pos) (tPT W X E fun env => fa env >>= fun k => match k with | .bool b => .ok (.bool (!b)) | _ => .bad) :=
  (L2.pt_not ha).imp fun σ H Q ⟨B, env, gd, r, o⟩ => ⟨B, env, gd, r, o.bind fun d B1 H1 e st o1 => by
    clear e
    cases d
    case bool k =>
      obtain ⟨k', e', q⟩ := OutG.now st.gd o1
      cases e'
      exact ⟨k, rfl, q⟩
    all_goals exact False.elim o1⟩
theorem pe_iteD (hc : PT X c (tPT W X E fc)) (ha : PE X a (tP W X E fa)) (hb : PE X b (tP W X E fb)) : PE X (.IfExp c a b pos) (tP W X E fun env => fc env >>= fun k => match k with
      | .bool true => fa env
      | .bool false => fb env
      | _ => .bad) :=
  (L2.pe_ifExp hc ha hb).imp fun σ H Q ⟨B, env, gd, r, o⟩ => ⟨B, env, gd, r, o.bind fun d B1 H1 e st o1 => by
    clear e
    cases d
    case bool k =>
      refine ⟨k, rfl, ?_⟩
      cases k with
      | true => exact ⟨B1, env, st.gd, r.mono st.same, o1⟩
      | false => exact ⟨B1, env, st.gd, r.mono st.same, o1⟩
    all_goals exact False.elim o1⟩
end
end
end Ev
/-! EvE2: places, slices, calls, built-ins. -/
namespace Ev
open PySem PySem.Spec PyProof.Rows L2
section
variable {W : Wd} {g : G} {M : Nm} {k : Nat} {Z : Sc} {X : Cx} {E : XK}
theorem plainIx {b : Expr} (h : ∀ lo hi p, b ≠ .Slice lo hi none p) : PlainIx b := by
  intro o i
  cases b with
  | Slice lo hi st p =>
    cases st with
    | none => exact absurd rfl (h lo hi p)
    | some _ => rfl
  | _ => rfl
theorem pe_ixD {a b : Expr} {fa fb : Env → R D} {pos : Pos} (h : ∀ lo hi p, b ≠ .Slice lo hi none p) (ha : PE X a (tP W X E fa)) (hb : PE X b (tP W X E fb)) : PE X (.Subscript a b pos) (tP W X E fun env => fa env >>= fun x => fb env >>= fun y => ixD x y) :=
  (L2.pe_ix opr_ix ha hb (plainIx h)).imp fun σ H Q ⟨B, env, gd, r, o⟩ => ⟨B, env, gd, r, o.bind fun d B1 H1 _ st o1 v rv =>
    ⟨B1, env, st.gd, r.mono st.same, o1.bind fun d2 B2 H2 _ st2 o2 v2 rv2 => ⟨B2, d, d2, st2.gd, rv.mono st2.same, rv2, o2⟩⟩⟩
theorem _root_.L2.PO.imp {e : Option Expr} {t t' : TO} (h : PO X e t) (i : ∀ σ H Q, t' σ H Q → t σ H Q) : PO X e t' := ⟨fun pins s σ H Q I q => h.run pins s σ H Q I (i σ H Q q)⟩
theorem po_noneD : PO X none (tPO W X E fun _ => .ok none) := L2.PO.imp L2.po_none fun σ H Q ⟨B, env, gd, r, o⟩ => OutG.now gd o
theorem po_someD {a : Expr} {fa : Env → R D} (ha : PE X a (tP W X E fa)) : PO X (some a) (tPO W X E fun env => fa env >>= fun d => match d with | .int i => .ok (some i) | _ => .bad) :=
  L2.PO.imp (L2.po_some ha) fun σ H Q ⟨B, env, gd, r, o⟩ => ⟨B, env, gd, r, o.bind fun d B1 H1 e st o1 v rv => by
    clear e
    cases rv
    case int i => exact ⟨i, rfl, OutG.now st.gd o1⟩
    all_goals exact False.elim o1⟩
theorem pe_cutD {a : Expr} {lo hi : Option Expr} {fa : Env → R D} {fl fh : Env → R (Option Int)} {p2 pos : Pos} (ha : PE X a (tP W X E fa)) (hl : PO X lo (tPO W X E fl)) (hh : PO X hi (tPO W X E fh)) :
    PE X (.Subscript a (.Slice lo hi none p2) pos) (tP W X E fun env => fa env >>= fun x => fl env >>= fun l => fh env >>= fun h => cutD x l h) :=
  (L2.pe_slice opr_cut ha hl hh).imp fun σ H Q ⟨B, env, gd, r, o⟩ => ⟨B, env, gd, r, o.bind fun d B1 H1 _ st o1 v rv =>
    ⟨B1, env, st.gd, r.mono st.same, o1.bind fun l B2 H2 _ st2 o2 => ⟨B2, env, st2.gd, (r.mono st.same).mono st2.same, o2.bind fun h B3 H3 _ st3 o3 => ⟨B3, d, st3.gd, (rv.mono st2.same).mono st3.same, o3⟩⟩⟩⟩
theorem pe_revD {a : Expr} {fa : Env → R D} {k' : Nat} {p1 p2 p3 pos : Pos} (ha : PE X a (tP W X E fa)) :
    PE X (.Subscript a (.Slice none none (some (.UnaryOp .USub (.Constant (.int 1) k' p1) p2)) p3) pos) (tP W X E fun env => fa env >>= revD) :=
  (pe_revA ha).imp fun σ H Q ⟨B, env, gd, r, o⟩ => ⟨B, env, gd, r, o.bind fun d B1 H1 e st o1 v rv => by
    clear e
    cases rv
    case lst a xs ds ha hx => exact .inr ⟨a, xs, rfl, .inl ⟨SqL.lift st.gd ha, Out.lst st.gd hx.reverse o1⟩⟩
    case tup a xs ds ha hx => exact .inr ⟨a, xs, rfl, .inr ⟨SqT.lift st.gd ha, Out.tup st.gd hx.reverse o1⟩⟩
    case str z =>
      obtain ⟨hz, o2⟩ := OutG.ite o1
      exact .inl ⟨z, rfl, by rw [lim_eq]; exact hz, Out.now st.gd (.str _) o2⟩
    all_goals exact False.elim o1⟩

/-! ### methods -/
theorem base_ok {o : Expr} {m : Str} {env : PySem.Env} {w : Sem Value} (h : isCall0 o = false) : attributeBase o m env w = w := by
  unfold attributeBase
  split
  · cases h
  · rfl
theorem pe_methD {o : Expr} {m : Str} {ap cp : Pos} {mf : Mf} {fo : Env → R D} (hm : mfOf m 0 = some mf) (hl : (ap.endLine == cp.line) = true) (hb : isCall0 o = false) (ho : PE X o (tP W X E fo)) : PE X (.Call (.Attribute o m ap) [] [] cp) (tP W X E fun env => fo env >>= fun x => strR x >>= fun x => methD mf x []) := by
  unfold mfOf at hm
  rw [if_pos rfl] at hm
  split at hm
  · rename_i e
    subst e
    cases hm
    exact (L2.pe_upper ho (base_ok hb) hl).imp fun σ H Q ⟨B, env, gd, r, o⟩ => ⟨B, env, gd, r, o.bind fun d B1 H1 e st o1 v rv => by
      clear e
      cases rv
      case str z =>
        obtain ⟨hz, o2⟩ := OutG.ite o1
        exact ⟨⟨z, rfl⟩, z, rfl, rfl, hz, Out.now st.gd (.str _) o2⟩
      all_goals exact False.elim o1⟩
  · cases hm
theorem strs_eq {K : PySem.W.Frag} {B : Hp} : ∀ {vs : List V} {ds : List D} {bs : List Str}, RpAll K B vs ds → strsOf ds = some bs → vs = bs.map V.str
  | _, _, _, .nil, h => by cases h; rfl
  | _, _, bs, .cons (d := d) (ds := ds) r rs, h => by
    cases r
    case str b =>
      have h' : (strsOf ds).map (b :: ·) = some bs := h
      cases e : strsOf ds with
      | none => rw [e] at h'; cases h'
      | some cs =>
        rw [e] at h'
        cases h'
        rw [strs_eq rs e]; rfl
    all_goals (cases h)
theorem strs_rp {K : PySem.W.Frag} {B : Hp} : ∀ ys : List Str, RpAll K B (ys.map V.str) (ys.map PyData.str)
  | [] => .nil
  | y :: ys => .cons (.str y) (strs_rp ys)
theorem pe_methD1 {o a : Expr} {m : Str} {ap cp : Pos} {mf : Mf} {fo fa : Env → R D} (hm : mfOf m 1 = some mf) (hl : (ap.endLine == cp.line) = true) (hb : isCall0 o = false) (hst : isStar a = false) (ho : PE X o (tP W X E fo)) (ha : PE X a (tP W X E fa)) :
    PE X (.Call (.Attribute o m ap) [a] [] cp) (tP W X E fun env => fo env >>= fun x => strR x >>= fun x => fa env >>= fun y => methD mf x [y]) := by
  have hs : starEach [a] X.env = [(false, eval a X.env)] := star_step hst X.env
  unfold mfOf at hm
  rw [if_neg (by decide), if_pos rfl] at hm
  split at hm
  · rename_i e
    subst e
    cases hm
    refine (L2.pe_join ho ha hs (base_ok hb) hl).imp fun σ H Q ⟨B, env, gd, r, o⟩ => ⟨B, env, gd, r, o.bind fun d B1 H1 e st o1 v rv => ?_⟩
    clear e
    cases rv
    case str z =>
      refine ⟨⟨z, rfl⟩, B1, env, st.gd, r.mono st.same, OutG.bind (r := fa env) (f := fun y => methD .join (.str z) [y]) o1 fun d2 B2 H2 e2 st2 o2 v2 rv2 => ?_⟩
      clear e2
      cases rv2
      case lst a xs ds hx hr =>
        have o3 : Out W X E B2 H2 (match strsOf ds with
          | some ys => if (ys.map (·.length)).sum + ys.length * z.length ≤ lim then .ok (PyData.str (Txt.join z ys)) else .bad
          | none => .bad) Q := o2
        cases q : strsOf ds with
        | none => rw [q] at o3; exact o3.elim
        | some ys =>
          rw [q] at o3
          obtain ⟨hz, o4⟩ := OutG.ite o3
          have hv := strs_eq hr q
          subst hv
          exact ⟨z, a, ys, rfl, rfl, .inl (SqL.lift st2.gd hx), hz, Out.now st2.gd (.str _) o4⟩
      all_goals exact False.elim o2
    all_goals exact False.elim o1
  split at hm
  · rename_i e
    subst e
    cases hm
    refine (L2.pe_split ho ha hs (base_ok hb) hl).imp fun σ H Q ⟨B, env, gd, r, o⟩ => ⟨B, env, gd, r, o.bind fun d B1 H1 e st o1 v rv => ?_⟩
    clear e
    cases rv
    case str z =>
      refine ⟨⟨z, rfl⟩, B1, env, st.gd, r.mono st.same, OutG.bind (r := fa env) (f := fun y => methD .split (.str z) [y]) o1 fun d2 B2 H2 e2 st2 o2 v2 rv2 => ?_⟩
      clear e2
      cases rv2
      case str b =>
        obtain ⟨hz, o4⟩ := OutG.ite o2
        rw [Bool.and_eq_true, Bool.not_eq_true', decide_eq_true_eq] at hz
        exact ⟨z, b, rfl, rfl, hz.1, by rw [lim_eq]; exact hz.2, Out.lst st2.gd (strs_rp _) o4⟩
      all_goals exact False.elim o2
    all_goals exact False.elim o1
  split at hm
  · rename_i e
    subst e
    cases hm
    refine (L2.pe_m1 F.slot_str_lstrip F.type_str_lstrip mt_lstripChars ho ha hs (base_ok hb) hl).imp fun σ H Q ⟨B, env, gd, r, o⟩ => ⟨B, env, gd, r, o.bind fun d B1 H1 e st o1 v rv => ?_⟩
    clear e
    cases rv
    case str z =>
      refine ⟨⟨z, rfl⟩, B1, env, st.gd, r.mono st.same, OutG.bind (r := fa env) (f := fun y => methD .lstrip (.str z) [y]) o1 fun d2 B2 H2 e2 st2 o2 v2 rv2 => ?_⟩
      clear e2
      cases rv2
      case str b =>
        obtain ⟨hz, o4⟩ := OutG.ite o2
        exact ⟨z, b, rfl, rfl, by rw [lim_eq]; exact hz, Out.now st2.gd (.str _) o4⟩
      all_goals exact False.elim o2
    all_goals exact False.elim o1
  · cases hm
/-! ### calls -/
theorem pe_callD (G : Good W g M k Z X E) {f : Str} {e : Expr} {es : List Expr} {fs : Env → R (List D)} {p pos : Pos} (hg : glB Z f = true) (hfk : M.fns.contains f = true) (hst : (e :: es).any isStar = false) (ha : PA X (e :: es) (tPA W X E fs)) :
    PE X (.Call (.Name f p) (e :: es) [] pos) (tP W X E fun env => fs env >>= fun ds => match g.fn f with
      | some ps => if ds.length = ps.length then g.run f ds else .bad
      | none => .bad) := by
  obtain ⟨h1, h2, _⟩ := G.gl_ hg
  rw [List.any_cons, Bool.or_eq_false_iff] at hst
  obtain ⟨ps, hf⟩ := G.fk f hfk
  obtain ⟨a, fd, F, hb, hk, hm⟩ := G.fns f ps hf
  rw [hf]
  refine L2.PE.imp (L2.pe_call F G.room h1 hm hk hb .nil G.passes ha h2 (star_step hst.1 X.env) (star_any hst.2 X.env pos)) fun σ H Q ⟨B, env, gd, r, o⟩ => ⟨B, env, gd, r, o.bind fun ds B1 H1 _ st o1 vs rvs => ?_⟩
  obtain ⟨hl, o2⟩ := OutG.ite o1
  rw [List.append_nil]
  exact ⟨by rw [rvs.length]; exact hl, B1, ds, st.gd, rvs, o2⟩

/-! ### built-ins -/
theorem Good.bl_ (G : Good W g M k Z X E) {x : Str} (h : blB M Z x = true) : Gl X x ∧ X.mg x = none ∧ (x == ("__debug__" : Str)) = false ∧ x ≠ "__name__" := by
  unfold blB at h
  rw [Bool.and_eq_true] at h
  obtain ⟨h1, h2, h3⟩ := G.gl_ h.1
  exact ⟨h1, G.bl x h.2, h2, h3⟩
theorem bools_eq {K : PySem.W.Frag} {B : Hp} : ∀ {vs : List V} {ds : List D} {bs : List Bool}, RpAll K B vs ds → boolsOf ds = some bs → vs = bs.map V.bl
  | _, _, _, .nil, h => by cases h; rfl
  | _, _, bs, .cons (d := d) (ds := ds) r rs, h => by
    cases r
    case bl b =>
      have h' : (boolsOf ds).map (b :: ·) = some bs := h
      cases e : boolsOf ds with
      | none => rw [e] at h'; cases h'
      | some cs =>
        rw [e] at h'
        cases h'
        rw [bools_eq rs e]; rfl
    all_goals (cases h)
theorem ints_eq {K : PySem.W.Frag} {B : Hp} : ∀ {vs : List V} {ds : List D} {bs : List Int}, RpAll K B vs ds → intsOf ds = some bs → vs = bs.map V.int
  | _, _, _, .nil, h => by cases h; rfl
  | _, _, bs, .cons (d := d) (ds := ds) r rs, h => by
    cases r
    case int b =>
      have h' : (intsOf ds).map (b :: ·) = some bs := h
      cases e : intsOf ds with
      | none => rw [e] at h'; cases h'
      | some cs =>
        rw [e] at h'
        cases h'
        rw [ints_eq rs e]; rfl
    all_goals (cases h)
theorem maxL_is : ∀ (m : Int) (ns : List Int), maxL m ns ∈ m :: ns ∧ ∀ y ∈ m :: ns, y ≤ maxL m ns
  | m, [] => ⟨by simp [maxL], by simp [maxL]⟩
  | m, x :: r => by
    unfold maxL
    obtain ⟨h1, h2⟩ := maxL_is (if x > m then x else m) r
    have h3 := h2 (if x > m then x else m) List.mem_cons_self
    refine ⟨?_, fun y hy => ?_⟩
    · rcases List.mem_cons.mp h1 with e | e
      · rw [e]
        split
        · exact List.mem_cons_of_mem _ List.mem_cons_self
        · exact List.mem_cons_self
      · exact List.mem_cons_of_mem _ (List.mem_cons_of_mem _ e)
    · rcases List.mem_cons.mp hy with e | e
      · subst e
        split at h3 <;> (rename_i q; split <;> omega)
      · rcases List.mem_cons.mp e with e | e
        · subst e
          split at h3 <;> (rename_i q; split <;> omega)
        · exact h2 y (List.mem_cons_of_mem _ e)
def rBlt (W : Wd) (X : Cx) (E : XK) (b : Bf) : List V → Hp → VK → Prop := fun vs H Q => ∃ B ds, Gd W B H ∧ RpAll X.K B vs ds ∧ Out W X E B H (bltD b ds) Q
theorem rp1 {K : PySem.W.Frag} {B : Hp} {vs : List V} {d : D} (h : RpAll K B vs [d]) : ∃ v, vs = [v] ∧ Rp K B v d := by
  cases h with
  | cons h1 h2 => cases h2; exact ⟨_, rfl, h1⟩
theorem rp2 {K : PySem.W.Frag} {B : Hp} {vs : List V} {d e : D} (h : RpAll K B vs [d, e]) : ∃ v w, vs = [v, w] ∧ Rp K B v d ∧ Rp K B w e := by
  cases h with
  | cons h1 h2 => cases h2 with
    | cons h2 h3 => cases h3; exact ⟨_, _, rfl, h1, h2⟩
theorem cb_len : CallR X (.builtin "len") (rBlt W X E .len) := by
  intro pins s σ H xs us Q I rv ⟨B, ds, gd, r, o⟩
  match ds, o with
  | [.str z], o =>
    obtain ⟨hz, o2⟩ := OutG.ite o
    obtain ⟨v, rfl, r1⟩ := rp1 r
    cases r1
    exact L2.call_len pins s σ H _ us Q I rv ⟨_, z.length, rfl, ⟨by rw [lim_eq]; exact hz, rfl⟩, Out.now gd (.int _) o2⟩
  | [.tuple xs], o =>
    obtain ⟨v, rfl, r1⟩ := rp1 r
    cases r1 with
    | @tup a ys _ ha hx =>
      refine L2.call_len pins s σ H _ us Q I rv ⟨_, ys.length, rfl, .inr ⟨ys, SqT.lift gd ha, rfl⟩, ?_⟩
      rw [hx.length]
      exact Out.now gd (.int _) o
  | [.list xs], o =>
    obtain ⟨v, rfl, r1⟩ := rp1 r
    cases r1 with
    | @lst a ys _ ha hx =>
      refine L2.call_len pins s σ H _ us Q I rv ⟨_, ys.length, rfl, .inl ⟨ys, SqL.lift gd ha, rfl⟩, ?_⟩
      rw [hx.length]
      exact Out.now gd (.int _) o
  | [], o => exact False.elim o
  | [.none], o => exact False.elim o
  | [.bool _], o => exact False.elim o
  | [.int _], o => exact False.elim o
  | [.dict _], o => exact False.elim o
  | d :: _ :: _, o => exact False.elim (by cases d <;> exact o)
theorem cb_int : CallR X (.type "int") (rBlt W X E .int) := by
  intro pins s σ H xs us Q I rv ⟨B, ds, gd, r, o⟩
  match ds, o with
  | [.bool b], o =>
    obtain ⟨v, rfl, r1⟩ := rp1 r
    cases r1
    exact L2.call_int1 pins s σ H _ us Q I rv (.inr ⟨b, rfl, Out.now gd (.int _) o⟩)
  | [.int i], o =>
    obtain ⟨v, rfl, r1⟩ := rp1 r
    cases r1
    exact L2.call_int1 pins s σ H _ us Q I rv (.inl ⟨i, rfl, Out.now gd (.int _) o⟩)
  | [], o => exact False.elim o
  | [.none], o => exact False.elim o
  | [.str _], o => exact False.elim o
  | [.tuple _], o => exact False.elim o
  | [.list _], o => exact False.elim o
  | [.dict _], o => exact False.elim o
  | d :: _ :: _, o => exact False.elim (by cases d <;> exact o)
theorem cb_tuple : CallR X (.type "tuple") (rBlt W X E .tuple) := by
  intro pins s σ H xs us Q I rv ⟨B, ds, gd, r, o⟩
  match ds, o with
  | [.list xs], o =>
    obtain ⟨v, rfl, r1⟩ := rp1 r
    cases r1 with
    | @lst a ys _ ha hx => exact L2.call_tuple_of pins s σ H _ us Q I rv ⟨a, ys, rfl, .inl ⟨SqL.lift gd ha, Out.tup gd hx o⟩⟩
  | [.tuple xs], o =>
    obtain ⟨v, rfl, r1⟩ := rp1 r
    cases r1 with
    | @tup a ys _ ha hx => exact L2.call_tuple_of pins s σ H _ us Q I rv ⟨a, ys, rfl, .inr ⟨SqT.lift gd ha, Out.now gd (.tup ha hx) o⟩⟩
  | [], o => exact False.elim o
  | [.none], o => exact False.elim o
  | [.bool _], o => exact False.elim o
  | [.int _], o => exact False.elim o
  | [.str _], o => exact False.elim o
  | [.dict _], o => exact False.elim o
  | d :: _ :: _, o => exact False.elim (by cases d <;> exact o)
theorem cb_all (hc : X.calm = true) : CallR X (.builtin "all") (rBlt W X E .all) := by
  intro pins s σ H xs us Q I rv ⟨B, ds, gd, r, o⟩
  match ds, o with
  | [.list xs], o =>
    obtain ⟨v, rfl, r1⟩ := rp1 r
    cases r1 with
    | @lst a ys _ ha hx =>
      have o' : Out W X E B H (match boolsOf xs with | some bs => .ok (.bool (bs.all id)) | none => .bad) Q := o
      cases e : boolsOf xs with
      | none => rw [e] at o'; exact o'.elim
      | some bs =>
        rw [e] at o'
        have h := bools_eq hx e
        subst h
        exact L2.cr_all hc pins s σ H _ us Q I rv ⟨a, bs, rfl, SqL.lift gd ha, Out.bl gd o'⟩
  | [], o => exact False.elim o
  | [.none], o => exact False.elim o
  | [.bool _], o => exact False.elim o
  | [.int _], o => exact False.elim o
  | [.str _], o => exact False.elim o
  | [.tuple _], o => exact False.elim o
  | [.dict _], o => exact False.elim o
  | d :: _ :: _, o => exact False.elim (by cases d <;> exact o)
theorem cb_max1 (hc : X.calm = true) : CallR X (.builtin "max") (rBlt W X E .max1) := by
  intro pins s σ H xs us Q I rv ⟨B, ds, gd, r, o⟩
  match ds, o with
  | [.list xs], o =>
    obtain ⟨v, rfl, r1⟩ := rp1 r
    cases r1 with
    | @lst a ys _ ha hx =>
      have o' : Out W X E B H (match intsOf xs with | some (m :: ns) => .ok (.int (maxL m ns)) | _ => .bad) Q := o
      cases e : intsOf xs with
      | none => rw [e] at o'; exact o'.elim
      | some bs =>
        rw [e] at o'
        cases bs with
        | nil => exact o'.elim
        | cons m ns =>
          have h := ints_eq hx e
          subst h
          refine L2.cr_max hc pins s σ H _ us Q I rv ⟨a, m :: ns, rfl, SqL.lift gd ha, Nat.succ_pos _, fun m' hm hy => ?_⟩
          obtain ⟨h1, h2⟩ := maxL_is m ns
          have e2 : m' = maxL m ns := Int.le_antisymm (h2 _ hm) (hy _ h1)
          rw [e2]
          exact Out.now gd (.int _) o'
  | [], o => exact False.elim o
  | [.none], o => exact False.elim o
  | [.bool _], o => exact False.elim o
  | [.int _], o => exact False.elim o
  | [.str _], o => exact False.elim o
  | [.tuple _], o => exact False.elim o
  | [.dict _], o => exact False.elim o
  | d :: _ :: _, o => exact False.elim (by cases d <;> exact o)
theorem cb_max2 (hc : X.calm = true) : CallR X (.builtin "max") (rBlt W X E .max2) := by
  intro pins s σ H xs us Q I rv ⟨B, ds, gd, r, o⟩
  match ds, o with
  | [.int i, .int j], o =>
    obtain ⟨v, w, rfl, r1, r2⟩ := rp2 r
    cases r1
    cases r2
    exact L2.call_max2 hc pins s σ H _ us Q I rv ⟨i, j, rfl, Out.now gd (.int _) o⟩
  | [], o => exact False.elim o
  | [d], o => exact False.elim (by cases d <;> exact o)
  | d :: e :: _ :: _, o => exact False.elim (by cases d <;> first | exact o | (cases e <;> exact o))
  | [.none, _], o => exact False.elim o
  | [.bool _, _], o => exact False.elim o
  | [.str _, _], o => exact False.elim o
  | [.list _, _], o => exact False.elim o
  | [.tuple _, _], o => exact False.elim o
  | [.dict _, _], o => exact False.elim o
  | [.int _, .none], o => exact False.elim o
  | [.int _, .bool _], o => exact False.elim o
  | [.int _, .str _], o => exact False.elim o
  | [.int _, .list _], o => exact False.elim o
  | [.int _, .tuple _], o => exact False.elim o
  | [.int _, .dict _], o => exact False.elim o
theorem cb_abs : CallR X (.builtin "abs") (rBlt W X E .abs) := by
  intro pins s σ H xs us Q I rv ⟨B, ds, gd, r, o⟩
  match ds, o with
  | [.int i], o =>
    obtain ⟨v, rfl, r1⟩ := rp1 r
    cases r1
    exact L2.call_abs pins s σ H _ us Q I rv ⟨i, rfl, Out.now gd (.int _) o⟩
  | [], o => exact False.elim o
  | [.none], o => exact False.elim o
  | [.bool _], o => exact False.elim o
  | [.list _], o => exact False.elim o
  | [.str _], o => exact False.elim o
  | [.tuple _], o => exact False.elim o
  | [.dict _], o => exact False.elim o
  | d :: _ :: _, o => exact False.elim (by cases d <;> exact o)

theorem cb_sum (hc : X.calm = true) : CallR X (.builtin "sum") (rBlt W X E .sum) := by
  intro pins s σ H xs us Q I rv ⟨B, ds, gd, r, o⟩
  match ds, o with
  | [.list xs], o =>
    obtain ⟨v, rfl, r1⟩ := rp1 r
    cases r1 with
    | @lst a ys _ ha hx =>
      have o' : Out W X E B H (match intsOf xs with | some ns => .ok (.int ns.sum) | none => .bad) Q := o
      cases e : intsOf xs with
      | none => rw [e] at o'; exact o'.elim
      | some bs =>
        rw [e] at o'
        have h := ints_eq hx e
        subst h
        exact L2.cr_sum hc pins s σ H _ us Q I rv ⟨a, bs, rfl, SqL.lift gd ha, Out.now gd (.int _) o'⟩
  | [], o => exact False.elim o
  | [.none], o => exact False.elim o
  | [.bool _], o => exact False.elim o
  | [.int _], o => exact False.elim o
  | [.str _], o => exact False.elim o
  | [.tuple _], o => exact False.elim o
  | [.dict _], o => exact False.elim o
  | d :: _ :: _, o => exact False.elim (by cases d <;> exact o)
theorem cb_str : CallR X (.type "str") (rBlt W X E .str) := by
  intro pins s σ H xs us Q I rv ⟨B, ds, gd, r, o⟩
  match ds, o with
  | [.int i], o =>
    obtain ⟨v, rfl, r1⟩ := rp1 r
    cases r1
    obtain ⟨hz, o2⟩ := OutG.ite o
    exact L2.call_str_int pins s σ H _ us Q I rv ⟨i, rfl, hz, Out.now gd (.str _) o2⟩
  | [], o => exact False.elim o
  | [.none], o => exact False.elim o
  | [.bool _], o => exact False.elim o
  | [.list _], o => exact False.elim o
  | [.str _], o => exact False.elim o
  | [.tuple _], o => exact False.elim o
  | [.dict _], o => exact False.elim o
  | d :: _ :: _, o => exact False.elim (by cases d <;> exact o)
theorem alikes_use {ds : List D} (h : alks ds = true) : PySem.W.AllAlike ds := fun d hd d' hd' => by
  unfold alks at h
  rw [List.all_eq_true] at h
  have h2 := h d hd
  rw [List.all_eq_true] at h2
  exact h2 d' hd'
theorem vals_at {xs : List V} {us : List Value} (r : Vals xs us) : ∀ (i : Nat) (u : Value), us[i]? = some u → ∃ x, xs[i]? = some x ∧ RelV x u := by
  induction r with
  | nil => intro i u h; simp at h
  | cons r1 rs ih =>
    intro i u h
    cases i with
    | zero => cases h; exact ⟨_, rfl, r1⟩
    | succ i => exact ih i u (by simpa using h)
theorem rpAll_at {K : PySem.W.Frag} {B : Hp} : ∀ {vs : List V} {ds : List D}, RpAll K B vs ds → ∀ (i : Nat) (v : V), vs[i]? = some v → ∃ d, ds[i]? = some d ∧ Rp K B v d
  | _, _, .nil, i, v, h => by simp at h
  | _, _, .cons r rs, 0, v, h => by cases h; exact ⟨_, rfl, r⟩
  | _, _, .cons r rs, i + 1, v, h => rpAll_at rs i v (by simpa using h)
theorem minD_mem (x : D) : ∀ (xs : List D), PySem.W.minD x xs ∈ x :: xs := by
  intro xs
  unfold PySem.W.minD
  induction xs generalizing x with
  | nil => exact List.mem_cons_self
  | cons y ys ih =>
    rw [List.foldl_cons]
    rcases List.mem_cons.mp (ih (if PySem.W.dataLt y x = true then y else x)) with e | e
    · rw [e]
      split
      · exact List.mem_cons_of_mem _ List.mem_cons_self
      · exact List.mem_cons_self
    · exact List.mem_cons_of_mem _ (List.mem_cons_of_mem _ e)
theorem cb_min1 (hc : X.calm = true) (hu : X.A.units + 65 < cLine) : CallR X (.builtin "min") (rBlt W X E .min1) := by
  intro pins s σ H xs us Q I rv ⟨B, ds, gd, r, o⟩
  match ds, o with
  | [.list (x :: xs)], o =>
    obtain ⟨v, rfl, r1⟩ := rp1 r
    cases r1 with
    | @lst a ys _ ha hx =>
      obtain ⟨hz, o2⟩ := OutG.ite o
      simp only [Bool.and_eq_true, decide_eq_true_eq] at hz
      obtain ⟨⟨h1, h2⟩, h3⟩ := hz
      have hal := alikes_use h1
      obtain ⟨its, rvs, hl, _⟩ := I.list (SqL.lift gd ha)
      obtain ⟨as, rd⟩ := Dp.readsAll I (x :: xs) ys its (RpAll.dp (RpAll.mono gd.same hx)) rvs
      rw [Vals.ref1 rv]
      refine PySem.W.min_list_data (x := x) (xs := xs) (I.ok.hd hc) hl.isList (by rw [List.toList_toArray]; exact rd) ⟨hal, fun y hy z => ?_⟩ (by omega) fun i u h' tk bs hi rm hk => ?_
      · have := List.all_eq_true.mp h2 y hy
        rw [z] at this
        cases this
      · obtain ⟨y, hy, ry⟩ := vals_at rvs i u (by simpa using hi)
        obtain ⟨d, hd, rp⟩ := rpAll_at hx i y hy
        have J := I.kept (h' := h') (t' := tk) hk
        obtain ⟨cs, r2⟩ := Dp.reads J d y u (Rp.up gd rp) ry
        have e : PySem.W.minD x xs = d := PySem.W.alike_unique _ _ _ _ _ (hal _ (minD_mem x xs) _ (List.mem_of_getElem? hd)) rm r2
        rw [e] at o2
        exact ⟨y, H, J, ry, Out.now gd rp o2⟩
  | [.list []], o => exact False.elim o
  | [], o => exact False.elim o
  | [.none], o => exact False.elim o
  | [.bool _], o => exact False.elim o
  | [.int _], o => exact False.elim o
  | [.str _], o => exact False.elim o
  | [.tuple _], o => exact False.elim o
  | [.dict _], o => exact False.elim o
  | d :: _ :: _, o => exact False.elim (by cases d <;> first | exact o | (rename_i l; cases l <;> exact o))

/-- the name of a built-in, and the rule -/
theorem bf_len {x : Str} {n : Nat} {b : Bf} (h : bfOf x n = some b) : (n = 1 ∧ ((x = "len" ∧ b = .len) ∨ (x = "int" ∧ b = .int) ∨ (x = "tuple" ∧ b = .tuple) ∨ (x = "list" ∧ b = .list) ∨ (x = "all" ∧ b = .all) ∨ (x = "max" ∧ b = .max1) ∨ (x = "abs" ∧ b = .abs) ∨ (x = "sum" ∧ b = .sum) ∨ (x = "sorted" ∧ b = .sorted) ∨ (x = "min" ∧ b = .min1) ∨ (x = "str" ∧ b = .str))) ∨
    (n = 2 ∧ x = "max" ∧ b = .max2) := by
  unfold bfOf at h
  split at h
  · rename_i hn
    refine .inl ⟨hn, ?_⟩
    split at h
    · rename_i e; cases h; exact .inl ⟨e, rfl⟩
    split at h
    · rename_i e; cases h; exact .inr (.inl ⟨e, rfl⟩)
    split at h
    · rename_i e; cases h; exact .inr (.inr (.inl ⟨e, rfl⟩))
    split at h
    · rename_i e; cases h; exact .inr (.inr (.inr (.inl ⟨e, rfl⟩)))
    split at h
    · rename_i e; cases h; exact .inr (.inr (.inr (.inr (.inl ⟨e, rfl⟩))))
    split at h
    · rename_i e; cases h; exact .inr (.inr (.inr (.inr (.inr (.inl ⟨e, rfl⟩)))))
    split at h
    · rename_i e; cases h; exact .inr (.inr (.inr (.inr (.inr (.inr (.inl ⟨e, rfl⟩))))))
    split at h
    · rename_i e; cases h; exact .inr (.inr (.inr (.inr (.inr (.inr (.inr (.inl ⟨e, rfl⟩)))))))
    split at h
    · rename_i e; cases h; exact .inr (.inr (.inr (.inr (.inr (.inr (.inr (.inr (.inl ⟨e, rfl⟩))))))))
    split at h
    · rename_i e; cases h; exact .inr (.inr (.inr (.inr (.inr (.inr (.inr (.inr (.inr (.inl ⟨e, rfl⟩)))))))))
    split at h
    · rename_i e; cases h; exact .inr (.inr (.inr (.inr (.inr (.inr (.inr (.inr (.inr (.inr ⟨e, rfl⟩)))))))))
    · cases h
  · split at h
    · rename_i hn
      split at h
      · rename_i e; cases h; exact .inr ⟨hn, e, rfl⟩
      · cases h
    · cases h
theorem pe_bltD {f : Str} {e : Expr} {es : List Expr} {fs : Env → R (List D)} {p pos : Pos} {b : Bf} {v : Value} (G : Good W g M k Z X E) (hg : blB M Z f = true) (hst : (e :: es).any isStar = false)
    (hc : (∃ id, v = .builtin id ∧ CallR X (.builtin id) (rBlt W X E b)) ∨ ∃ T, v = .type T ∧ CallR X (.type T) (rBlt W X E b)) (hv : bootBuiltins f = some v) (ha : PA X (e :: es) (tPA W X E fs)) :
    PE X (.Call (.Name f p) (e :: es) [] pos) (tP W X E fun env => fs env >>= bltD b) := by
  obtain ⟨h1, hm, h2, h3⟩ := G.bl_ hg
  rw [List.any_cons, Bool.or_eq_false_iff] at hst
  have fin : PE X (.Call (.Name f p) (e :: es) [] pos) (tCB (rBlt W X E b) (tPA W X E fs)) := by
    rcases hc with ⟨id, ev, hc⟩ | ⟨T, ev, hc⟩
    · subst ev
      exact L2.pe_callB hc h1 hm hv ha h3 h2 (star_step hst.1 X.env) (star_any hst.2 X.env pos)
    · subst ev
      exact L2.pe_callTy hc h1 hm hv ha h3 h2 (star_step hst.1 X.env) (star_any hst.2 X.env pos)
  exact fin.imp fun σ H Q ⟨B, env, gd, r, o⟩ => ⟨B, env, gd, r, o.bind fun ds B1 H1 _ st o1 vs rvs => ⟨B1, ds, st.gd, rvs, o1⟩⟩
/-- list(x): a new list -/
theorem pe_listF {e : Expr} {fs : Env → R (List D)} {p pos : Pos} (G : Good W g M k Z X E) (hg : blB M Z "list" = true) (hst : isStar e = false) (ha : PA X [e] (tPA W X E fs)) :
    PE X (.Call (.Name "list" p) [e] [] pos) (tF W X E fun env => fs env >>= bltD .list) := by
  obtain ⟨h1, hm, h2, h3⟩ := G.bl_ hg
  refine L2.PE.imp (L2.pe_callTy L2.call_list_of h1 hm (by decide +kernel) ha h3 h2 (star_step hst X.env) rfl) fun σ H Q ⟨B, env, gd, r, o⟩ => ⟨B, env, gd, r, o.bind fun ds B1 H1 e st o1 vs rvs => ?_⟩
  clear e
  match ds, o1, rvs with
  | [.list xs], o1, rvs =>
    obtain ⟨v, rfl, r1⟩ := rp1 rvs
    cases r1 with
    | @lst a ys _ ha hx => exact ⟨a, ys, rfl, .inl (SqL.lift st.gd ha), new_list st hx o1⟩
  | [.tuple xs], o1, rvs =>
    obtain ⟨v, rfl, r1⟩ := rp1 rvs
    cases r1 with
    | @tup a ys _ ha hx => exact ⟨a, ys, rfl, .inr (SqT.lift st.gd ha), new_list st hx o1⟩
  | [], o, _ => exact False.elim o
  | [.none], o, _ => exact False.elim o
  | [.bool _], o, _ => exact False.elim o
  | [.int _], o, _ => exact False.elim o
  | [.str _], o, _ => exact False.elim o
  | [.dict _], o, _ => exact False.elim o
  | d :: _ :: _, o, _ => exact False.elim (by cases d <;> exact o)

/-! ### isinstance -/
theorem ty_of {x : Str} {t : Ty} (h : tyOf x = some t) : bootBuiltins x = some (.type t.name) := by
  unfold tyOf at h
  split at h
  · rename_i e; cases h; subst e; decide +kernel
  split at h
  · rename_i e; cases h; subst e; decide +kernel
  split at h
  · rename_i e; cases h; subst e; decide +kernel
  split at h
  · rename_i e; cases h; subst e; decide +kernel
  split at h
  · rename_i e; cases h; subst e; decide +kernel
  · cases h
theorem pe_isiD {e : Expr} {t : Str} {ty : Ty} {f : Env → R D} {p pt pos : Pos} (G : Good W g M k Z X E) (hg : blB M Z "isinstance" = true) (hst : isStar e = false) (ht : blB M Z t = true) (hty : tyOf t = some ty) (ha : PE X e (tP W X E f)) :
    PE X (.Call (.Name "isinstance" p) [e, .Name t pt] [] pos) (tP W X E fun env => f env >>= fun x => isiD x ty) := by
  obtain ⟨h1, hm, h2, h3⟩ := G.bl_ hg
  obtain ⟨g1, gm, g2, g3⟩ := G.bl_ ht
  refine L2.PE.imp (L2.pe_callB L2.call_isi h1 hm (by decide +kernel) (L2.pa_cons ha (L2.pa_cons (L2.pe_bltn g1 gm (ty_of hty) (v := .ty ty.name) rfl g3 g2) L2.pa_nil) (star_step hst X.env)) h3 h2 (star_step hst X.env) rfl)
    fun σ H Q ⟨B, env, gd, r, o⟩ => ⟨B, env, gd, r, o.bind fun d B1 H1 _ st o1 v rv => ?_⟩
  obtain ⟨b, hk, hi⟩ := isi_data (H := H1) (t := ty) rv
  rw [hi] at o1
  exact ⟨v, .ty ty.name, .type (tyN d), .type ty.name, b, rfl, .ty _, ty_data st.gd rv, kit_ty hk, Out.bl st.gd o1⟩
end
end Ev
/-! EvE3: targets, what is walked, comprehensions. -/
namespace Ev
open PySem PySem.Spec PyProof.Rows L2
section
variable {W : Wd} {g : G} {M : Nm} {k : Nat} {Z : Sc} {X : Cx} {E : XK}
theorem RepE.set {K : PySem.W.Frag} {B : Hp} {σ : L2.St} {env : Env} {i : Nat} {d : D} {v : V} (r : RepE K B σ env) (rv : Rp K B v d) : RepE K B (σ.set i (some v)) (env.set i (some (.dat d))) := by
  refine ⟨by rw [List.length_set, List.length_set]; exact r.1, fun j d' e => ?_⟩
  by_cases hj : i = j
  · subst hj
    by_cases hl : i < env.length
    · rw [List.getElem?_set_self hl] at e
      cases e
      exact ⟨v, by rw [List.getElem?_set_self (by rw [r.1]; exact hl)], rv⟩
    · rw [List.getElem?_eq_none (by rw [List.length_set]; omega)] at e
      cases e
  · rw [List.getElem?_set_ne hj] at e ⊢
    exact r.2 j d' e
/-- the slots outside are as they were -/
def Keep (js : List Nat) (σ σ' : L2.St) : Prop := σ'.length = σ.length ∧ ∀ i, i ∉ js → σ'[i]? = σ[i]?
/-- a target's reading -/
def tgP (W : Wd) (X : Cx) (js : List Nat) (f : D → Env → R Env) : TG := fun v σ H Q => ∃ B env d, Gd W B H ∧ RepE X.K B σ env ∧ Rp X.K B v d ∧ match f d env with
  | .ok env' => ∀ σ' B' H', Stp W B H B' H' → RepE X.K B' σ' env' → Keep js σ σ' → Q σ' H'
  | _ => False
def tgPs (W : Wd) (X : Cx) (js : List Nat) (f : List D → Env → R Env) : TGs := fun vs σ H Q => ∃ B env ds, Gd W B H ∧ RepE X.K B σ env ∧ RpAll X.K B vs ds ∧ match f ds env with
  | .ok env' => ∀ σ' B' H', Stp W B H B' H' → RepE X.K B' σ' env' → Keep js σ σ' → Q σ' H'
  | _ => False
theorem Keep.refl (js : List Nat) (σ : L2.St) : Keep js σ σ := ⟨rfl, fun _ _ => rfl⟩
theorem Keep.trans {js ks : List Nat} {σ σ1 σ2 : L2.St} (a : Keep js σ σ1) (b : Keep ks σ1 σ2) : Keep (js ++ ks) σ σ2 :=
  ⟨b.1.trans a.1, fun i hi => (b.2 i fun z => hi (List.mem_append_right _ z)).trans (a.2 i fun z => hi (List.mem_append_left _ z))⟩
theorem Keep.set (i : Nat) (σ : L2.St) (v : Option V) : Keep [i] σ (σ.set i v) := ⟨List.length_set .., fun j hj => List.getElem?_set_ne (fun z => hj (by simp [z]))⟩
theorem loc_of (G : Good W g M k Z X E) {x : Str} (h : locB Z x = true) : Loc X.env.scope x ∧ (X.fn x = true ∨ X.env.scope.names.lookup x = some .local) := by
  unfold locB at h
  show (X.env.scope.names.lookup x = _ ∨ X.env.scope.names.lookup x = _) ∧ _
  have hfn : X.fn = Z.fn := G.toGood0.fn
  rw [G.toGood0.sc, hfn]
  split at h
  · rename_i e; exact ⟨.inl e, .inr e⟩
  · rename_i e; exact ⟨.inr e, .inl h⟩
  · cases h
mutual
theorem pg_tr (G : Good W g M k Z X E) : ∀ (e : Expr) (t : Tg), trT Z e = some t → PG X e (tgP W X (slotsT t) (bindT t))
  | .Name x p, t, h => by
    have h' : (if locB Z x then (idxN Z.N x).map .nm else none) = some t := h
    split at h'
    · rename_i hl
      cases hi : idxN Z.N x with
      | none => rw [hi] at h'; cases h'
      | some i =>
        rw [hi] at h'
        cases h'
        obtain ⟨l1, l2⟩ := loc_of G hl
        have hp := L2.pg_name (X := X) (pos := p) (i := i) (by rw [G.N]; exact G.nd) (by rw [G.N]; exact idxN_get hi) l1 l2
        refine ⟨fun pins s σ H v u Q I r ⟨B, env, d, gd, re, rv, o⟩ => hp.run pins s σ H v u Q I r ?_⟩
        exact o _ B H (Stp.refl gd) (re.set rv) (Keep.set i σ _)
    · cases h'
  | .Tuple es kk p, t, h => by
    have h' : (trTs Z es).map Tg.tp = some t := h
    cases ht : trTs Z es with
    | none => rw [ht] at h'; cases h'
    | some ts =>
      rw [ht] at h'
      cases h'
      obtain ⟨hp, h1, h2⟩ := pgs_tr G es ts ht
      refine ⟨fun pins s σ H v u Q I r ⟨B, env, d, gd, re, rv, o⟩ => (L2.pg_tup (pos := p) (k := kk) G.calm hp rfl h2).run pins s σ H v u Q I r ?_⟩
      cases rv with
      | @tup a xs ds ha hx =>
        have o' : (match bindTs ts ds env with | .ok env' => ∀ σ' B' H', Stp W B H B' H' → RepE X.K B' σ' env' → Keep (slotsTs ts) σ σ' → Q σ' H' | _ => False) := o
        refine ⟨a, xs, rfl, SqT.lift gd ha, ?_, B, env, ds, gd, re, hx, o'⟩
        rw [h1, hx.length]
        cases e : bindTs ts ds env with
        | ok env' => exact (bindTs_len ts ds env env' e).symm
        | exc c => rw [e] at o'; exact o'.elim
        | bad => rw [e] at o'; exact o'.elim
      | _ => exact False.elim o
  | .BoolOp _ _ _, _, h => by cases h
  | .NamedExpr _ _ _, _, h => by cases h
  | .BinOp _ _ _ _, _, h => by cases h
  | .UnaryOp _ _ _, _, h => by cases h
  | .Lambda _ _ _ _, _, h => by cases h
  | .IfExp _ _ _ _, _, h => by cases h
  | .Dict _ _ _, _, h => by cases h
  | .Set _ _ _, _, h => by cases h
  | .ListComp _ _ _ _, _, h => by cases h
  | .SetComp _ _ _ _, _, h => by cases h
  | .DictComp _ _ _ _ _, _, h => by cases h
  | .GeneratorExp _ _ _ _, _, h => by cases h
  | .Await _ _, _, h => by cases h
  | .Yield _ _, _, h => by cases h
  | .YieldFrom _ _, _, h => by cases h
  | .Compare _ _ _ _, _, h => by cases h
  | .Call _ _ _ _, _, h => by cases h
  | .FormattedValue _ _ _ _, _, h => by cases h
  | .JoinedStr _ _, _, h => by cases h
  | .Constant _ _ _, _, h => by cases h
  | .Attribute _ _ _, _, h => by cases h
  | .Subscript _ _ _, _, h => by cases h
  | .Starred _ _, _, h => by cases h
  | .List _ _, _, h => by cases h
  | .Slice _ _ _ _, _, h => by cases h
theorem pgs_tr (G : Good W g M k Z X E) : ∀ (es : List Expr) (ts : List Tg), trTs Z es = some ts → PGs X es (tgPs W X (slotsTs ts) (bindTs ts)) ∧ (assignEach es X.env).length = ts.length ∧ (assignEach es X.env).findIdx? (·.1) = none
  | [], ts, h => by
    have h' : some [] = some ts := h
    cases h'
    refine ⟨⟨fun pins s σ H vs us Q I r ⟨B, env, ds, gd, re, rv, o⟩ => (L2.pgs_nil (X := X)).run pins s σ H vs us Q I r ?_⟩, rfl, rfl⟩
    cases rv with
    | nil => exact ⟨rfl, o σ B H (Stp.refl gd) re (Keep.refl _ _)⟩
    | cons _ _ => exact False.elim o
  | e :: es, ts, h => by
    have h' : (match trT Z e, trTs Z es with | some t, some ts => some (t :: ts) | _, _ => none) = some ts := h
    cases h1 : trT Z e with
    | none => rw [h1] at h'; cases h'
    | some t =>
      cases h2 : trTs Z es with
      | none => rw [h1, h2] at h'; cases h'
      | some ts' =>
        rw [h1, h2] at h'
        cases h'
        have p1 := pg_tr G e t h1
        obtain ⟨p2, l2, f2⟩ := pgs_tr G es ts' h2
        have hst : assignEach (e :: es) X.env = (false, assign e X.env) :: assignEach es X.env := by
          cases e <;> first | rfl | (cases h1; done)
        refine ⟨⟨fun pins s σ H vs us Q I r ⟨B, env, ds, gd, re, rv, o⟩ => (L2.pgs_cons p1 p2 (by rw [hst]; rfl)).run pins s σ H vs us Q I r ?_⟩, by rw [hst]; simp [l2], by rw [hst]; simp [List.findIdx?_cons, f2]⟩
        cases rv with
        | nil => exact False.elim o
        | @cons v vs d ds h3 h4 =>
          refine ⟨v, vs, rfl, B, env, d, gd, re, h3, ?_⟩
          have o' : (match bindT t d env >>= bindTs ts' ds with | .ok env' => ∀ σ' B' H', Stp W B H B' H' → RepE X.K B' σ' env' → Keep (slotsT t ++ slotsTs ts') σ σ' → Q σ' H' | _ => False) := o
          cases e1 : bindT t d env with
          | exc c => rw [e1] at o'; exact o'.elim
          | bad => rw [e1] at o'; exact o'.elim
          | ok env1 =>
            rw [e1] at o'
            intro σ1 B1 H1 st1 re1 k1
            refine ⟨B1, env1, ds, st1.gd, re1, h4.mono st1.same, ?_⟩
            have o2 : (match bindTs ts' ds env1 with | .ok env' => ∀ σ' B' H', Stp W B H B' H' → RepE X.K B' σ' env' → Keep (slotsT t ++ slotsTs ts') σ σ' → Q σ' H' | _ => False) := o'
            cases e2 : bindTs ts' ds env1 with
            | exc c => rw [e2] at o2; exact o2.elim
            | bad => rw [e2] at o2; exact o2.elim
            | ok env2 =>
              rw [e2] at o2
              exact fun σ2 B2 H2 st2 re2 k2 => o2 σ2 B2 H2 (st1.trans st2) re2 (k1.trans k2)
theorem bindTs_len : ∀ (ts : List Tg) (ds : List D) (env env' : Env), bindTs ts ds env = .ok env' → ts.length = ds.length
  | [], [], _, _, _ => rfl
  | [], _ :: _, _, _, h => by cases h
  | _ :: _, [], _, _, h => by cases h
  | t :: ts, d :: ds, env, env', h => by
    have h' : (bindT t d env >>= bindTs ts ds) = .ok env' := h
    cases e1 : bindT t d env with
    | exc c => rw [e1] at h'; cases h'
    | bad => rw [e1] at h'; cases h'
    | ok env1 =>
      rw [e1] at h'
      show ts.length + 1 = ds.length + 1
      rw [bindTs_len ts ds env1 env' h']
end
end
end Ev
/-! EvE4: what is walked, comprehensions. -/
namespace Ev
open PySem PySem.Spec PyProof.Rows L2
/-- the items ds are walked, whatever is done between -/
def WalkD (W : Wd) (K : PySem.W.Frag) (ds : List D) (B1 : Hp) (J : L2.It) : Prop := ∃ (n : Nat) (G : Hp → Prop) (Y : Nat → Hp → V → Hp → Prop), n = ds.length ∧ L2.Walk J n G Y ∧ (∀ B H, Same B1 B → Gd W B H → G H) ∧
  ∀ i B H x H', Same B1 B → Gd W B H → i < n → Y i H x H' → ∃ B' d, ds[i]? = some d ∧ Stp W B H B' H' ∧ Rp K B' x d
def tPI (W : Wd) (X : Cx) (E : XK) (f : Env → R (List D)) : TI := fun σ H Rr => ∃ B env, Gd W B H ∧ RepE X.K B σ env ∧ OutG W X.mg E B H (f env) fun ds B1 H1 => ∀ J, WalkD W X.K ds B1 J → Rr J H1
section
variable {W : Wd} {K : PySem.W.Frag} {B1 : Hp} {a : Addr} {xs ys : List V} {ds es : List D}
theorem walkD_list (ha : SqL K B1 a xs) (hx : RpAll K B1 xs ds) : WalkD W K ds B1 (Itl K a) :=
  ⟨_, _, _, hx.length, L2.walk_list (xs := xs), fun B H s g => SqL.lift g (SqL.mono s ha), fun i B H x H' s g hi ⟨e, hy⟩ => by
    subst e
    obtain ⟨d, hd, r⟩ := hx.getV hy
    exact ⟨B, d, hd, Stp.refl g, r.mono s⟩⟩
theorem walkD_tup (ha : SqT K B1 a xs) (hx : RpAll K B1 xs ds) : WalkD W K ds B1 (Itt K a) :=
  ⟨_, _, _, hx.length, L2.walk_tup (xs := xs), fun B H s g => SqT.lift g (SqT.mono s ha), fun i B H x H' s g hi ⟨e, hy⟩ => by
    subst e
    obtain ⟨d, hd, r⟩ := hx.getV hy
    exact ⟨B, d, hd, Stp.refl g, r.mono s⟩⟩
theorem walkD_str {z : Str} : WalkD W K (strL z) B1 (Its z) :=
  ⟨_, _, _, by unfold strL; rw [List.length_map, Array.length_toList], L2.walk_str (z := z), fun B H s g => trivial, fun i B H x H' s g hi ⟨e, c, hc, ex⟩ => by
    subst e ex
    refine ⟨B, _, ?_, Stp.refl g, .str _⟩
    unfold strL
    rw [List.getElem?_map, Array.getElem?_toList, hc]
    rfl⟩
theorem walkD_range {i j : Int} : WalkD W K (rngL i j) B1 (Itr i (j - i).toNat) :=
  ⟨_, _, _, by unfold rngL; rw [List.length_map, List.length_range], L2.walk_range, fun B H s g => trivial, fun q B H x H' s g hi ⟨e, ex⟩ => by
    subst e ex
    refine ⟨B, _, ?_, Stp.refl g, .int _⟩
    unfold rngL
    rw [List.getElem?_map, List.getElem?_range hi]
    rfl⟩
theorem enumFrom_len : ∀ (k : Int) (ds : List D), (enumFrom k ds).length = ds.length
  | _, [] => rfl
  | k, _ :: ds => congrArg (· + 1) (enumFrom_len (k + 1) ds)
theorem enumFrom_get : ∀ (k : Int) (ds : List D) (i : Nat) (d : D), ds[i]? = some d → (enumFrom k ds)[i]? = some (.tuple [.int (k + i), d])
  | _, [], _, _, h => by cases h
  | k, d :: ds, 0, _, h => by
    cases h
    show some _ = some _
    simp
  | k, _ :: ds, i + 1, d, h => by
    have q := enumFrom_get (k + 1) ds i d h
    show (enumFrom (k + 1) ds)[i]? = _
    rw [q, show (k + 1 + (i : Int)) = k + ((i + 1 : Nat) : Int) by omega]
theorem pair_new {B H : Hp} {T : Addr} {x y : V} {d e : D} (g : Gd W B H) (hT : H T = none) (r1 : Rp K B x d) (r2 : Rp K B y e) : Stp W B H (upd B T (.tup [x, y])) (upd H T (.tup [x, y])) ∧ Rp K (upd B T (.tup [x, y])) (.ref T) (.tuple [d, e]) := by
  have st := Stp.new g (.tup [x, y]) hT
  exact ⟨st, .tup (.inl (.inl upd_same)) (.cons (r1.mono st.same) (.cons (r2.mono st.same) .nil))⟩
theorem walkD_enumL (ha : SqL K B1 a xs) (hx : RpAll K B1 xs ds) : WalkD W K (enumFrom 0 ds) B1 (Ite K a) :=
  ⟨_, _, _, by rw [enumFrom_len]; exact hx.length, L2.walk_enum (xs := xs), fun B H s g => SqL.lift g (SqL.mono s ha), fun i B H x H' s g hi ⟨T, x1, x2, ex, hT, eH, e1, e2⟩ => by
    cases e1
    subst ex eH
    obtain ⟨d, hd, r⟩ := hx.getV e2
    obtain ⟨st, rp⟩ := pair_new g hT (.int (i : Nat)) (r.mono s)
    refine ⟨_, _, enumFrom_get 0 ds i d hd, st, ?_⟩
    rw [show ((0 : Int) + i) = i by omega]
    exact rp⟩
theorem walkD_enumT (ha : SqT K B1 a xs) (hx : RpAll K B1 xs ds) : WalkD W K (enumFrom 0 ds) B1 (IteT K a) :=
  ⟨_, _, _, by rw [enumFrom_len]; exact hx.length, walk_enumT (xs := xs), fun B H s g => SqT.lift g (SqT.mono s ha), fun i B H x H' s g hi ⟨T, x1, x2, ex, hT, eH, e1, e2⟩ => by
    cases e1
    subst ex eH
    obtain ⟨d, hd, r⟩ := hx.getV e2
    obtain ⟨st, rp⟩ := pair_new g hT (.int (i : Nat)) (r.mono s)
    refine ⟨_, _, enumFrom_get 0 ds i d hd, st, ?_⟩
    rw [show ((0 : Int) + i) = i by omega]
    exact rp⟩
theorem zip_get {α β γ : Type} {f : α → β → γ} {xs : List α} {ys : List β} {i : Nat} {x : α} {y : β} (h1 : xs[i]? = some x) (h2 : ys[i]? = some y) : (List.zipWith f xs ys)[i]? = some (f x y) := by
  rw [List.getElem?_zipWith, h1, h2]
theorem walkD_zipL {b : Addr} (ha : SqL K B1 a xs) (hx : RpAll K B1 xs ds) (hb : SqL K B1 b ys) (hy : RpAll K B1 ys es) : WalkD W K (List.zipWith (fun d e => PyData.tuple [d, e]) ds es) B1 (Itz K a b) :=
  ⟨_, _, _, by rw [List.length_zipWith, ← hx.length, ← hy.length], L2.walk_zip (xs := xs) (ys := ys) rfl, fun B H s g => ⟨SqL.lift g (SqL.mono s ha), SqL.lift g (SqL.mono s hb)⟩, fun i B H x H' s g hi ⟨T, x1, x2, ex, hT, eH, e1, e2⟩ => by
    subst ex eH
    obtain ⟨d, hd, r⟩ := hx.getV e1
    obtain ⟨d', hd', r'⟩ := hy.getV e2
    obtain ⟨st, rp⟩ := pair_new g hT (r.mono s) (r'.mono s)
    exact ⟨_, _, zip_get hd hd', st, rp⟩⟩
theorem walk_zipT {b : Addr} {n : Nat} (hn : n = min xs.length ys.length) : L2.Walk (RZ.ItzT K a b) n (fun H => SqT K H a xs ∧ SqT K H b ys) (YPair (fun i => xs[i]?) (fun i => ys[i]?)) := by
  subst hn
  refine ⟨fun i _ hi q => ?_, fun _ q => ⟨xs, ys, q.1, q.2, by omega⟩, fun i H v H' _ q y => ?_⟩
  · have h1 : i < xs.length := by omega
    have h2 : i < ys.length := by omega
    exact ⟨xs, ys, xs[i], ys[i], q.1, q.2, by simp [h1], by simp [h2]⟩
  · obtain ⟨T, x, z, h1, h2, h3, h4, h5⟩ := y
    exact ⟨T, x, z, h1, h2, h3, h4 xs q.1, h5 ys q.2⟩
theorem walkD_zipT {b : Addr} (ha : SqT K B1 a xs) (hx : RpAll K B1 xs ds) (hb : SqT K B1 b ys) (hy : RpAll K B1 ys es) : WalkD W K (List.zipWith (fun d e => PyData.tuple [d, e]) ds es) B1 (RZ.ItzT K a b) :=
  ⟨_, _, _, by rw [List.length_zipWith, ← hx.length, ← hy.length], walk_zipT (xs := xs) (ys := ys) rfl, fun B H s g => ⟨SqT.lift g (SqT.mono s ha), SqT.lift g (SqT.mono s hb)⟩, fun i B H x H' s g hi ⟨T, x1, x2, ex, hT, eH, e1, e2⟩ => by
    subst ex eH
    obtain ⟨d, hd, r⟩ := hx.getV e1
    obtain ⟨d', hd', r'⟩ := hy.getV e2
    obtain ⟨st, rp⟩ := pair_new g hT (r.mono s) (r'.mono s)
    exact ⟨_, _, zip_get hd hd', st, rp⟩⟩
end
section
variable {W : Wd} {g : G} {M : Nm} {k : Nat} {Z : Sc} {X : Cx} {E : XK} {tg : Expr}
theorem pi_sqD {e : Expr} {f : Env → R D} (he : PE X e (tP W X E f)) : PI X tg e (tPI W X E fun env => f env >>= fun x => match x with
      | .tuple ds => .ok ds
      | .list ds => .ok ds
      | .str z => .ok (strL z)
      | _ => .bad) :=
  L2.PI.imp (L2.PI.or (L2.pi_list he) (L2.PI.or (L2.pi_tup he) (L2.pi_str he))) fun σ H Rr ⟨B, env, gd, r, o⟩ => by
    dsimp only at o
    cases e : f env with
    | exc c =>
      rw [e] at o
      exact .inl ⟨B, env, gd, r, by rw [e]; exact o⟩
    | bad => rw [e] at o; exact False.elim o
    | ok d =>
      rw [e] at o
      cases d with
      | list ds =>
        refine .inl ⟨B, env, gd, r, ?_⟩
        rw [e]
        intro B1 H1 st v rv
        cases rv with
        | @lst a xs _ ha hx => exact ⟨a, rfl, ⟨xs, SqL.lift st.gd ha⟩, o B1 H1 st _ (walkD_list ha hx)⟩
      | tuple ds =>
        refine .inr (.inl ⟨B, env, gd, r, ?_⟩)
        rw [e]
        intro B1 H1 st v rv
        cases rv with
        | @tup a xs _ ha hx => exact ⟨a, rfl, ⟨xs, SqT.lift st.gd ha⟩, o B1 H1 st _ (walkD_tup ha hx)⟩
      | str z =>
        refine .inr (.inr ⟨B, env, gd, r, ?_⟩)
        rw [e]
        intro B1 H1 st v rv
        cases rv
        exact ⟨z, rfl, o B1 H1 st _ walkD_str⟩
      | none => exact False.elim o
      | bool _ => exact False.elim o
      | int _ => exact False.elim o
      | dict _ => exact False.elim o
theorem ord_of {i : Int} (h : ord62 i = true) : -(2 ^ 62) ≤ i ∧ i < 2 ^ 62 := by
  unfold ord62 at h
  simp only [Bool.and_eq_true, decide_eq_true_eq] at h
  exact h
theorem pa_one {e : Expr} {f : Env → R D} (h : isStar e = false) (he : PE X e (tP W X E f)) : PA X [e] (tPA W X E fun env => f env >>= fun d => .ok [d]) :=
  L2.PA.imp (pa_consD h he pa_nilD) fun σ H Q q => q
theorem _root_.Ev.OutG.seq2 {α β γ δ : Type} {mg : Str → Option Value} {B H : Hp} {ra : R α} {rb : R β} {f : α → β → R γ} {h : α → β → δ} {P : γ → Hp → Hp → Prop} {P' : δ → Hp → Hp → Prop} (o : OutG W mg E B H (ra >>= fun x => rb >>= fun y => f x y) P)
    (hc : ∀ x y B1 H1, Stp W B H B1 H1 → OutG W mg E B1 H1 (f x y) P → P' (h x y) B1 H1) : OutG W mg E B H (ra >>= fun x => rb >>= fun y => .ok (h x y)) P' := by
  cases ra with
  | bad => exact False.elim o
  | exc c => exact o
  | ok x =>
    cases rb with
    | bad => exact False.elim o
    | exc c => exact o
    | ok y => exact fun B1 H1 st => hc x y B1 H1 st (OutG.step st o)
theorem _root_.Ev.OutG.seq1 {β γ δ : Type} {mg : Str → Option Value} {B H : Hp} {rb : R β} {f : β → R γ} {h : β → δ} {P : γ → Hp → Hp → Prop} {P' : δ → Hp → Hp → Prop} (o : OutG W mg E B H (rb >>= f) P)
    (hc : ∀ y B1 H1, Stp W B H B1 H1 → OutG W mg E B1 H1 (f y) P → P' (h y) B1 H1) : OutG W mg E B H (rb >>= fun y => .ok (h y)) P' := by
  cases rb with
  | bad => exact False.elim o
  | exc c => exact o
  | ok y => exact fun B1 H1 st => hc y B1 H1 st (OutG.step st o)
theorem pa_two {a b : Expr} {fa fb : Env → R D} (sa : isStar a = false) (sb : isStar b = false) (ha : PE X a (tP W X E fa)) (hb : PE X b (tP W X E fb)) : PA X [a, b] (tPA W X E fun env => fa env >>= fun d => fb env >>= fun e => .ok [d, e]) :=
  L2.PA.imp (pa_consD sa ha (pa_consD sb hb pa_nilD)) fun σ H Q ⟨B, env, gd, r, o⟩ => ⟨B, env, gd, r, by
    dsimp only at o ⊢
    cases e1 : fa env with
    | bad => rw [e1] at o; exact False.elim o
    | exc c => rw [e1] at o; exact o
    | ok d =>
      rw [e1] at o
      cases e2 : fb env with
      | bad => rw [bind_ok, e2] at o; exact False.elim o
      | exc c => rw [bind_ok, e2] at o; exact o
      | ok d2 => rw [bind_ok, e2] at o; exact o⟩
theorem pi_rng2D {a b : Expr} {fa fb : Env → R D} {p pos : Pos} (G : Good W g M k Z X E) (hg : blB M Z "range" = true) (sa : isStar a = false) (sb : isStar b = false) (ha : PE X a (tP W X E fa)) (hb : PE X b (tP W X E fb)) :
    PI X tg (.Call (.Name "range" p) [a, b] [] pos) (tPI W X E fun env => fa env >>= fun x => fb env >>= fun y => match x, y with
      | .int i, .int j => if ord62 i && ord62 j then .ok (rngL i j) else .bad
      | _, _ => .bad) := by
  obtain ⟨h1, hm, h2, h3⟩ := G.bl_ hg
  have e2 : starEach [b] X.env = [(false, eval b X.env)] := star_step sb X.env
  have e1 : starEach [a, b] X.env = [(false, eval a X.env), (false, eval b X.env)] := by rw [star_step sa, e2]
  refine L2.PI.imp (L2.pi_range2 h1 hm (pa_two sa sb ha hb) e1 e2) fun σ H Rr ⟨B, env, gd, r, o⟩ => ⟨B, env, gd, r, ?_⟩
  refine OutG.seq2 o fun d d2 B1 H1 st o2 vs rv => ?_
  obtain ⟨v, w, rfl, r1, r2⟩ := rp2 rv
  cases r1
  case int i =>
    cases r2
    case int j =>
      obtain ⟨hz, o3⟩ := OutG.ite o2
      rw [Bool.and_eq_true] at hz
      exact ⟨i, j, rfl, ⟨(ord_of hz.1).1, (ord_of hz.1).2, (ord_of hz.2).1, (ord_of hz.2).2⟩, OutG.now st.gd o3 _ walkD_range⟩
    all_goals exact False.elim o2
  all_goals exact False.elim (by cases d2 <;> exact o2)
theorem pi_rng1D {a : Expr} {fa : Env → R D} {p pos : Pos} (G : Good W g M k Z X E) (hg : blB M Z "range" = true) (sa : isStar a = false) (ha : PE X a (tP W X E fa)) :
    PI X tg (.Call (.Name "range" p) [a] [] pos) (tPI W X E fun env => R.ok (PyData.int 0) >>= fun x => fa env >>= fun y => match x, y with
      | .int i, .int j => if ord62 i && ord62 j then .ok (rngL i j) else .bad
      | _, _ => .bad) := by
  obtain ⟨h1, hm, h2, h3⟩ := G.bl_ hg
  have e2 : starEach [a] X.env = [(false, eval a X.env)] := star_step sa X.env
  refine L2.PI.imp (L2.pi_range1 h1 hm (pa_one sa ha) e2) fun σ H Rr ⟨B, env, gd, r, o⟩ => ⟨B, env, gd, r, ?_⟩
  refine OutG.seq1 o fun d2 B1 H1 st o2 vs rv => ?_
  obtain ⟨v, rfl, r2⟩ := rp1 rv
  cases r2
  case int j =>
    obtain ⟨hz, o3⟩ := OutG.ite o2
    rw [Bool.and_eq_true] at hz
    have q := OutG.now st.gd o3 _ walkD_range
    rw [Int.sub_zero] at q
    exact ⟨j, rfl, (ord_of hz.2).1, (ord_of hz.2).2, q⟩
  all_goals exact False.elim o2
theorem pi_enmD {a : Expr} {es : List Expr} {kk : Nat} {tp : Pos} {fa : Env → R D} {p pos : Pos} (G : Good W g M k Z X E) (hg : blB M Z "enumerate" = true) (sa : isStar a = false) (ha : PE X a (tP W X E fa)) :
    PI X (.Tuple es kk tp) (.Call (.Name "enumerate" p) [a] [] pos) (tPI W X E fun env => fa env >>= fun x => match x with
      | .tuple ds => .ok (enumFrom 0 ds)
      | .list ds => .ok (enumFrom 0 ds)
      | _ => .bad) := by
  obtain ⟨h1, hm, h2, h3⟩ := G.bl_ hg
  have e2 : starEach [a] X.env = [(false, eval a X.env)] := star_step sa X.env
  refine L2.PI.imp (L2.PI.or (L2.pi_enum h1 hm (pa_one sa ha) e2) (pi_enumT h1 hm (pa_one sa ha) e2)) fun σ H Rr ⟨B, env, gd, r, o⟩ => ?_
  dsimp only at o
  cases e : fa env with
  | bad => rw [e] at o; exact False.elim o
  | exc c =>
    rw [e] at o
    exact .inl ⟨B, env, gd, r, by dsimp only; rw [e]; exact o⟩
  | ok d =>
    rw [e] at o
    cases d with
    | list ds =>
      refine .inl ⟨B, env, gd, r, ?_⟩
      dsimp only
      rw [e]
      intro B1 H1 st vs rv
      obtain ⟨v, rfl, r1⟩ := rp1 rv
      cases r1 with
      | @lst b xs _ hb hx => exact ⟨b, xs, rfl, SqL.lift st.gd hb, o B1 H1 st _ (walkD_enumL hb hx)⟩
    | tuple ds =>
      refine .inr ⟨B, env, gd, r, ?_⟩
      dsimp only
      rw [e]
      intro B1 H1 st vs rv
      obtain ⟨v, rfl, r1⟩ := rp1 rv
      cases r1 with
      | @tup b xs _ hb hx => exact ⟨b, xs, rfl, SqT.lift st.gd hb, o B1 H1 st _ (walkD_enumT hb hx)⟩
    | none => exact False.elim o
    | bool _ => exact False.elim o
    | int _ => exact False.elim o
    | str _ => exact False.elim o
    | dict _ => exact False.elim o
theorem pi_zipD {a b : Expr} {es : List Expr} {kk : Nat} {tp : Pos} {fa fb : Env → R D} {p pos : Pos} (G : Good W g M k Z X E) (hg : blB M Z "zip" = true) (sa : isStar a = false) (sb : isStar b = false) (ha : PE X a (tP W X E fa)) (hb : PE X b (tP W X E fb)) :
    PI X (.Tuple es kk tp) (.Call (.Name "zip" p) [a, b] [] pos) (tPI W X E fun env => fa env >>= fun x => fb env >>= fun y => match x, y with
      | .tuple ds, .tuple es => .ok (List.zipWith (fun d e => PyData.tuple [d, e]) ds es)
      | .list ds, .list es => .ok (List.zipWith (fun d e => PyData.tuple [d, e]) ds es)
      | _, _ => .bad) := by
  obtain ⟨h1, hm, h2, h3⟩ := G.bl_ hg
  have e2 : starEach [b] X.env = [(false, eval b X.env)] := star_step sb X.env
  have e1 : starEach [a, b] X.env = [(false, eval a X.env), (false, eval b X.env)] := by rw [star_step sa, e2]
  refine L2.PI.imp (RZ.pi_zipA h1 hm (pa_two sa sb ha hb) (star_step sa X.env) (by rw [e2]; rfl)) fun σ H Rr ⟨B, env, gd, r, o⟩ => ⟨B, env, gd, r, ?_⟩
  refine OutG.seq2 o fun d d2 B1 H1 st o2 vs rv => ?_
  obtain ⟨v, w, rfl, r1, r2⟩ := rp2 rv
  cases r1 with
  | @tup a1 xs _ ha1 hx =>
    cases r2 with
    | @tup b1 ys _ hb1 hy => exact ⟨a1, b1, xs, ys, rfl, .inr ⟨SqT.lift st.gd ha1, SqT.lift st.gd hb1, OutG.now st.gd o2 _ (walkD_zipT ha1 hx hb1 hy)⟩⟩
    | _ => exact False.elim o2
  | @lst a1 xs _ ha1 hx =>
    cases r2 with
    | @lst b1 ys _ hb1 hy => exact ⟨a1, b1, xs, ys, rfl, .inl ⟨SqL.lift st.gd ha1, SqL.lift st.gd hb1, OutG.now st.gd o2 _ (walkD_zipL ha1 hx hb1 hy)⟩⟩
    | _ => exact False.elim o2
  | _ => exact False.elim (by cases d2 <;> exact o2)
end
end Ev
/-! EvE5: comprehensions. -/
namespace Ev
open PySem PySem.Spec PyProof.Rows L2
mutual
theorem bindT_noexc : ∀ (t : Tg) (d : D) (env : Env) (c : Str), bindT t d env ≠ .exc c
  | .nm i, d, env, c => fun h => nomatch (show R.ok (env.set i (some (.dat d))) = .exc c from h)
  | .tp ts, .tuple ds, env, c => fun h => bindTs_noexc ts ds env c h
  | .tp _, .none, _, _ => fun h => nomatch h
  | .tp _, .bool _, _, _ => fun h => nomatch h
  | .tp _, .int _, _, _ => fun h => nomatch h
  | .tp _, .str _, _, _ => fun h => nomatch h
  | .tp _, .list _, _, _ => fun h => nomatch h
  | .tp _, .dict _, _, _ => fun h => nomatch h
theorem bindTs_noexc : ∀ (t : List Tg) (d : List D) (env : Env) (c : Str), bindTs t d env ≠ .exc c
  | [], [], env, c => fun h => nomatch (show R.ok env = .exc c from h)
  | [], _ :: _, _, _ => fun h => nomatch h
  | _ :: _, [], _, _ => fun h => nomatch h
  | t :: ts, d :: ds, env, c => fun h => by
    have h' : (bindT t d env >>= bindTs ts ds) = .exc c := h
    cases e : bindT t d env with
    | ok env1 => rw [e] at h'; exact bindTs_noexc ts ds env1 c h'
    | exc c' => exact bindT_noexc t d env c' e
    | bad => rw [e] at h'; cases h'
end
theorem wipe_get : ∀ (ws : List Nat) (σ : L2.St) (i : Nat), i ∉ ws → (wipe σ ws)[i]? = σ[i]?
  | [], _, _, _ => rfl
  | w :: ws, σ, i, h => by
    unfold wipe
    rw [List.getElem?_set_ne (fun z => h (by simp [z]))]
    exact wipe_get ws σ i fun z => h (List.mem_cons_of_mem _ z)
theorem wipe_in : ∀ (ws : List Nat) (σ : L2.St) (i : Nat), i ∈ ws → i < σ.length → (wipe σ ws)[i]? = some none
  | w :: ws, σ, i, h, hl => by
    unfold wipe
    by_cases e : w = i
    · subst e
      rw [List.getElem?_set_self (by rw [wipe_length]; exact hl)]
    · rw [List.getElem?_set_ne e]
      exact wipe_in ws σ i ((List.mem_cons.mp h).resolve_left fun z => e z.symm) hl
/-- only wiped slots were changed -/
theorem wipe_keep {js ws : List Nat} {σ σ2 : L2.St} (hk : Keep js (wipe σ ws) σ2) (hs : ∀ i ∈ js, i ∈ ws) : wipe σ2 ws = wipe σ ws := by
  have hl : σ2.length = σ.length := hk.1.trans (wipe_length σ ws)
  apply List.ext_getElem?
  intro i
  by_cases hi : i ∈ ws
  · by_cases hb : i < σ.length
    · rw [wipe_in ws σ i hi hb, wipe_in ws σ2 i hi (by omega)]
    · rw [List.getElem?_eq_none (by rw [wipe_length]; omega), List.getElem?_eq_none (by rw [wipe_length]; omega)]
  · rw [wipe_get ws σ2 i hi]
    exact hk.2 i fun z => hi (hs i z)
theorem RepE.wipe {K : PySem.W.Frag} {B : Hp} {σ : L2.St} {env : Env} (r : RepE K B σ env) : ∀ ws : List Nat, RepE K B (L2.wipe σ ws) (wipeE env ws)
  | [] => r
  | w :: ws => by
    obtain ⟨h1, h2⟩ := r.wipe ws
    refine ⟨by unfold L2.wipe wipeE; rw [List.length_set, List.length_set]; exact h1, fun i d e => ?_⟩
    unfold wipeE at e
    unfold L2.wipe
    by_cases hw : w = i
    · subst hw
      by_cases hb : w < (wipeE env ws).length
      · rw [List.getElem?_set_self hb] at e; cases e
      · rw [List.getElem?_eq_none (by rw [List.length_set]; omega)] at e; cases e
    · rw [List.getElem?_set_ne hw] at e ⊢
      exact h2 i d e
section
variable {W : Wd} {g : G} {M : Nm} {k : Nat} {Z : Sc} {X : Cx} {E : XK} {tg : Expr}
theorem relS_eq (sc : Scope) (env : PySem.Env) (h : env.scope = sc) (scope : Scope) : relabel scope env = L2.relS scope sc := by
  subst h
  rfl
theorem Good.blk (G : Good W g M k Z X E) (scope : Scope) (s : Shared) (H : Hp) (C : Addr) (cl : List (Str × Addr)) (fp : List Addr) : Good W g M k (Z.blk scope) (X.blk s H scope (compEnvC scope cl C X.env) fp) EN where
  toGood0 := {
  N := G.N
  nd := G.nd
  sc := relS_eq Z.sc X.env (G.toGood0.sc) scope
  fn := rfl
  calm := G.calm
  room := G.room
  tk := L2.takes0
  bl := G.bl
  exc := G.exc
  gl := fun x d h => G.toGood0.gl x d h
  fk := G.fk
  fns := G.fns }
  lam := fun h => nomatch (show false = true from h)
theorem pts_nilD (X : Cx) (E : XK) : PTs X [] (tPT W X E fun _ => .ok (.bool true)) := ⟨fun pins s σ H Q I ⟨B, env, gd, r, o⟩ => by
  obtain ⟨k, e, q⟩ := OutG.now gd o
  cases e
  exact (L2.pts_nil (X := X)).run pins s σ H Q I q⟩
theorem lcLoop_list {t : Tg} {c e : Env → R D} {ws : List Nat} {env : Env} : ∀ {ds acc : List D} {d : D}, lcLoop t c e ws env ds acc = .ok d → ∃ es, d = .list es
  | [], acc, d, h => by cases h; exact ⟨_, rfl⟩
  | x :: r, acc, d, h => by
    unfold lcLoop at h
    cases e1 : bindT t x (wipeE env ws) with
    | exc _ => rw [e1] at h; cases h
    | bad => rw [e1] at h; cases h
    | ok env1 =>
      rw [e1, bind_ok] at h
      cases e2 : c env1 with
      | exc _ => rw [e2] at h; cases h
      | bad => rw [e2] at h; cases h
      | ok k =>
        rw [e2, bind_ok] at h
        cases k with
        | bool b =>
          cases b with
          | false => exact lcLoop_list h
          | true =>
            have h' : (e env1 >>= fun y => if acc.length < lim then lcLoop t c e ws env r (acc ++ [y]) else .bad) = .ok d := h
            cases e3 : e env1 with
            | exc _ => rw [e3] at h'; cases h'
            | bad => rw [e3] at h'; cases h'
            | ok y =>
              rw [e3, bind_ok] at h'
              split at h'
              · exact lcLoop_list h'
              · cases h'
        | _ => cases h
theorem lc_read {t : Tg} {ws : List Nat} {fi : Env → R (List D)} {fc fe : Env → R D} (hsl : ∀ i ∈ slotsT t, i ∈ ws) {σ : L2.St} {H : Hp} {Q : VK}
    (h : tF W X E (fun env => fi env >>= fun ds => lcLoop t (fun e => noExc (fc e)) (fun e => noExc (fe e)) ws env ds []) σ H Q) : tLc (tPI W X E fi) (tgP W X (slotsT t) (bindT t)) (tPT W X EN fc) (tP W X EN fe) ws σ H Q := by
  obtain ⟨B, env, gd, r, o⟩ := h
  refine ⟨B, env, gd, r, o.bind fun ds B1 H1 _ st o1 J wd D hD => ?_⟩
  obtain ⟨n, Gp, Y, hn, hw, hG, hY⟩ := wd
  have hD0 : H D = none := by
    cases e : H D with
    | none => rfl
    | some u => exact absurd hD (st.occ (by rw [e]; exact fun z => nomatch z))
  have nv : ¬ W.vol D := st.gd.novol hD
  refine L2.lc_it hw (fun i H2 => ∃ B2 acc accV, Stp W B1 H1 B2 H2 ∧ B2 D = none ∧ H2 D = some (.lst accV) ∧ RpAll X.K B2 accV acc ∧ OutG W X.mg E B1 H1 (lcLoop t (fun e => noExc (fc e)) (fun e => noExc (fe e)) ws env (ds.drop i) acc)
      fun d B' H' => ∃ ds : List Ev.D, d = PyData.list ds ∧ ∀ (p : Addr) (vs : List V), H p = none → B' p = none → H' p = some (.lst vs) → RpAll X.K B' vs ds → Q (.ref p) H')
    ⟨B1, [], [], Stp.newH st.gd _ hD, st.gd.free hD, upd_same, .nil, o1⟩ (fun i H2 _ ⟨B2, acc, accV, s2, _⟩ => hG B2 H2 s2.same s2.gd) ?_ ?_
  · rintro i x H2 H3 hlt ⟨B2, acc, accV, s2, hB2, hH2, ra, o2⟩ hy
    obtain ⟨B3, d, hd, s3, rx⟩ := hY i B2 H2 x H3 s2.same s2.gd hlt hy
    have hdrop : ds.drop i = d :: ds.drop (i + 1) := by
      obtain ⟨hil, e⟩ := List.getElem?_eq_some_iff.mp hd
      rw [List.drop_eq_getElem_cons hil, e]
    have s13 := s2.trans s3
    have hB3 : B3 D = none := s3.out D hB2 (by rw [hH2]; exact fun z => nomatch z)
    have hH3 : H3 D = some (.lst accV) := s3.ext D _ hH2 nv
    have re3 := ((r.mono st.same).mono s13.same).wipe ws
    rw [hdrop] at o2
    refine ⟨B3, wipeE env ws, d, s13.gd, re3, rx, ?_⟩
    have o3 : OutG W X.mg E B1 H1 (bindT t d (wipeE env ws) >>= fun env1 => noExc (fc env1) >>= fun k => match k with
      | .bool true => noExc (fe env1) >>= fun y => if acc.length < lim then lcLoop t (fun e => noExc (fc e)) (fun e => noExc (fe e)) ws env (ds.drop (i + 1)) (acc ++ [y]) else .bad
      | .bool false => lcLoop t (fun e => noExc (fc e)) (fun e => noExc (fe e)) ws env (ds.drop (i + 1)) acc
      | _ => .bad) _ := o2
    cases eb : bindT t d (wipeE env ws) with
    | exc c => exact absurd eb (bindT_noexc t d _ c)
    | bad => rw [eb] at o3; exact False.elim o3
    | ok env1 =>
      rw [eb, bind_ok] at o3
      intro σ2 B4 H4 s4 re4 k4
      have s14 := s13.trans s4
      have hB4 : B4 D = none := s4.out D hB3 (by rw [hH3]; exact fun z => nomatch z)
      have hH4 : H4 D = some (.lst accV) := s4.ext D _ hH3 nv
      refine ⟨wipe_keep k4 hsl, B4, env1, s14.gd, re4, ?_⟩
      cases ec : fc env1 with
      | exc c => rw [ec] at o3; exact False.elim o3
      | bad => rw [ec] at o3; exact False.elim o3
      | ok kd =>
        rw [ec] at o3
        intro B5 H5 s5
        have s15 := s14.trans s5
        have hB5 : B5 D = none := s5.out D hB4 (by rw [hH4]; exact fun z => nomatch z)
        have hH5 : H5 D = some (.lst accV) := s5.ext D _ hH4 nv
        cases kd with
        | bool b =>
          refine ⟨b, rfl, ?_⟩
          cases b with
          | false =>
            rw [if_neg Bool.false_ne_true]
            exact ⟨B5, acc, accV, s15, hB5, hH5, ra.mono (s3.same.trans (s4.same.trans s5.same)), o3⟩
          | true =>
            rw [if_pos rfl]
            refine ⟨B5, env1, s15.gd, re4.mono s5.same, ?_⟩
            have o4 : OutG W X.mg E B1 H1 (noExc (fe env1) >>= fun y => if acc.length < lim then lcLoop t (fun e => noExc (fc e)) (fun e => noExc (fe e)) ws env (ds.drop (i + 1)) (acc ++ [y]) else .bad) _ := o3
            cases ee : fe env1 with
            | exc c => rw [ee] at o4; exact False.elim o4
            | bad => rw [ee] at o4; exact False.elim o4
            | ok yd =>
              rw [ee] at o4
              intro B6 H6 s6 y ry
              have s16 := s15.trans s6
              have hB6 : B6 D = none := s6.out D hB5 (by rw [hH5]; exact fun z => nomatch z)
              have hH6 : H6 D = some (.lst accV) := s6.ext D _ hH5 nv
              obtain ⟨hz, o5⟩ := OutG.ite o4
              have ra6 := ra.mono (s3.same.trans (s4.same.trans (s5.same.trans s6.same)))
              refine ⟨accV, hH6, by rw [lim_eq, ra.length]; exact hz, B6, acc ++ [yd], accV ++ [y], s16.write hD hH6 hB6 nv, hB6, upd_same, ra6.append (.cons ry .nil), o5⟩
        | none => exact False.elim o3
        | int _ => exact False.elim o3
        | str _ => exact False.elim o3
        | list _ => exact False.elim o3
        | tuple _ => exact False.elim o3
        | dict _ => exact False.elim o3
  · rintro H2 ⟨B2, acc, accV, s2, hB2, hH2, ra, o2⟩
    have hdn : ds.drop n = [] := by rw [hn]; exact List.drop_length
    rw [hdn] at o2
    obtain ⟨es, ee, q⟩ := o2 B2 H2 s2
    cases ee
    exact q D accV hD0 hB2 hH2 ra
/-- a comprehension: as a value, and where it is stored as it stands -/
structure Lc (W : Wd) (X : Cx) (E : XK) (Z : Sc) (e : Expr) (f : Env → R D) : Prop where
  pe : PE X e (tF W X E f)
  ps : ∀ (x : Str) (px pos : Pos) (i : Nat), Z.sc.names.lookup x = some .local → idxN Z.N x = some i → swapsWith e (some (.Name x px)) pos.line X.env = pure true → PS X (.Assign [.Name x px] e pos) (tAsg (tF W X E f) (gName i))
theorem pe_lcF {elt iter : Expr} {ifs : List Expr} {scope : Scope} {pos : Pos} {t : Tg} {fi : Env → R (List D)} {fc fe : Env → R D} (G : Good W g M k Z X E) (hok : blkC Z.N Z.sc scope (ownOf Z.N scope) = true) (ht : trT (Z.blk scope) tg = some t)
    (hsl : ∀ i ∈ slotsT t, i ∈ (ownOf Z.N scope).map (·.2)) (hset : isSet iter = false) (hi : PI X tg iter (tPI W X E fi))
    (hc : ∀ X', Good W g M k (Z.blk scope) X' EN → PTs X' ifs (tPT W X' EN fc)) (he : ∀ X', Good W g M k (Z.blk scope) X' EN → PE X' elt (tP W X' EN fe)) :
    Lc W X E Z (.ListComp elt [⟨tg, iter, ifs, 0⟩] scope pos) (fun env => fi env >>= fun ds => lcLoop t (fun e => noExc (fc e)) (fun e => noExc (fe e)) ((ownOf Z.N scope).map (·.2)) env ds []) := by
  have hblk : BlkOk X.N X.env.scope scope (ownOf Z.N scope) := by
    rw [G.toGood0.N, G.toGood0.sc]
    exact blkOk_by hok
  have hnd : X.N.Nodup := by rw [G.toGood0.N]; exact G.nd
  have hst : ∀ x, foldedSetIterable iter X.env x = pure x := fun x => by cases iter <;> first | rfl | (cases hset; done)
  refine ⟨?_, fun x px spos i hx hix hsw => ?_⟩
  · have main := L2.pe_lc (X := X) (elt := elt) (pos := pos) (g := tgP W X (slotsT t) (bindT t)) (tt := tPT W X EN fc) (te := tP W X EN fe) G.calm hnd hi hblk
      (fun s H C cl fp => pg_tr (G.blk scope s H C cl fp) tg t ht) (fun s H C cl fp => hc _ (G.blk scope s H C cl fp)) (fun s H C cl fp => he _ (G.blk scope s H C cl fp)) hst
    exact main.imp fun σ H Q h => lc_read hsl h
  · have main := L2.ps_setLc (X := X) (i := i) (y := x) (py := px) (spos := spos) (elt := elt) (pos := pos) (g := tgP W X (slotsT t) (bindT t)) (tt := tPT W X EN fc) (te := tP W X EN fe) G.calm hnd (by rw [G.toGood0.N]; exact idxN_get hix) (by rw [G.toGood0.sc]; exact hx) hsw hi hblk
      (fun s H C cl fp => pg_tr (G.blk scope s H C cl fp) tg t ht) (fun s H C cl fp => hc _ (G.blk scope s H C cl fp)) (fun s H C cl fp => he _ (G.blk scope s H C cl fp)) hst
    exact main.imp fun D σ H h => lc_read hsl h
end
end Ev
/-! EvSo: sorted of a list or tuple of data. -/
namespace Ev
open PySem PySem.Spec PyProof.Rows L2
theorem objOk_ex {P : Program} {w : World} {H : Hp} {h : Heap} {a : Addr} {o : HO} (x : ObjOk P w H h a o) : ∃ u, h.get? a = some u := by
  cases o with
  | lst xs => obtain ⟨_, _, _, _, e⟩ := x; exact ⟨_, e⟩
  | tup xs => obtain ⟨_, _, _, ⟨o, e, _⟩⟩ := x; exact ⟨o, e⟩
  | dK kvs => obtain ⟨_, _, _, _, o, _, _, e, _⟩ := x; exact ⟨o, e⟩
  | dT kvs => obtain ⟨_, _, _, _, o, _, _, e, _⟩ := x; exact ⟨o, e⟩
  | set S n => obtain ⟨o, _, _, _, e, _⟩ := x; exact ⟨o, e⟩
  | ins C dx fs => obtain ⟨_, _, _, e, _⟩ := x; exact ⟨_, e⟩
  | own y => exact x
  | xd fs => obtain ⟨_, ⟨_, _, _, e, _⟩, _⟩ := x; exact ⟨_, e⟩
  | rng lo hi => obtain ⟨_, _, _, e⟩ := x; exact ⟨_, e⟩
  | frz ob u => exact ⟨_, x.1⟩
  | tbl ps => exact ⟨_, x⟩
  | met f y => exact ⟨_, x⟩
  | ext φ => exact x.2.1
section
variable {P : Program} {w : World} {A : Around} {E' : Value → Shared → Prop} {s : Shared}
/-- sorted(x), x's items collected: a new list of them is sorted -/
theorem sorted_any {u : Value} {us : List Value} {Q : Value → Shared → Prop} (hL : us.length ≤ sizeLine)
    (hc : ∀ (B : Around) (R : List Value → Shared → Prop) (Ex : Value → Shared → Prop), (∀ h', (∀ b o, s.heap.get? b = some o → h'.get? b = some o) → R us { s with heap := h' }) → wpAny (model P w) B (collect u) R Ex s)
    (hs : ∀ h', (∀ b o, s.heap.get? b = some o → h'.get? b = some o) → ∃ κ, PySem.W.SortsAt P w A.in1.in1 { s with heap := h' } κ us ∧ ∀ h'', (∀ b o, s.heap.get? b = some o → h''.get? b = some o) →
      ∀ a e, h''.get? a = some (seqObj "list" (PySem.W.sortVals κ false us us).toArray e) → s.heap.get? a = none → Q (.ref a) { s with heap := h'' }) :
    wpAny (model P w) A (call (.builtin "sorted") [u]) Q E' s := by
  refine call_function_entry_kw kind_sorted plain_sorted entry_sorted (args_sorted1 _) ?_
  unfold Builtin.«sorted»
  refine wpAny_bind (m := checkCount "sorted" 1 1 _) (wpAny_pure ?_)
  refine wpAny_bind (hc _ _ _ fun h' kp => ?_)
  refine wpAny_bind (wpAny_newList ?_ hL)
  have a0 : (h'.push (seqObj "list" us.toArray 0)).get? h'.objs.size = some (seqObj "list" us.toArray 0) := Heap.get?_push_size _ rfl
  have k1 : ∀ b o, s.heap.get? b = some o → (PySem.W.sortingHeap (h'.push (seqObj "list" us.toArray 0)) h'.objs.size us).get? b = some o := fun b o e =>
    PySem.W.sortingHeap_old (Nat.ne_of_lt (Heap.lt_size (kp b o e))) (Heap.get?_push_of_some _ (kp b o e))
  obtain ⟨κ, S, fin⟩ := hs _ k1
  refine wpAny_bind (wpAny_holding (wpAny_call_entry_kw slot_list_sort ⟨_, a0, rfl⟩ entry_list_sort ?body (args_list_sort _)))
  case body =>
    refine PySem.W.list_sort_vals (s := { s with heap := h'.push (seqObj "list" us.toArray 0) }) a0 S hL ?_
    obtain ⟨e, he⟩ := sortedHeap_at (out := (PySem.W.sortVals κ false us us).toArray) a0
    refine ⟨_, rfl, wpAny_pure ⟨_, rfl, fin _ (fun b o q => ?_) h'.objs.size e he ?_⟩⟩
    · have lt := Heap.lt_size (kp b o q)
      rw [sortedHeap_old (Nat.ne_of_lt lt) (Nat.lt_of_lt_of_le lt (by rw [size_push']; omega))]
      exact Heap.get?_push_of_some _ (kp b o q)
    · cases q : s.heap.get? h'.objs.size with
      | none => rfl
      | some o => exact absurd (Heap.lt_size (kp _ _ q)) (Nat.lt_irrefl _)
end

section
open PySem.W PySem.SeqAt
variable {P : Program} {w : World} {A : Around} {s : Shared}
/-- two tuples, as one kind of keys -/
theorem oneLt_tup {E' : Value → Shared → Prop} {xs ys : List D} {a b : Value} {as bs : List Addr} {Q : Bool → Shared → Prop} (ra : Reads s.heap a (.tuple xs) as) (rb : Reads s.heap b (.tuple ys) bs) (h : alikeAll xs ys = true)
    (hu : A.units + min (PyData.tuple xs).depth (PyData.tuple ys).depth < cLine) (hq : Q (dataLt (.tuple xs) (.tuple ys)) s) : wpAny (model P w) A (oneLt' true a b) Q E' s := by
  cases ra with
  | @tuple l o vs n _ _ h1 h2 h3 h4 =>
    cases rb with
    | @tuple l' o' us m _ _ k1 k2 k3 k4 =>
      have n1 : vs.size = xs.length := by simpa using ReadsAll.length _ _ _ h4
      have n2 : us.size = ys.length := by simpa using ReadsAll.length _ _ _ k4
      rw [dataLt_tuple, ← firstLt_toks xs ys h, ← n1, ← n2] at hq
      obtain ⟨cls, dd, data, sl⟩ := o
      obtain ⟨cls2, dd2, data2, sl2⟩ := o'
      simp only at h2 h3 k2 k3
      subst h2 h3 k2 k3
      rw [oneLt'_eq, if_pos rfl]
      refine wpAny_bind (wpAny_cRoomFor (room_here hu) (wpAny_bind (wpAny_callSpecialIfBound?_slot (T := "tuple") ⟨_, h1, rfl⟩ F.slot_tuple_lt ?_)))
      refine call_meets F.slot_tuple_lt ⟨_, h1, rfl⟩ F.entry_tuple_lt (F.args_tuple_lt_2 _ _) (tuple_ltAt l l' vs us n m dd dd2 sl sl2 (pairEq xs ys) fun j => dataLt (xs.getD j .none) (ys.getD j .none)) ⟨h1, k1, fun j j1 j2 => ?_, fun j j1 j2 hj => ?_, ?_⟩
      · have q := eqAt_alikeAll xs ys A.in1 s vs.toList us.toList _ _ h4 k4 h (room_in hu) j (by simpa using j1) (by simpa using j2)
        simpa using q
      · have q := rcLt_alikeAll xs ys A.in1 s vs.toList us.toList _ _ h4 k4 h (room_in hu) j (by simpa using j1) (by simpa using j2) hj
        simpa using q
      · exact wpAny_truthy_bool hq
/-- what is asked of the keys ahead: one type, and the first is no tuple with items -/
theorem kind_first {M : Model} {E' : Value → Shared → Prop} {vs : List Value} {Q : SortKind → Shared → Prop} {l : Addr} {o : Obj} {n : Nat} {r : List Value} (e : vs = .ref l :: r) (ho : s.heap.get? l = some o) (hc : o.cls = .type "tuple") (hd : o.data = .seq #[] n)
    (hT : ∀ v ∈ vs, ∃ l o xs n, v = .ref l ∧ s.heap.get? l = some o ∧ o.cls = .type "tuple" ∧ o.data = .seq xs n) (h : Q oneType' s) : wpAny M A (keyKind' vs.toArray) Q E' s := by
  subst e
  have looks : ∀ v ∈ (Value.ref l :: r), Looks M s.heap (typeOf v) (.type "tuple") := fun v hv => by
    obtain ⟨l', o', xs, m, rfl, q1, q2, _⟩ := hT v hv
    have q : Looks M s.heap (typeOf (.ref l')) o'.cls := (Looks.ld q1).andThen .now
    rw [q2] at q
    exact q
  have firsts : ∀ (us : List Value), (∀ v ∈ us, ∃ l o xs n, v = .ref l ∧ s.heap.get? l = some o ∧ o.cls = .type "tuple" ∧ o.data = .seq xs n) → ∀ (R : List (Option Value) → Shared → Prop), (∀ fs, R fs s) → wpAny M A (us.mapM firstOfTuple') R E' s := by
    intro us
    induction us with
    | nil => intro _ R h; rw [List.mapM_nil]; exact wpAny_pure (h _)
    | cons v us ih =>
      intro hv R h
      obtain ⟨l', o', xs, m, rfl, q1, q2, q3⟩ := hv v List.mem_cons_self
      have q : Looks M s.heap (typeOf (.ref l')) o'.cls := (Looks.ld q1).andThen .now
      rw [List.mapM_cons]
      refine wpAny_bind ?_
      rw [kas_first_eq]
      refine wpAny_bind (q.here ?_)
      rw [q2, if_neg (by simp)]
      exact wpAny_bind (listItems_at q1 q3 (wpAny_pure (wpAny_bind (ih (fun v h => hv v (List.mem_cons_of_mem _ h)) _ fun fs => wpAny_pure (h _)))))
  rw [kat_kind_eq, List.mapM_toArray, map_eq_pure_bind]
  refine wpAny_bind (wpAny_bind ?_)
  rw [List.mapM_cons]
  refine wpAny_bind ?_
  rw [kas_first_eq]
  refine wpAny_bind ((looks _ List.mem_cons_self).here ?_)
  rw [if_neg (by simp)]
  refine wpAny_bind (listItems_at ho hd (wpAny_pure ?_))
  refine wpAny_bind (firsts r (fun v hv => hT v (List.mem_cons_of_mem _ hv)) _ fun fs => wpAny_pure (wpAny_pure ?_))
  rw [if_neg (by simp), if_neg (by simp)]
  rw [oneTypeOnly'_eq, List.mapM_toArray, map_eq_pure_bind]
  refine wpAny_bind (wpAny_bind (wpAny_bind (kas_mapM (r := Value.type "tuple") _ (fun v hv Q' hq => (looks v hv).here hq) (wpAny_pure ?_))))
  have hall : ((List.map (fun _ => Value.type "tuple") (Value.ref l :: r)).toArray.all fun x => x == Value.type "tuple") = true := by
    simp
  have h0 : (List.map (fun _ => Value.type "tuple") (Value.ref l :: r)).toArray[0]? = some (Value.type "tuple") := by simp
  rw [h0]
  simp only [hall, if_true]
  exact wpAny_pure (wpAny_pure h)
/-- tuples of which the first is empty -/
theorem sortsAt_e {vs : List Value} {r : List D} (e : EachIs (fun v d => ∃ as, Reads s.heap v d as) vs (.tuple [] :: r)) (hal : AllAlike (.tuple [] :: r)) (ht : r.all isTupD = true) (hu : ∀ d ∈ (PyData.tuple [] :: r), A.units + d.depth < cLine) :
    SortsAt P w A s (dataKind s.heap (.tuple [] :: r)) vs := by
  have tup : ∀ d ∈ (PyData.tuple [] :: r), ∃ xs, d = .tuple xs := fun d hd => by
    rcases List.mem_cons.mp hd with q | q
    · exact ⟨_, q⟩
    · have := List.all_eq_true.mp ht d q
      cases d <;> first | exact ⟨_, rfl⟩ | cases this
  refine ⟨fun v hv => ?_, oneType', ?_, fun h2 E' Q hq => ?_⟩
  · obtain ⟨d, hd, as, rr⟩ := e.left v hv
    exact ⟨_, dataKind_some hal hd rr⟩
  · intro E' x y a b Q ha hb hq
    obtain ⟨d, as, hd, ra, rfl⟩ := dataKind_inv ha
    obtain ⟨d', bs, hd', rb, rfl⟩ := dataKind_inv hb
    obtain ⟨xs, rfl⟩ := tup d hd
    obtain ⟨ys, rfl⟩ := tup d' hd'
    rw [keyLt'_oneType]
    exact oneLt_tup ra rb (by simpa [alike] using hal _ hd _ hd') (Nat.lt_of_le_of_lt (Nat.add_le_add_left (Nat.min_le_left _ _) _) (hu _ hd)) hq
  · have all : ∀ v ∈ vs, ∃ l o xs n, v = .ref l ∧ s.heap.get? l = some o ∧ o.cls = .type "tuple" ∧ o.data = .seq xs n := fun v hv => by
      obtain ⟨d, hd, as, rr⟩ := e.left v hv
      obtain ⟨xs, rfl⟩ := tup d hd
      cases rr with
      | tuple q1 q2 q3 q4 => exact ⟨_, _, _, _, rfl, q1, q2, q3⟩
    cases e with
    | cons e1 er =>
      obtain ⟨as, e1⟩ := e1
      cases e1 with
      | @tuple l o us n _ _ q1 q2 q3 q4 =>
        have : us = #[] := by
          have h0 : us.toList = [] := by
            cases q : us.toList with
            | nil => rfl
            | cons a b => rw [q] at q4; cases q4
          exact Array.toList_inj.mp h0
        subst this
        exact kind_first rfl q1 q2 q3 all hq
theorem depth_le {ds : List D} : ∀ d ∈ ds, d.depth ≤ PyData.depthAll ds := by
  induction ds with
  | nil => intro d h; cases h
  | cons x r ih =>
    intro d h
    rw [PyData.depthAll]
    rcases List.mem_cons.mp h with q | q
    · rw [q]; exact Nat.le_max_left _ _
    · exact Nat.le_trans (ih d q) (Nat.le_max_right _ _)
theorem sortsAt_d {vs : List Value} {ds : List D} (e : EachIs (fun v d => ∃ as, Reads s.heap v d as) vs ds) (hal : AllAlike ds) (hs : srtable ds = true) (hd : PyData.depthAll ds ≤ 60) (hu : A.units + 60 < cLine) : SortsAt P w A s (dataKind s.heap ds) vs := by
  have hu' : ∀ d ∈ ds, A.units + d.depth < cLine := fun d hm => by have := depth_le d hm; omega
  unfold srtable at hs
  rw [Bool.or_eq_true, Bool.or_eq_true] at hs
  rcases hs with (hs | hs) | hs
  · refine SortsAt.data e hal (.inl fun d hm => ?_) hu'
    have := List.all_eq_true.mp hs d hm
    match d, this with
    | .tuple (x :: r), _ => exact ⟨x, r, rfl⟩
  · refine SortsAt.data e hal (.inr fun d hm => ?_) hu'
    have := List.all_eq_true.mp hs d hm
    refine ⟨fun z => ?_, fun xs z => ?_⟩ <;> (rw [z] at this; cases this)
  · split at hs
    · exact sortsAt_e e hal hs hu'
    · cases hs
end
section
open PySem.W
variable {K : PySem.W.Frag} {B : Hp}
theorem each_vals {bs : List (V × D)} : ∀ {us : List Value}, Vals (bs.map (·.1)) us → EachIs (fun u b => RelV b.1 u) us bs := by
  induction bs with
  | nil => intro us h; cases h; exact .nil
  | cons b bs ih =>
    intro us h
    cases h with
    | cons r rs => exact .cons r (ih rs)
theorem vals_each {bs : List (V × D)} : ∀ {us : List Value}, EachIs (fun u b => RelV b.1 u) us bs → Vals (bs.map (·.1)) us := by
  induction bs with
  | nil => intro us h; cases h; exact .nil
  | cons b bs ih =>
    intro us h
    cases h with
    | cons r rs => exact .cons r (ih rs)
theorem zip_rp : ∀ {vs : List V} {ds : List D}, RpAll K B vs ds → (vs.zip ds).map (·.1) = vs ∧ (vs.zip ds).map (·.2) = ds ∧ ∀ b ∈ vs.zip ds, Rp K B b.1 b.2
  | _, _, .nil => ⟨rfl, rfl, fun _ h => nomatch h⟩
  | _, _, .cons r rs => by
    obtain ⟨h1, h2, h3⟩ := zip_rp rs
    refine ⟨congrArg (_ :: ·) h1, congrArg (_ :: ·) h2, fun b hb => ?_⟩
    rcases List.mem_cons.mp hb with q | q
    · rw [q]; exact r
    · exact h3 b q
theorem rp_zip : ∀ {bs : List (V × D)}, (∀ b ∈ bs, Rp K B b.1 b.2) → RpAll K B (bs.map (·.1)) (bs.map (·.2))
  | [], _ => .nil
  | b :: bs, h => .cons (h b List.mem_cons_self) (rp_zip fun c hc => h c (List.mem_cons_of_mem _ hc))
end
section
open PySem.W
variable {W : Wd} {X : Cx} {E : XK}
theorem each_reads {h : Heap} {bs : List (V × D)} : ∀ {us : List Value}, EachIs (fun u b => RelV b.1 u) us bs → (∀ b ∈ bs, ∀ u, RelV b.1 u → ∃ as, Reads h u b.2 as) → EachIs (fun v d => ∃ as, Reads h v d as) us (bs.map (·.2)) := by
  induction bs with
  | nil => intro us e h; cases e; exact .nil
  | cons b bs ih =>
    intro us e h
    cases e with
    | cons e es => exact .cons (h b List.mem_cons_self _ e) (ih es fun c hc => h c (List.mem_cons_of_mem _ hc))
theorem each_keys {h : Heap} {bs : List (V × D)} {ds : List D} (hal : AllAlike ds) (hm : ∀ b ∈ bs, b.2 ∈ ds) : ∀ {us : List Value}, EachIs (fun u b => RelV b.1 u) us bs → (∀ b ∈ bs, ∀ u, RelV b.1 u → ∃ as, Reads h u b.2 as) →
    EachIs (fun v (b : V × D) => (dataKind h ds).keyOf v = some (keyToks b.2)) us bs := by
  induction bs with
  | nil => intro us e h; cases e; exact .nil
  | cons b bs ih =>
    intro us e h
    cases e with
    | cons e es =>
      obtain ⟨as, r⟩ := h b List.mem_cons_self _ e
      exact .cons (dataKind_some hal (hm b List.mem_cons_self) r) (ih (fun c hc => hm c (List.mem_cons_of_mem _ hc)) es fun c hc => h c (List.mem_cons_of_mem _ hc))
theorem sorted_dat (hu : X.A.units + 65 < cLine) {pins : List (Addr × Obj)} {σ : L2.St} {B H : Hp} {s : Shared} {u : Value} {us : List Value} {vs : List V} {ds : List D} {Q : VK} (I : Inv X pins σ H s) (gd : Gd W B H) (r : RpAll X.K B vs ds) (rv : Vals vs us) (hL : vs.length ≤ sizeLine)
    (hc : ∀ (A : Around) (R : List Value → Shared → Prop) (Ex : Value → Shared → Prop), (∀ h', (∀ b o, s.heap.get? b = some o → h'.get? b = some o) → R us { s with heap := h' }) → wpAny (model X.prog X.w) A (collect u) R Ex s)
    (o : Out W X E B H (srtD ds) Q) : wpAny (model X.prog X.w) X.A (call (.builtin "sorted") [u]) (EP X pins σ Q) X.xe s := by
  obtain ⟨hz, o⟩ := OutG.ite o
  simp only [Bool.and_eq_true, decide_eq_true_eq] at hz
  obtain ⟨⟨h1, h2⟩, h3⟩ := hz
  have hal := alikes_use h1
  obtain ⟨z1, z2, z3⟩ := zip_rp r
  have rd : ∀ b ∈ vs.zip ds, ∀ u, RelV b.1 u → ∃ as, Reads s.heap u b.2 as := fun b hb u ru => Dp.reads I b.2 b.1 u (Rp.up gd (z3 b hb)) ru
  have ev : EachIs (fun u (b : V × D) => RelV b.1 u) us (vs.zip ds) := each_vals (by rw [z1]; exact rv)
  have hL' : us.length ≤ sizeLine := by rw [← rv.length]; exact hL
  refine sorted_any hL' hc fun h' kp => ?_
  have rd' : ∀ b ∈ vs.zip ds, ∀ u, RelV b.1 u → ∃ as, Reads h' u b.2 as := fun b hb u ru => by
    obtain ⟨as, q⟩ := rd b hb u ru
    exact ⟨as, PyProof.Rows.Reads.keeps kp q⟩
  refine ⟨dataKind h' ds, ?_, fun h'' kp2 a e hg hn => ?_⟩
  · have q := each_reads ev rd'
    rw [z2] at q
    exact sortsAt_d (s := { s with heap := h' }) q hal h2 h3 (by show X.A.units + 1 + 1 + 60 < cLine; omega)
  · have sv := sortVals_each (rev := false) (κ := dataKind h' ds) (fun b : V × D => keyToks b.2) ev (each_keys hal (fun b hb => (List.of_mem_zip hb).2) ev rd')
    have hv := vals_each sv
    have ed : ((vs.zip ds).mergeSort (sortLe (dataKind h' ds).toKeyOrd false fun b : V × D => keyToks b.2)).map (·.2) = srt ds := by
      unfold srt
      exact (sort_maps (Prod.snd : V × D → D) (s := fun a b => !PySem.W.dataLt b a) (l := vs.zip ds) fun a _ b _ => rfl).trans (congrArg (fun l => List.mergeSort l fun a b => !PySem.W.dataLt b a) z2)
    have rr : RpAll X.K B (((vs.zip ds).mergeSort (sortLe (dataKind h' ds).toKeyOrd false fun b : V × D => keyToks b.2)).map (·.1)) (srt ds) := by
      rw [← ed]
      exact rp_zip fun b hb => z3 b ((List.mergeSort_perm _ _).mem_iff.mp hb)
    have hna : H a = none := by
      cases q : H a with
      | none => rfl
      | some u =>
        obtain ⟨_, e⟩ := objOk_ex (I.hok a u q)
        rw [hn] at e
        cases e
    have hl : (((vs.zip ds).mergeSort (sortLe (dataKind h' ds).toKeyOrd false fun b : V × D => keyToks b.2)).map (·.1)).length ≤ sizeLine := by
      rw [List.length_map, (List.mergeSort_perm _ _).length_eq, ← List.length_map (f := (·.1)), z1]
      exact hL
    exact ⟨.ref a, upd H a (.lst (((vs.zip ds).mergeSort (sortLe (dataKind h' ds).toKeyOrd false fun b : V × D => keyToks b.2)).map (·.1))), I.laidN (t' := s.toks) kp2 hn hna ⟨hl, _, e, hv, hg⟩, rfl, Out.lst gd rr o a hna⟩
theorem cb_sorted (hu : X.A.units + 65 < cLine) : CallR X (.builtin "sorted") (rBlt W X E .sorted) := by
  intro pins s σ H xs us Q I rv ⟨B, ds, gd, r, o⟩
  match ds, o with
  | [.list xs], o =>
    obtain ⟨v, rfl, r1⟩ := rp1 r
    cases r1 with
    | @lst a ys _ ha hx =>
      obtain ⟨its, rvs, ⟨ob, n, e, hc, _, hd⟩, hL⟩ := I.list (SqL.lift gd ha)
      rw [Vals.ref1 rv]
      refine sorted_dat (us := its) hu I gd hx rvs hL (fun A R Ex h => ?_) o
      exact wpAny_collect_seq a (.inl rfl) e hc hd (fun h' kp => by rw [List.toList_toArray]; exact h h' kp) (by rw [List.size_toArray, ← rvs.length]; exact hL)
  | [.tuple xs], o =>
    obtain ⟨v, rfl, r1⟩ := rp1 r
    cases r1 with
    | @tup a ys _ ha hx =>
      obtain ⟨its, rvs, ⟨ob, e, hc, n, hd⟩, hL⟩ := I.tuple (SqT.lift gd ha)
      rw [Vals.ref1 rv]
      refine sorted_dat (us := its) hu I gd hx rvs hL (fun A R Ex h => ?_) o
      exact wpAny_collect_seq a (.inr rfl) e hc hd (fun h' kp => by rw [List.toList_toArray]; exact h h' kp) (by rw [List.size_toArray, ← rvs.length]; exact hL)
  | [], o => exact False.elim o
  | [.none], o => exact False.elim o
  | [.bool _], o => exact False.elim o
  | [.int _], o => exact False.elim o
  | [.str _], o => exact False.elim o
  | [.dict _], o => exact False.elim o
  | d :: _ :: _, o => exact False.elim (by cases d <;> exact o)
end
end Ev
/-! EvS: every expression that the reader takes keeps to the evaluator. -/
namespace Ev
open PySem PySem.Spec PyProof.Rows L2
section
variable (W : Wd) (M : Nm)
def SE (e : Expr) : Prop := ∀ (g : G) (k : Nat) (Z : Sc) (X : Cx) (E : XK), Good W g M k Z X E → PE X e (tP W X E (ev g false (tr M Z e))) ∧ PT X e (tPT W X E (ev g true (tr M Z e)))
def SL (es : List Expr) : Prop := ∀ (g : G) (k : Nat) (Z : Sc) (X : Cx) (E : XK), Good W g M k Z X E → es.any isStar = false → PA X es (tPA W X E (evL g (trL M Z es)))
def SO (o : Option Expr) : Prop := ∀ (g : G) (k : Nat) (Z : Sc) (X : Cx) (E : XK), Good W g M k Z X E → PO X o (tPO W X E (evO g (trO M Z o)))
def SB (es : List Expr) : Prop := ∀ (op : BoolOp) (g : G) (k : Nat) (Z : Sc) (X : Cx) (E : XK) (pos : Pos), Good W g M k Z X E → PE X (.BoolOp op es pos) (tP W X E (ev g false (trB M Z op es))) ∧ PW X (.BoolOp op es pos) (tPT W X E (ev g true (trB M Z op es)))
def SI (e : Expr) : Prop := ∀ (g : G) (k : Nat) (Z : Sc) (X : Cx) (E : XK), Good W g M k Z X E → ∀ (tg : Expr) (it : Wk), trI M Z (isTup tg) e = some it → PI X tg e (tPI W X E (evI g it))
/-- of the parts of slices and calls -/
def SX (e : Expr) : Prop := (∀ lo hi st q, e = .Slice lo hi st q → SO W M lo ∧ SO W M hi) ∧ (∀ f as ks q, e = .Call f as ks q → ∀ a ∈ as, SE W M a) ∧ (∀ o m p, e = .Attribute o m p → SE W M o) ∧ ∀ params body scope p, e = .Lambda params body scope p → SE W M body
end
section
variable {W : Wd} {g : G} {M : Nm} {k : Nat} {Z : Sc} {X : Cx} {E : XK}
theorem both {e : Expr} {e' : Ev.E} (hp : plainT e = true) (h : PE X e (tP W X E (ev g false e'))) (hm : ∀ env, ev g true e' env = (ev g false e' env >>= truth)) : PE X e (tP W X E (ev g false e')) ∧ PT X e (tPT W X E (ev g true e')) := by
  refine ⟨h, ?_⟩
  have q := pt_of h hp
  rw [show (ev g true e') = fun env => ev g false e' env >>= truth from funext hm]
  exact q
theorem both_bad {e : Expr} {e' : Ev.E} (h : e' = .bad) : PE X e (tP W X E (ev g false e')) ∧ PT X e (tPT W X E (ev g true e')) := by
  subst h
  exact ⟨pe_bad fun _ => rfl, pt_bad fun _ => rfl⟩

theorem lst_is {es : List Ev.E} (env : Env) (d : D) (h : ev g false (.lst es) env = .ok d) : ∃ ds, d = .list ds := by
  have h' : (evL g es env >>= fun ds => if ds.length ≤ lim then R.ok (PyData.list ds) else .bad) = .ok d := h
  cases e : evL g es env with
  | exc _ => rw [e] at h'; cases h'
  | bad => rw [e] at h'; cases h'
  | ok ds =>
    rw [e, bind_ok] at h'
    split at h'
    · cases h'; exact ⟨_, rfl⟩
    · cases h'
theorem list_is {es : List Ev.E} (env : Env) (d : D) (h : ev g false (.blt .list es) env = .ok d) : ∃ ds, d = .list ds := by
  have h' : (evL g es env >>= bltD .list) = .ok d := h
  cases e : evL g es env with
  | exc _ => rw [e] at h'; cases h'
  | bad => rw [e] at h'; cases h'
  | ok ds =>
    rw [e, bind_ok] at h'
    unfold bltD at h'
    split at h' <;> first | (cases h'; done) | skip
    all_goals (first | (cases h'; exact ⟨_, rfl⟩) | (rename_i z; cases z))
theorem lc_is {ws : List Nat} {t : Tg} {it : Wk} {c e : Ev.E} (env : Env) (d : D) (h : ev g false (.lc ws t it c e) env = .ok d) : ∃ ds, d = .list ds := by
  have h' : (evI g it env >>= fun ds => lcLoop t (fun env' => noExc (ev g true c env')) (fun env' => noExc (ev g false e env')) ws env ds []) = .ok d := h
  cases q : evI g it env with
  | exc _ => rw [q] at h'; cases h'
  | bad => rw [q] at h'; cases h'
  | ok ds =>
    rw [q, bind_ok] at h'
    exact lcLoop_list h'
theorem ite_bad {c : Prop} [Decidable c] {e : Expr} {e1 e2 : Ev.E} (h1 : c → PE X e (tP W X E (ev g false e1)) ∧ PT X e (tPT W X E (ev g true e1))) (h2 : ¬ c → PE X e (tP W X E (ev g false e2)) ∧ PT X e (tPT W X E (ev g true e2))) :
    PE X e (tP W X E (ev g false (if c then e1 else e2))) ∧ PT X e (tPT W X E (ev g true (if c then e1 else e2))) := by
  by_cases h : c
  · rw [if_pos h]; exact h1 h
  · rw [if_neg h]; exact h2 h
theorem s_call (G : Good W g M k Z X E) {f : Str} {e : Expr} {es : List Expr} {p pos : Pos} (hl : SL W M (e :: es)) (he : SE W M e) (hx : SX W M e) :
    PE X (.Call (.Name f p) (e :: es) [] pos) (tP W X E (ev g false (tr M Z (.Call (.Name f p) (e :: es) [] pos)))) ∧ PT X (.Call (.Name f p) (e :: es) [] pos) (tPT W X E (ev g true (tr M Z (.Call (.Name f p) (e :: es) [] pos)))) := by
  show PE X _ (tP W X E (ev g false (trCall M Z f e es (tr M Z e) (trL M Z (e :: es)) (trLam M Z e)))) ∧ PT X _ (tPT W X E (ev g true (trCall M Z f e es (tr M Z e) (trL M Z (e :: es)) (trLam M Z e))))
  unfold trCall
  refine ite_bad (fun _ => both_bad rfl) fun hst => ?_
  have hst' : (e :: es).any isStar = false := by simpa using hst
  have hes := hst'
  rw [List.any_cons, Bool.or_eq_false_iff] at hes
  refine ite_bad (fun hg => ?_) fun _ => both_bad rfl
  refine ite_bad (fun ht => ?_) fun _ => ?_
  · cases es with
    | cons _ _ => exact both_bad rfl
    | nil =>
      cases hlam : trLam M Z e with
      | none => exact both_bad rfl
      | some b =>
        cases e with
        | Lambda params body scope lp =>
          have hlam' : (if Z.lam && noPar params && LamX.lamSB Z.sc scope then some (tr M (Z.lamb scope) body) else none) = some b := hlam
          split at hlam'
          · rename_i hc
            cases hlam'
            simp only [Bool.and_eq_true] at hc
            refine both rfl ?_ fun env => ?_
            · show PE X _ (tP W X E fun env => match g.lo with | some r => md false (toldR g.ex (ev (g.low r) false (tr M (Z.lamb scope) body) env)) | none => .bad)
              cases hlo : g.lo with
              | none => exact pe_bad fun _ => rfl
              | some r => exact G.lam hc.1.1 r f params body scope lp p pos _ hlo ht hg hc.1.2 hc.2 fun k' X' E' G' => (hx.2.2.2 params body scope lp rfl _ k' _ X' E' ⟨G', fun h => nomatch (show false = true from h)⟩).1
            · show (match g.lo with | some r => md true (toldR g.ex (ev (g.low r) false (tr M (Z.lamb scope) body) env)) | none => .bad) = ((match g.lo with | some r => md false (toldR g.ex (ev (g.low r) false (tr M (Z.lamb scope) body) env)) | none => .bad) >>= truth)
              cases g.lo <;> rfl
          · cases hlam'
        | _ => cases hlam
  refine ite_bad (fun hf => both rfl (pe_callD G hg hf hst' (hl _ _ Z X E G hst')) fun _ => rfl) fun hf => ?_
  refine ite_bad (fun hb => ?_) fun _ => both_bad rfl
  have hbl : blB M Z f = true := by unfold blB; rw [hg, hb]; rfl
  have args := hl _ _ Z X E G hst'
  cases hbf : bfOf f (es.length + 1) with
  | some b =>
    refine both rfl ?_ fun _ => rfl
    show PE X _ (tP W X E fun env => evL g (trL M Z (e :: es)) env >>= bltD b)
    rcases bf_len hbf with ⟨hn, ⟨rfl, rfl⟩ | ⟨rfl, rfl⟩ | ⟨rfl, rfl⟩ | ⟨rfl, rfl⟩ | ⟨rfl, rfl⟩ | ⟨rfl, rfl⟩ | ⟨rfl, rfl⟩ | ⟨rfl, rfl⟩ | ⟨rfl, rfl⟩ | ⟨rfl, rfl⟩ | ⟨rfl, rfl⟩⟩ | ⟨hn, rfl, rfl⟩
    · exact pe_bltD G hbl hst' (.inl ⟨_, rfl, cb_len⟩) (by decide +kernel) args
    · exact pe_bltD G hbl hst' (.inr ⟨_, rfl, cb_int⟩) (by decide +kernel) args
    · exact pe_bltD G hbl hst' (.inr ⟨_, rfl, cb_tuple⟩) (by decide +kernel) args
    · have h0 : es = [] := List.eq_nil_of_length_eq_zero (by omega)
      subst h0
      exact pe_ofF list_is (pe_listF G hbl hes.1 args)
    · exact pe_bltD G hbl hst' (.inl ⟨_, rfl, cb_all G.calm⟩) (by decide +kernel) args
    · exact pe_bltD G hbl hst' (.inl ⟨_, rfl, cb_max1 G.calm⟩) (by decide +kernel) args
    · exact pe_bltD G hbl hst' (.inl ⟨_, rfl, cb_abs⟩) (by decide +kernel) args
    · exact pe_bltD G hbl hst' (.inl ⟨_, rfl, cb_sum G.calm⟩) (by decide +kernel) args
    · exact pe_bltD G hbl hst' (.inl ⟨_, rfl, cb_sorted G.units⟩) (by decide +kernel) args
    · exact pe_bltD G hbl hst' (.inl ⟨_, rfl, cb_min1 G.calm G.units⟩) (by decide +kernel) args
    · exact pe_bltD G hbl hst' (.inr ⟨_, rfl, cb_str⟩) (by decide +kernel) args
    · exact pe_bltD G hbl hst' (.inl ⟨_, rfl, cb_max2 G.calm⟩) (by decide +kernel) args
  | none =>
    dsimp only
    refine ite_bad (fun hi => ?_) fun _ => both_bad rfl
    subst hi
    split
    · rename_i t pt
      cases ht : tyOf t with
      | none => exact both_bad rfl
      | some ty =>
        dsimp only
        refine ite_bad (fun hbt => ?_) fun _ => both_bad rfl
        exact both rfl (pe_isiD G hbl hes.1 hbt ht (he _ _ Z X E G).1) fun _ => rfl
    · exact both_bad rfl
theorem meth1 {mf : Mf} {o e : Ev.E} {env : Env} : ev g false (.meth mf o [e]) env = (ev g false o env >>= fun x => strR x >>= fun x => ev g false e env >>= fun y => methD mf x [y]) := by
  show (ev g false o env >>= fun x => strR x >>= fun x => evL g [e] env >>= methD mf x) = _
  congr 1
  funext x
  congr 1
  funext x
  show ((ev g false e env >>= fun d => evL g [] env >>= fun ds => R.ok (d :: ds)) >>= methD mf x) = _
  cases ev g false e env <;> rfl
theorem s_lc (G : Good W g M k Z X E) {elt tg iter : Expr} {ifs : List Expr} {a : Int} {scope : Scope} {pos : Pos} (he : SE W M elt) (hi : SE W M iter) (hii : SI W M iter) (hc : ∀ c ∈ ifs, SE W M c) :
    (∃ fresh, tr M Z (.ListComp elt [⟨tg, iter, ifs, a⟩] scope pos) = fresh ∧ Lc W X E Z (.ListComp elt [⟨tg, iter, ifs, a⟩] scope pos) (ev g false fresh) ∧ (∀ env d, ev g false fresh env = .ok d → ∃ ds, d = .list ds) ∧ ∀ env, ev g true fresh env = (ev g false fresh env >>= truth)) := by
  refine ⟨_, rfl, ?_⟩
  have bad : Lc W X E Z (.ListComp elt [⟨tg, iter, ifs, a⟩] scope pos) (ev g false .bad) ∧ (∀ env d, ev g false .bad env = .ok d → ∃ ds, d = .list ds) ∧ ∀ env, ev g true .bad env = (ev g false .bad env >>= truth) :=
    ⟨⟨⟨fun pins s σ H Q I ⟨B, env, gd, r, o⟩ => False.elim o⟩, fun _ _ _ _ _ _ _ => ⟨fun pins s σ H D I ⟨B, env, gd, r, o⟩ => False.elim o⟩⟩, fun _ _ z => (nomatch z), fun _ => rfl⟩
  show Lc W X E Z _ (ev g false (trLc Z tg iter a scope ((trI M Z (isTup tg) iter).getD (.sq (tr M Z iter))) (trL M (Z.blk scope) ifs) (tr M (Z.blk scope) elt))) ∧ (∀ env d, ev g false (trLc Z tg iter a scope ((trI M Z (isTup tg) iter).getD (.sq (tr M Z iter))) (trL M (Z.blk scope) ifs) (tr M (Z.blk scope) elt)) env = .ok d → ∃ ds, d = .list ds) ∧ ∀ env, ev g true (trLc Z tg iter a scope ((trI M Z (isTup tg) iter).getD (.sq (tr M Z iter))) (trL M (Z.blk scope) ifs) (tr M (Z.blk scope) elt)) env = (ev g false (trLc Z tg iter a scope ((trI M Z (isTup tg) iter).getD (.sq (tr M Z iter))) (trL M (Z.blk scope) ifs) (tr M (Z.blk scope) elt)) env >>= truth)
  unfold trLc
  by_cases h : (decide (a = 0) && blkC Z.N Z.sc scope (ownOf Z.N scope) && ownsT Z scope tg && !isSet iter) = true
  · rw [if_pos h]
    simp only [Bool.and_eq_true, decide_eq_true_eq, Bool.not_eq_true'] at h
    obtain ⟨⟨⟨h1, h2⟩, h3⟩, h4⟩ := h
    subst h1
    cases ht : trT (Z.blk scope) tg with
    | none => exact bad
    | some t =>
      have hsl : ∀ i ∈ slotsT t, i ∈ (ownOf Z.N scope).map (·.2) := by
        unfold ownsT at h3
        rw [ht] at h3
        intro i hi
        have q := List.all_eq_true.mp h3 i hi
        simpa using q
      have hit : PI X tg iter (tPI W X E (evI g ((trI M Z (isTup tg) iter).getD (.sq (tr M Z iter))))) := by
        cases e : trI M Z (isTup tg) iter with
        | some it => exact hii _ _ Z X E G tg it e
        | none => exact pi_sqD (hi _ _ Z X E G).1
      match ifs, hc with
      | [], _ => exact ⟨pe_lcF G h2 ht hsl h4 hit (fun X' _ => pts_nilD X' EN) (fun X' G' => (he _ _ _ X' EN G').1), lc_is, fun _ => rfl⟩
      | [c], hc => exact ⟨pe_lcF G h2 ht hsl h4 hit (fun X' G' => ⟨fun pins s σ H Q I q => (L2.pts_one (hc c List.mem_cons_self _ _ _ X' EN G').2).run pins s σ H Q I q⟩) (fun X' G' => (he _ _ _ X' EN G').1), lc_is, fun _ => rfl⟩
      | _ :: _ :: _, _ => exact bad
  · rw [if_neg h]
    exact bad
end
section
variable {W : Wd} {g : G} {M : Nm} {k : Nat}
theorem sI_of {e : Expr} (hx : SX W M e) : SI W M e := by
  intro g k Z X E G tg it h
  unfold trI at h
  split at h
  · rename_i f p a q
    have ha := hx.2.1 _ _ _ _ rfl a List.mem_cons_self
    split at h
    · cases h
    rename_i hs
    have hs' : isStar a = false := by simpa using hs
    split at h
    · rename_i hb
      cases h
      simp only [Bool.and_eq_true, decide_eq_true_eq] at hb
      obtain ⟨hb, rfl⟩ := hb
      exact pi_rng1D G hb hs' (ha _ _ Z X E G).1
    split at h
    · rename_i hb
      cases h
      simp only [Bool.and_eq_true, decide_eq_true_eq] at hb
      obtain ⟨⟨ht, hb⟩, rfl⟩ := hb
      cases tg with
      | Tuple es kk tp => exact pi_enmD G hb hs' (ha _ _ Z X E G).1
      | _ => cases ht
    · cases h
  · rename_i f p a b q
    have ha := hx.2.1 _ _ _ _ rfl a List.mem_cons_self
    have hb' := hx.2.1 _ _ _ _ rfl b (List.mem_cons_of_mem _ List.mem_cons_self)
    split at h
    · cases h
    rename_i hs
    have hs' : isStar a = false ∧ isStar b = false := by simpa using hs
    split at h
    · rename_i hb
      cases h
      simp only [Bool.and_eq_true, decide_eq_true_eq] at hb
      obtain ⟨hb, rfl⟩ := hb
      exact pi_rng2D G hb hs'.1 hs'.2 (ha _ _ Z X E G).1 (hb' _ _ Z X E G).1
    split at h
    · rename_i hb
      cases h
      simp only [Bool.and_eq_true, decide_eq_true_eq] at hb
      obtain ⟨⟨ht, hb⟩, rfl⟩ := hb
      cases tg with
      | Tuple es kk tp => exact pi_zipD G hb hs'.1 hs'.2 (ha _ _ Z X E G).1 (hb' _ _ Z X E G).1
      | _ => cases ht
    · cases h
  · cases h
theorem s_sub {a b : Expr} {p : Pos} (sa : SE W M a) (sb : SE W M b) (xb : SX W M b) : SE W M (.Subscript a b p) := by
  intro g k Z X E G
  have ha := (sa _ _ Z X E G).1
  have hb := (sb _ _ Z X E G).1
  cases b with
  | Slice lo hi st q =>
    obtain ⟨h1, h2⟩ := xb.1 lo hi st q rfl
    show PE X _ (tP W X E (ev g false (if st.isNone then .cut (tr M Z a) (trO M Z lo) (trO M Z hi) else if isRevS lo hi st then .rev (tr M Z a) else .bad))) ∧ PT X _ (tPT W X E (ev g true (if st.isNone then .cut (tr M Z a) (trO M Z lo) (trO M Z hi) else if isRevS lo hi st then .rev (tr M Z a) else .bad)))
    refine ite_bad (fun hs => ?_) fun _ => ite_bad (fun hr => ?_) fun _ => both_bad rfl
    · cases st with
      | some _ => cases hs
      | none => exact both rfl (pe_cutD ha (h1 _ _ Z X E G) (h2 _ _ Z X E G)) fun _ => rfl
    · unfold isRevS at hr
      simp only [Bool.and_eq_true] at hr
      obtain ⟨⟨hlo, hhi⟩, hst⟩ := hr
      cases lo with
      | some _ => cases hlo
      | none =>
        cases hi with
        | some _ => cases hhi
        | none =>
          cases st with
          | none => cases hst
          | some st =>
            cases st with
            | UnaryOp op x p2 =>
              cases x with
              | Constant c j p1 =>
                cases c with
                | int i =>
                  have hst' : (isUSub op && decide (i = 1)) = true := hst
                  simp only [Bool.and_eq_true, decide_eq_true_eq] at hst'
                  obtain ⟨ho, rfl⟩ := hst'
                  cases op <;> first | exact both rfl (pe_revD ha) fun _ => rfl | cases ho
                | _ => cases hst
              | _ => cases hst
            | _ => cases hst
  | _ => exact both rfl (pe_ixD (by intros; exact fun z => nomatch z) ha hb) fun _ => rfl
mutual
theorem sE : ∀ (e : Expr), SE W M e ∧ SX W M e
  | .Constant c j p => ⟨fun g k Z X E G => by
    cases c with
    | none => exact both rfl (pe_const L2.pe_non fun _ => .non) fun _ => rfl
    | bool b => exact both rfl (pe_const L2.pe_bl fun _ => .bl b) fun _ => rfl
    | int i => exact both rfl (pe_const L2.pe_int fun _ => .int i) fun _ => rfl
    | str s => exact both rfl (pe_const L2.pe_str fun _ => .str s) fun _ => rfl
    | _ => exact both_bad rfl, ⟨fun _ _ _ _ z => (nomatch z), fun _ _ _ _ z => (nomatch z), fun _ _ _ z => (nomatch z), fun _ _ _ _ z => nomatch z⟩⟩
  | .Name x p => ⟨fun g k Z X E G => by
    refine both rfl (pe_name G x p) fun env => ?_
    show ev g true (trName Z x) env = (ev g false (trName Z x) env >>= truth)
    unfold trName
    split
    · rfl
    split
    · split <;> rfl
    split <;> rfl, ⟨fun _ _ _ _ z => (nomatch z), fun _ _ _ _ z => (nomatch z), fun _ _ _ z => (nomatch z), fun _ _ _ _ z => nomatch z⟩⟩
  | .BoolOp op es p => ⟨fun g k Z X E G => by
    obtain ⟨h1, h2⟩ := sB es op _ _ Z X E p G
    exact ⟨h1, h2.pt⟩, ⟨fun _ _ _ _ z => (nomatch z), fun _ _ _ _ z => (nomatch z), fun _ _ _ z => (nomatch z), fun _ _ _ _ z => nomatch z⟩⟩
  | .BinOp a op b p => ⟨fun g k Z X E G => both rfl (pe_binD op ((sE a).1 _ _ Z X E G).1 ((sE b).1 _ _ Z X E G).1) fun _ => rfl, ⟨fun _ _ _ _ z => (nomatch z), fun _ _ _ _ z => (nomatch z), fun _ _ _ z => (nomatch z), fun _ _ _ _ z => nomatch z⟩⟩
  | .UnaryOp op a p => ⟨fun g k Z X E G => by
    have ha := (sE a).1 _ _ Z X E G
    cases op with
    | Not => exact ⟨pe_notD ha.1, pt_notD ha.2⟩
    | USub => exact both rfl (pe_negD ha.1) fun _ => rfl
    | _ => exact both_bad rfl, ⟨fun _ _ _ _ z => (nomatch z), fun _ _ _ _ z => (nomatch z), fun _ _ _ z => (nomatch z), fun _ _ _ _ z => nomatch z⟩⟩
  | .IfExp c a b p => ⟨fun g k Z X E G => ⟨pe_iteD ((sE c).1 _ _ Z X E G).2 ((sE a).1 _ _ Z X E G).1 ((sE b).1 _ _ Z X E G).1, pt_bad fun _ => rfl⟩, ⟨fun _ _ _ _ z => (nomatch z), fun _ _ _ _ z => (nomatch z), fun _ _ _ z => (nomatch z), fun _ _ _ _ z => nomatch z⟩⟩
  | .Compare a ops bs p => ⟨fun g k Z X E G => by
    have ha := ((sE a).1 _ _ Z X E G).1
    have hbs := fun a ha => ((sL bs).2 a ha).1
    match ops, bs, hbs with
    | [op], [b], hbs =>
      have hb := (hbs b List.mem_cons_self _ _ Z X E G).1
      show PE X _ (tP W X E (ev g false (if behindInMarks op b then .bad else .cmp op (tr M Z a) (tr M Z b)))) ∧ PT X _ (tPT W X E (ev g true (if behindInMarks op b then .bad else .cmp op (tr M Z a) (tr M Z b))))
      refine ite_bad (fun _ => both_bad rfl) fun h => ?_
      have h' : behindInMarks op b = false := by simpa using h
      exact ⟨pe_cmpD op G.units h' ha hb, pt_cmpD op G.units h' ha hb⟩
    | [op, op2], [b, c], hbs =>
      have hb := (hbs b List.mem_cons_self _ _ Z X E G).1
      have hc := (hbs c (List.mem_cons_of_mem _ List.mem_cons_self) _ _ Z X E G).1
      show PE X _ (tP W X E (ev g false (if behindInMarks op2 c then .bad else .cmp2 op op2 (tr M Z a) (tr M Z b) (tr M Z c)))) ∧ PT X _ (tPT W X E (ev g true (if behindInMarks op2 c then .bad else .cmp2 op op2 (tr M Z a) (tr M Z b) (tr M Z c))))
      refine ite_bad (fun _ => both_bad rfl) fun h => ?_
      have h' : behindInMarks op2 c = false := by simpa using h
      exact ⟨pe_chainD op op2 G.units h' ha hb hc, pt_chainD op op2 G.units h' ha hb hc⟩
    | [], _, _ => exact both_bad rfl
    | [_], [], _ => exact both_bad rfl
    | [_], _ :: _ :: _, _ => exact both_bad rfl
    | [_, _], [], _ => exact both_bad rfl
    | [_, _], [_], _ => exact both_bad rfl
    | [_, _], _ :: _ :: _ :: _, _ => exact both_bad rfl
    | _ :: _ :: _ :: _, _, _ => exact both_bad rfl, ⟨fun _ _ _ _ z => (nomatch z), fun _ _ _ _ z => (nomatch z), fun _ _ _ z => (nomatch z), fun _ _ _ _ z => nomatch z⟩⟩
  | .List es p => ⟨fun g k Z X E G => by
    have hs := (sL es).1 _ _ Z X E G
    show PE X _ (tP W X E (ev g false (if es.any isStar then .bad else .lst (trL M Z es)))) ∧ PT X _ (tPT W X E (ev g true (if es.any isStar then .bad else .lst (trL M Z es))))
    refine ite_bad (fun _ => both_bad rfl) fun h => ?_
    exact both rfl (pe_ofF lst_is (pe_lstF (hs (by simpa using h)))) fun _ => rfl, ⟨fun _ _ _ _ z => (nomatch z), fun _ _ _ _ z => (nomatch z), fun _ _ _ z => (nomatch z), fun _ _ _ _ z => nomatch z⟩⟩
  | .Tuple es j p => ⟨fun g k Z X E G => by
    have hs := (sL es).1 _ _ Z X E G
    show PE X _ (tP W X E (ev g false (if es.any isStar then .bad else .tup (trL M Z es)))) ∧ PT X _ (tPT W X E (ev g true (if es.any isStar then .bad else .tup (trL M Z es))))
    refine ite_bad (fun _ => both_bad rfl) fun h => ?_
    exact both rfl (pe_tupD (hs (by simpa using h))) fun _ => rfl, ⟨fun _ _ _ _ z => (nomatch z), fun _ _ _ _ z => (nomatch z), fun _ _ _ z => (nomatch z), fun _ _ _ _ z => nomatch z⟩⟩
  | .Subscript a b p => ⟨s_sub (sE a).1 (sE b).1 (sE b).2, ⟨fun _ _ _ _ z => (nomatch z), fun _ _ _ _ z => (nomatch z), fun _ _ _ z => (nomatch z), fun _ _ _ _ z => nomatch z⟩⟩
  | .Call f as ks p => ⟨fun g k Z X E G => by
    have hs := sL as
    have hx := (sE f).2
    match f, as, ks, hs with
    | .Name x q, e :: es, [], hs => exact s_call G hs.1 (hs.2 e List.mem_cons_self).1 (hs.2 e List.mem_cons_self).2
    | .Name x q, [], _, _ => exact both_bad (by cases ks <;> rfl)
    | .Name x q, _ :: _, _ :: _, _ => exact both_bad rfl
    | .Constant _ _ _, _, _, _ => exact both_bad rfl
    | .BoolOp _ _ _, _, _, _ => exact both_bad rfl
    | .NamedExpr _ _ _, _, _, _ => exact both_bad rfl
    | .BinOp _ _ _ _, _, _, _ => exact both_bad rfl
    | .UnaryOp _ _ _, _, _, _ => exact both_bad rfl
    | .Lambda _ _ _ _, _, _, _ => exact both_bad rfl
    | .IfExp _ _ _ _, _, _, _ => exact both_bad rfl
    | .Dict _ _ _, _, _, _ => exact both_bad rfl
    | .Set _ _ _, _, _, _ => exact both_bad rfl
    | .ListComp _ _ _ _, _, _, _ => exact both_bad rfl
    | .SetComp _ _ _ _, _, _, _ => exact both_bad rfl
    | .DictComp _ _ _ _ _, _, _, _ => exact both_bad rfl
    | .GeneratorExp _ _ _ _, _, _, _ => exact both_bad rfl
    | .Await _ _, _, _, _ => exact both_bad rfl
    | .Yield _ _, _, _, _ => exact both_bad rfl
    | .YieldFrom _ _, _, _, _ => exact both_bad rfl
    | .Compare _ _ _ _, _, _, _ => exact both_bad rfl
    | .Call _ _ _ _, _, _, _ => exact both_bad rfl
    | .FormattedValue _ _ _ _, _, _, _ => exact both_bad rfl
    | .JoinedStr _ _, _, _, _ => exact both_bad rfl
    | .Attribute o m ap, [], [], _ =>
      have ho := hx.2.2.1 o m ap rfl
      show PE X _ (tP W X E (ev g false (if (ap.endLine == p.line) && !isCall0 o then (match mfOf m 0 with
        | some f => .meth f (tr M Z o) []
        | none => .bad) else .bad))) ∧ PT X _ (tPT W X E (ev g true (if (ap.endLine == p.line) && !isCall0 o then (match mfOf m 0 with
        | some f => .meth f (tr M Z o) []
        | none => .bad) else .bad)))
      refine ite_bad (fun h => ?_) fun _ => both_bad rfl
      rw [Bool.and_eq_true, Bool.not_eq_true'] at h
      cases hm : mfOf m 0 with
      | none => exact both_bad rfl
      | some mf => exact both rfl (pe_methD hm h.1 h.2 (ho _ _ Z X E G).1) fun _ => rfl
    | .Attribute o m ap, [e], [], hs =>
      have ho := hx.2.2.1 o m ap rfl
      have he := (hs.2 e List.mem_cons_self).1
      show PE X _ (tP W X E (ev g false (if (ap.endLine == p.line) && !isCall0 o && !isStar e then (match mfOf m 1 with
        | some f => .meth f (tr M Z o) [tr M Z e]
        | none => .bad) else .bad))) ∧ PT X _ (tPT W X E (ev g true (if (ap.endLine == p.line) && !isCall0 o && !isStar e then (match mfOf m 1 with
        | some f => .meth f (tr M Z o) [tr M Z e]
        | none => .bad) else .bad)))
      refine ite_bad (fun h => ?_) fun _ => both_bad rfl
      rw [Bool.and_eq_true, Bool.and_eq_true, Bool.not_eq_true', Bool.not_eq_true'] at h
      cases hm : mfOf m 1 with
      | none => exact both_bad rfl
      | some mf =>
        refine both rfl (L2.PE.imp (pe_methD1 hm h.1.1 h.1.2 h.2 (ho _ _ Z X E G).1 (he _ _ Z X E G).1) fun σ H Q ⟨B, env, gd, r, o⟩ => ⟨B, env, gd, r, ?_⟩) fun _ => rfl
        exact (congrArg (fun r => Out W X E B H r Q) meth1).mp o
    | .Attribute _ _ _, [_], _ :: _, _ => exact both_bad rfl
    | .Attribute _ _ _, _ :: _ :: _, _, _ => exact both_bad (by cases ks <;> rfl)
    | .Attribute _ _ _, [], _ :: _, _ => exact both_bad rfl
    | .Subscript _ _ _, _, _, _ => exact both_bad rfl
    | .Starred _ _, _, _, _ => exact both_bad rfl
    | .List _ _, _, _, _ => exact both_bad rfl
    | .Tuple _ _ _, _, _, _ => exact both_bad rfl
    | .Slice _ _ _ _, _, _, _ => exact both_bad rfl, ⟨fun _ _ _ _ z => (nomatch z), fun f' as' ks' q' z a ha => by
      cases z
      exact ((sL as).2 a ha).1, fun _ _ _ z => (nomatch z), fun _ _ _ _ z => nomatch z⟩⟩
  | .ListComp elt gens scope p => ⟨fun g k Z X E G => by
    match gens with
    | [⟨tg, iter, ifs, a⟩] =>
      have h0 := (sE elt).1
      have h1 := sE iter
      have h2 := fun a ha => ((sL ifs).2 a ha).1
      obtain ⟨fr, e1, h3, h5, h4⟩ := s_lc (pos := p) (scope := scope) (tg := tg) (a := a) G h0 h1.1 (sI_of h1.2) h2
      rw [e1]
      exact both rfl (pe_ofF h5 h3.pe) h4
    | [] => exact both_bad rfl
    | ⟨_, _, _, _⟩ :: _ :: _ => exact both_bad rfl, ⟨fun _ _ _ _ z => (nomatch z), fun _ _ _ _ z => (nomatch z), fun _ _ _ z => (nomatch z), fun _ _ _ _ z => nomatch z⟩⟩
  | .NamedExpr _ _ _ => ⟨fun g k Z X E G => both_bad rfl, ⟨fun _ _ _ _ z => (nomatch z), fun _ _ _ _ z => (nomatch z), fun _ _ _ z => (nomatch z), fun _ _ _ _ z => nomatch z⟩⟩
  | .Lambda params body scope p => ⟨fun g k Z X E G => both_bad rfl, ⟨fun _ _ _ _ z => (nomatch z), fun _ _ _ _ z => (nomatch z), fun _ _ _ z => (nomatch z), fun _ _ _ _ z => by
    cases z
    exact (sE body).1⟩⟩
  | .Dict _ _ _ => ⟨fun g k Z X E G => both_bad rfl, ⟨fun _ _ _ _ z => (nomatch z), fun _ _ _ _ z => (nomatch z), fun _ _ _ z => (nomatch z), fun _ _ _ _ z => nomatch z⟩⟩
  | .Set _ _ _ => ⟨fun g k Z X E G => both_bad rfl, ⟨fun _ _ _ _ z => (nomatch z), fun _ _ _ _ z => (nomatch z), fun _ _ _ z => (nomatch z), fun _ _ _ _ z => nomatch z⟩⟩
  | .SetComp _ _ _ _ => ⟨fun g k Z X E G => both_bad rfl, ⟨fun _ _ _ _ z => (nomatch z), fun _ _ _ _ z => (nomatch z), fun _ _ _ z => (nomatch z), fun _ _ _ _ z => nomatch z⟩⟩
  | .DictComp _ _ _ _ _ => ⟨fun g k Z X E G => both_bad rfl, ⟨fun _ _ _ _ z => (nomatch z), fun _ _ _ _ z => (nomatch z), fun _ _ _ z => (nomatch z), fun _ _ _ _ z => nomatch z⟩⟩
  | .GeneratorExp _ _ _ _ => ⟨fun g k Z X E G => both_bad rfl, ⟨fun _ _ _ _ z => (nomatch z), fun _ _ _ _ z => (nomatch z), fun _ _ _ z => (nomatch z), fun _ _ _ _ z => nomatch z⟩⟩
  | .Await _ _ => ⟨fun g k Z X E G => both_bad rfl, ⟨fun _ _ _ _ z => (nomatch z), fun _ _ _ _ z => (nomatch z), fun _ _ _ z => (nomatch z), fun _ _ _ _ z => nomatch z⟩⟩
  | .Yield _ _ => ⟨fun g k Z X E G => both_bad rfl, ⟨fun _ _ _ _ z => (nomatch z), fun _ _ _ _ z => (nomatch z), fun _ _ _ z => (nomatch z), fun _ _ _ _ z => nomatch z⟩⟩
  | .YieldFrom _ _ => ⟨fun g k Z X E G => both_bad rfl, ⟨fun _ _ _ _ z => (nomatch z), fun _ _ _ _ z => (nomatch z), fun _ _ _ z => (nomatch z), fun _ _ _ _ z => nomatch z⟩⟩
  | .FormattedValue _ _ _ _ => ⟨fun g k Z X E G => both_bad rfl, ⟨fun _ _ _ _ z => (nomatch z), fun _ _ _ _ z => (nomatch z), fun _ _ _ z => (nomatch z), fun _ _ _ _ z => nomatch z⟩⟩
  | .JoinedStr _ _ => ⟨fun g k Z X E G => both_bad rfl, ⟨fun _ _ _ _ z => (nomatch z), fun _ _ _ _ z => (nomatch z), fun _ _ _ z => (nomatch z), fun _ _ _ _ z => nomatch z⟩⟩
  | .Attribute o m p => ⟨fun g k Z X E G => both_bad rfl, ⟨fun _ _ _ _ z => (nomatch z), fun _ _ _ _ z => (nomatch z), fun _ _ _ z => by
    cases z
    exact (sE o).1, fun _ _ _ _ z => nomatch z⟩⟩
  | .Starred _ _ => ⟨fun g k Z X E G => both_bad rfl, ⟨fun _ _ _ _ z => (nomatch z), fun _ _ _ _ z => (nomatch z), fun _ _ _ z => (nomatch z), fun _ _ _ _ z => nomatch z⟩⟩
  | .Slice lo hi st p => ⟨fun g k Z X E G => both_bad rfl, ⟨fun lo' hi' st' q z => by
    cases z
    exact ⟨sO lo, sO hi⟩, fun _ _ _ _ z => (nomatch z), fun _ _ _ z => (nomatch z), fun _ _ _ _ z => nomatch z⟩⟩
termination_by structural e => e
theorem sL : ∀ (es : List Expr), SL W M es ∧ ∀ a ∈ es, SE W M a ∧ SX W M a
  | [] => ⟨fun g k Z X E G _ => pa_nilD, fun _ h => nomatch h⟩
  | e :: es => ⟨fun g k Z X E G h => by
    rw [List.any_cons, Bool.or_eq_false_iff] at h
    exact pa_consD h.1 ((sE e).1 _ _ Z X E G).1 ((sL es).1 _ _ Z X E G h.2), fun a ha => by
    rcases List.mem_cons.mp ha with q | q
    · rw [q]; exact sE e
    · exact (sL es).2 a q⟩
termination_by structural e => e
theorem sO : ∀ (o : Option Expr), SO W M o
  | none => fun g k Z X E G => po_noneD
  | some e => fun g k Z X E G => po_someD ((sE e).1 _ _ Z X E G).1
termination_by structural e => e
theorem sB : ∀ (es : List Expr), SB W M es
  | [] => fun op g k Z X E pos G => ⟨pe_bad fun _ => by cases op <;> rfl, ⟨fun wh pins s σ H Q I ⟨B, env, gd, r, o⟩ => False.elim (by cases op <;> exact o)⟩⟩
  | e :: es => fun op g k Z X E pos G => by
    have h1 := (sE e).1 _ _ Z X E G
    have h2 := sB es op _ _ Z X E pos G
    match op, es, h2 with
    | .And, [], _ => exact ⟨L2.pe_one h1.1, L2.pw_and1 h1.2⟩
    | .Or, [], _ => exact ⟨L2.pe_one h1.1, L2.pw_or1 h1.2⟩
    | .And, e2 :: es, h2 => exact ⟨pe_andD h1.1 h2.1, pw_andD h1.2 h2.2⟩
    | .Or, e2 :: es, h2 => exact ⟨pe_orD h1.1 h2.1, pw_orD h1.2 h2.2⟩
termination_by structural e => e
end
end
end Ev
/-! EvT: statements. -/
namespace Ev
open PySem PySem.Spec PyProof.Rows L2

/-- the slots hold what env says: data in the ground B; own lists new since H0, each at its own place, out of the ground -/
structure RepS (K : PySem.W.Frag) (H0 B H : Hp) (σ : L2.St) (env : Env) : Prop where
  len : σ.length = env.length
  dat : ∀ (i : Nat) (d : D), env[i]? = some (some (Sl.dat d)) → ∃ v : V, σ[i]? = some (some v) ∧ Rp K B v d
  own : ∀ (i : Nat) (ds : List D), env[i]? = some (some (Sl.own ds)) → ∃ (p : Addr) (vs : List V), σ[i]? = some (some (.ref p)) ∧ H0 p = none ∧ B p = none ∧ H p = some (.lst vs) ∧ RpAll K B vs ds
  apart : ∀ (i j : Nat) (ds es : List D) (p : Addr), env[i]? = some (some (Sl.own ds)) → env[j]? = some (some (Sl.own es)) → σ[i]? = some (some (.ref p)) → σ[j]? = some (some (.ref p)) → i = j
/-- within a def entered at (B0, H0): what stands in Bf stands -/
structure SInv (W : Wd) (K : PySem.W.Frag) (B0 H0 Bf B H : Hp) (σ : L2.St) (env : Env) : Prop where
  g0 : Gd W B0 H0
  st : Stp W B0 H0 B H
  fl : Same Bf B
  rep : RepS K H0 B H σ env
def finS (W : Wd) (K : PySem.W.Frag) (mg : Str → Option Value) (E : XK) (B0 H0 Bf : Hp) (r : RS) (D : Ends) : Prop := match r with
  | .nx env => ∀ σ B H, SInv W K B0 H0 Bf B H σ env → D.nx σ H
  | .bk env => ∀ σ B H, SInv W K B0 H0 Bf B H σ env → D.bk σ H
  | .ct env => ∀ σ B H, SInv W K B0 H0 Bf B H σ env → D.ct σ H
  | .rt d => ∀ v B H, Stp W B0 H0 B H → Rp K B v d → D.rt v H
  | .exc c => ∀ cls H, mg c = some cls → Ext W H0 H → W.J H → E cls none H
  | .bad => False
def tS (W : Wd) (X : Cx) (E : XK) (f : Env → RS) : TS := fun D σ H => ∃ B0 H0 Bf B env, SInv W X.K B0 H0 Bf B H σ env ∧ finS W X.K X.mg E B0 H0 Bf (f env) D
section
variable {W : Wd} {K : PySem.W.Frag} {mg : Str → Option Value} {E : XK} {B0 H0 Bf B H B1 H1 : Hp} {σ : L2.St} {env : Env}
theorem SInv.repE (s : SInv W K B0 H0 Bf B H σ env) : RepE K B σ env := ⟨s.rep.len, s.rep.dat⟩
theorem SInv.gd (s : SInv W K B0 H0 Bf B H σ env) : Gd W B H := s.st.gd
theorem SInv.step (s : SInv W K B0 H0 Bf B H σ env) (t : Stp W B H B1 H1) : SInv W K B0 H0 Bf B1 H1 σ env :=
  ⟨s.g0, s.st.trans t, s.fl.trans t.same, s.rep.len, fun i d e => by
    obtain ⟨v, h1, h2⟩ := s.rep.dat i d e
    exact ⟨v, h1, h2.mono t.same⟩, fun i ds e => by
    obtain ⟨p, vs, h1, h2, h3, h4, h5⟩ := s.rep.own i ds e
    exact ⟨p, vs, h1, h2, t.out p h3 (by rw [h4]; exact fun z => nomatch z), t.ext p _ h4 (s.g0.novol h2), h5.mono t.same⟩, s.rep.apart⟩
theorem get_set {α : Type} {l : List α} {i j : Nat} {a x : α} (h : (l.set i a)[j]? = some x) : (i = j ∧ x = a) ∨ (i ≠ j ∧ l[j]? = some x) := by
  by_cases e : i = j
  · subst e
    by_cases hl : i < l.length
    · rw [List.getElem?_set_self hl] at h
      exact .inl ⟨rfl, (Option.some.inj h).symm⟩
    · rw [List.getElem?_eq_none (by rw [List.length_set]; omega)] at h
      cases h
  · rw [List.getElem?_set_ne e] at h
    exact .inr ⟨e, h⟩
theorem SInv.set {i : Nat} {d : D} {v : V} (s : SInv W K B0 H0 Bf B H σ env) (r : Rp K B v d) : SInv W K B0 H0 Bf B H (σ.set i (some v)) (env.set i (some (.dat d))) := by
  refine ⟨s.g0, s.st, s.fl, by rw [List.length_set, List.length_set]; exact s.rep.len, fun j d' e => ?_, fun j ds e => ?_, fun j j' ds es p e1 e2 e3 e4 => ?_⟩
  · by_cases hj : i = j
    · subst hj
      by_cases hl : i < env.length
      · rw [List.getElem?_set_self hl] at e
        cases e
        exact ⟨v, by rw [List.getElem?_set_self (by rw [s.rep.len]; exact hl)], r⟩
      · rw [List.getElem?_eq_none (by rw [List.length_set]; omega)] at e
        cases e
    · rw [List.getElem?_set_ne hj] at e ⊢
      exact s.rep.dat j d' e
  · rcases get_set e with ⟨_, z⟩ | ⟨hj, e⟩
    · cases z
    · rw [List.getElem?_set_ne hj]
      exact s.rep.own j ds e
  · rcases get_set e1 with ⟨_, z⟩ | ⟨h1, e1⟩
    · cases z
    rcases get_set e2 with ⟨_, z⟩ | ⟨h2, e2⟩
    · cases z
    rw [List.getElem?_set_ne h1] at e3
    rw [List.getElem?_set_ne h2] at e4
    exact s.rep.apart j j' ds es p e1 e2 e3 e4
/-- a new list of its own -/
theorem SInv.setOwn {i : Nat} {ds : List D} {p : Addr} {vs : List V} (s : SInv W K B0 H0 Bf B H σ env) (t : Stp W B H B1 H1) (h0 : H p = none) (h1 : B1 p = none) (h2 : H1 p = some (.lst vs)) (r : RpAll K B1 vs ds) : SInv W K B0 H0 Bf B1 H1 (σ.set i (some (.ref p))) (env.set i (some (.own ds))) := by
  have s1 := s.step t
  have hp0 : H0 p = none := by
    cases e : H0 p with
    | none => rfl
    | some u => exact absurd h0 (s.st.occ (by rw [e]; exact fun z => nomatch z))
  refine ⟨s1.g0, s1.st, s1.fl, by rw [List.length_set, List.length_set]; exact s.rep.len, fun j d' e => ?_, fun j es e => ?_, fun j j' es es' q e1 e2 e3 e4 => ?_⟩
  · rcases get_set e with ⟨_, z⟩ | ⟨hj, e⟩
    · cases z
    · rw [List.getElem?_set_ne hj]
      exact s1.rep.dat j d' e
  · by_cases hj : i = j
    · subst hj
      by_cases hl : i < env.length
      · rw [List.getElem?_set_self hl] at e
        cases e
        exact ⟨p, vs, by rw [List.getElem?_set_self (by rw [s.rep.len]; exact hl)], hp0, h1, h2, r⟩
      · rw [List.getElem?_eq_none (by rw [List.length_set]; omega)] at e
        cases e
    · rw [List.getElem?_set_ne hj] at e ⊢
      exact s1.rep.own j es e
  · have old : ∀ (j : Nat) (es : List D) (q : Addr), env[j]? = some (some (Sl.own es)) → σ[j]? = some (some (.ref q)) → q ≠ p := fun j es q e e' z => by
      obtain ⟨q', vs', a1, a2, a3, a4, a5⟩ := s.rep.own j es e
      rw [e'] at a1
      cases a1
      rw [z, h0] at a4
      cases a4
    by_cases hj : i = j
    · by_cases hj' : i = j'
      · rw [← hj, ← hj']
      · exfalso
        subst hj
        rcases get_set e2 with ⟨z, _⟩ | ⟨_, e2⟩
        · exact hj' z
        rw [List.getElem?_set_ne hj'] at e4
        have hl : i < σ.length := by
          by_cases hl : i < σ.length
          · exact hl
          · rw [List.getElem?_eq_none (by rw [List.length_set]; omega)] at e3; cases e3
        rw [List.getElem?_set_self hl] at e3
        cases e3
        exact old j' es' p e2 e4 rfl
    · rcases get_set e1 with ⟨z, _⟩ | ⟨_, e1⟩
      · exact absurd z hj
      rw [List.getElem?_set_ne hj] at e3
      by_cases hj' : i = j'
      · exfalso
        subst hj'
        have hl : i < σ.length := by
          by_cases hl : i < σ.length
          · exact hl
          · rw [List.getElem?_eq_none (by rw [List.length_set]; omega)] at e4; cases e4
        rw [List.getElem?_set_self hl] at e4
        cases e4
        exact old j es p e1 e3 rfl
      · rcases get_set e2 with ⟨z, _⟩ | ⟨_, e2⟩
        · exact absurd z hj'
        rw [List.getElem?_set_ne hj'] at e4
        exact s.rep.apart j j' es es' q e1 e2 e3 e4
/-- an own list is written -/
theorem SInv.write {i : Nat} {ds es : List D} {p : Addr} {vs ws : List V} (s : SInv W K B0 H0 Bf B H σ env) (he : env[i]? = some (some (Sl.own ds))) (hs : σ[i]? = some (some (.ref p))) (h0 : H0 p = none) (h1 : B p = none) (h2 : H p = some (.lst vs)) (r : RpAll K B ws es) :
    SInv W K B0 H0 Bf B (upd H p (.lst ws)) σ (env.set i (some (.own es))) := by
  have hl : i < env.length := (List.getElem?_eq_some_iff.mp he).1
  refine ⟨s.g0, s.st.write h0 h2 h1 (s.g0.novol h0), s.fl, by rw [List.length_set]; exact s.rep.len, fun j d' e => ?_, fun j es' e => ?_, fun j j' es' es2 q e1 e2 e3 e4 => ?_⟩
  · rcases get_set e with ⟨_, z⟩ | ⟨hj, e⟩
    · cases z
    · exact s.rep.dat j d' e
  · by_cases hj : i = j
    · subst hj
      rw [List.getElem?_set_self hl] at e
      cases e
      exact ⟨p, ws, hs, h0, h1, upd_same, r⟩
    · rw [List.getElem?_set_ne hj] at e
      obtain ⟨q, vs', a1, a2, a3, a4, a5⟩ := s.rep.own j es' e
      have hq : q ≠ p := fun z => hj (s.rep.apart i j ds es' p he e hs (by rw [z] at a1; exact a1))
      exact ⟨q, vs', a1, a2, a3, by rw [upd_ne hq]; exact a4, a5⟩
  · have get : ∀ (j : Nat) (es' : List D), (env.set i (some (Sl.own es)))[j]? = some (some (Sl.own es')) → ∃ es2, env[j]? = some (some (Sl.own es2)) := fun j es' e => by
      rcases get_set e with ⟨z, _⟩ | ⟨_, e⟩
      · rw [← z]; exact ⟨ds, he⟩
      · exact ⟨es', e⟩
    obtain ⟨a, ha⟩ := get j es' e1
    obtain ⟨b, hb⟩ := get j' es2 e2
    exact s.rep.apart j j' a b q ha hb e3 e4
/-- one own list is given out -/
theorem SInv.frz1 (s : SInv W K B0 H0 Bf B H σ env) (j : Nat) : ∃ B', SInv W K B0 H0 Bf B' H σ (frz1 env j) := by
  unfold Ev.frz1
  split
  · rename_i ds he
    obtain ⟨p, vs, h1, h2, h3, h4, h5⟩ := s.rep.own j ds he
    have hl : j < env.length := (List.getElem?_eq_some_iff.mp he).1
    have st' := Stp.take s.g0 s.st h2 h4 h3 (s.g0.novol h2)
    have sm : Same B (upd B p (.lst vs)) := fun b u q => by
      have hb : b ≠ p := fun z => by rw [z, h3] at q; cases q
      rw [upd_ne hb]; exact q
    refine ⟨upd B p (.lst vs), s.g0, st', s.fl.trans sm, by rw [List.length_set]; exact s.rep.len, fun i d e => ?_, fun i es e => ?_, fun i i' es es2 q e1 e2 e3 e4 => ?_⟩
    · by_cases hi : j = i
      · subst hi
        rw [List.getElem?_set_self hl] at e
        cases e
        exact ⟨.ref p, h1, .lst (.inl (.inl upd_same)) (h5.mono sm)⟩
      · rw [List.getElem?_set_ne hi] at e
        obtain ⟨v, a, b⟩ := s.rep.dat i d e
        exact ⟨v, a, b.mono sm⟩
    · rcases get_set e with ⟨_, z⟩ | ⟨hi, e⟩
      · cases z
      · obtain ⟨q, ws, a1, a2, a3, a4, a5⟩ := s.rep.own i es e
        have hq : q ≠ p := fun z => hi (s.rep.apart j i ds es p he e h1 (by rw [z] at a1; exact a1))
        exact ⟨q, ws, a1, a2, by rw [upd_ne hq]; exact a3, a4, a5.mono sm⟩
    · rcases get_set e1 with ⟨_, z⟩ | ⟨_, e1⟩
      · cases z
      rcases get_set e2 with ⟨_, z⟩ | ⟨_, e2⟩
      · cases z
      exact s.rep.apart i i' es es2 q e1 e2 e3 e4
  · exact ⟨B, s⟩
theorem SInv.frz : ∀ (js : List Nat) {B : Hp} {env : Env}, SInv W K B0 H0 Bf B H σ env → ∃ B', SInv W K B0 H0 Bf B' H σ (frz env js)
  | [], B, env, s => ⟨B, s⟩
  | j :: js, B, env, s => by
    obtain ⟨B1, s1⟩ := s.frz1 j
    exact SInv.frz js s1
/-- all own lists are given out: a larger ground -/
theorem SInv.rel (s : SInv W K B0 H0 Bf B H σ env) : ∃ B', Stp W B0 H0 B' H ∧ Same B B' ∧ RepE K B' σ (rel env) := by
  classical
  let own : Addr → Prop := fun p => ∃ (i : Nat) (ds : List D), env[i]? = some (some (Sl.own ds)) ∧ σ[i]? = some (some (.ref p))
  have facts : ∀ p, own p → H0 p = none ∧ B p = none := fun p ⟨i, ds, e1, e2⟩ => by
    obtain ⟨q, vs, a1, a2, a3, a4, a5⟩ := s.rep.own i ds e1
    rw [e2] at a1
    cases a1
    exact ⟨a2, a3⟩
  let B' : Hp := fun p => if own p then H p else B p
  have inn : ∀ {p}, own p → B' p = H p := fun h => if_pos h
  have nin : ∀ {p}, ¬ own p → B' p = B p := fun h => if_neg h
  have sm : Same B B' := fun b u e => by
    by_cases h : own b
    · rw [(facts b h).2] at e; cases e
    · rw [nin h]; exact e
  refine ⟨B', ⟨s.st.ext, s.st.same.trans sm, ⟨s.st.gd.j, fun b u e => ?_, fun b hb => ?_⟩, fun q h1 h2 => ?_⟩, sm, ?_, fun i d e => ?_⟩
  · by_cases h : own b
    · rw [inn h] at e; exact e
    · rw [nin h] at e; exact s.st.gd.same b u e
  · by_cases h : own b
    · exact absurd hb (s.g0.novol (facts b h).1)
    · rw [nin h]; exact s.st.gd.vol b hb
  · by_cases h : own q
    · exact absurd (facts q h).1 h2
    · rw [nin h]; exact s.st.out q h1 h2
  · unfold Ev.rel
    rw [List.length_map]
    exact s.rep.len
  · unfold Ev.rel at e
    rw [List.getElem?_map] at e
    cases q : env[i]? with
    | none => rw [q] at e; cases e
    | some sl =>
      rw [q] at e
      cases sl with
      | none => cases e
      | some sl =>
        cases sl with
        | dat d' =>
          cases e
          obtain ⟨v, a, b⟩ := s.rep.dat i d q
          exact ⟨v, a, b.mono sm⟩
        | own ds =>
          cases e
          obtain ⟨p, vs, a1, a2, a3, a4, a5⟩ := s.rep.own i ds q
          exact ⟨.ref p, a1, .lst (.inl (.inl ((inn ⟨i, ds, q, a1⟩).trans a4))) (a5.mono sm)⟩
/-- behind a test over the larger ground -/
theorem SInv.back {B' B2 H2 : Hp} (s : SInv W K B0 H0 Bf B H σ env) (sm : Same B B') (t : Stp W B' H B2 H2) (g' : Gd W B' H) : SInv W K B0 H0 Bf B H2 σ env := by
  refine ⟨s.g0, ⟨s.st.ext.trans t.ext, s.st.same, ⟨t.gd.j, fun b u e => t.gd.same b u (t.same b u (sm b u e)), s.st.gd.vol⟩, s.st.out⟩, s.fl, s.rep.len, s.rep.dat, fun i ds e => ?_, s.rep.apart⟩
  obtain ⟨p, vs, h1, h2, h3, h4, h5⟩ := s.rep.own i ds e
  exact ⟨p, vs, h1, h2, h3, t.ext p _ h4 (s.g0.novol h2), h5⟩
/-- from a statement's end to an expression's -/
theorem out_of {r : R D} {f : D → RS} {D' : Ends} {Q : D → Hp → Hp → Prop} (s : SInv W K B0 H0 Bf B H σ env) (ex : Ext W H0 H) (o : finS W K mg E B0 H0 Bf (r.toS f) D') (h : ∀ d, r = .ok d → finS W K mg E B0 H0 Bf (f d) D' → ∀ B1 H1, Stp W B H B1 H1 → Q d B1 H1) : OutG W mg E B H r Q := by
  cases r with
  | ok d => exact h d rfl o
  | exc c => exact fun cls H' e x j => o cls H' e (ex.trans x) j
  | bad => exact o
end
end Ev
/-! EvT2: new lists; the rules of the small statements. -/
namespace Ev
open PySem PySem.Spec PyProof.Rows L2
section
variable {W : Wd} {g : G} {M : Nm} {k : Nat} {Z : Sc} {X : Cx} {E : XK}
/-! ### expressions whose list is new -/
/-- what is wanted of a new list that is made at H -/
abbrev NewP (X : Cx) (H : Hp) (Q : VK) : D → Hp → Hp → Prop := fun d B' H' => ∃ ds : List D, d = PyData.list ds ∧ ∀ (p : Addr) (vs : List V), H p = none → B' p = none → H' p = some (.lst vs) → RpAll X.K B' vs ds → Q (.ref p) H'
theorem new_at {B H H0 : Hp} {ds : List D} {vs : List V} {Q : VK} (gd : Gd W B H) (rv : RpAll X.K B vs ds) (hn : ∀ p, H p = none → H0 p = none) (o : OutG W X.mg E B H (.ok (PyData.list ds)) (NewP X H0 Q)) : ∀ p, H p = none → Q (.ref p) (upd H p (.lst vs)) := fun p hp => by
  obtain ⟨es, e, q⟩ := o _ _ (Stp.newH gd (.lst vs) hp)
  cases e
  exact q p vs (hn p hp) (gd.free hp) upd_same rv
theorem Stp.back {B H B1 H1 : Hp} (st : Stp W B H B1 H1) {p : Addr} (h : H1 p = none) : H p = none := by
  cases e : H p with
  | none => rfl
  | some u => exact absurd h (st.occ (by rw [e]; exact fun z => nomatch z))
def rAddF (W : Wd) (X : Cx) (E : XK) : R2 := fun x y H Q => ∃ B d e H0, (∀ p, H p = none → H0 p = none) ∧ Gd W B H ∧ Rp X.K B x d ∧ Rp X.K B y e ∧ OutG W X.mg E B H (binD .Add d e) (NewP X H0 Q)
theorem opr_addF : OpR X (binaryOp .Add) (rAddF W X E) := by
  intro pins s σ H x y v u Q I rx ry ⟨B, d, e, H0, hn, gd, rd, re, o⟩
  cases rd with
  | @lst a xs ds ha hx =>
    cases re with
    | @lst b ys es hb hy =>
      obtain ⟨hz, o⟩ := OutG.ite o
      exact op_catR pins s σ H _ _ v u Q I rx ry ⟨a, b, xs, ys, rfl, rfl, SqL.lift gd ha, SqL.lift gd hb, by rw [lim_eq, hx.length, hy.length]; exact hz, new_at gd (hx.append hy) hn o⟩
    | _ => exact False.elim o
  | int i =>
    cases re with
    | int j => exact False.elim (by obtain ⟨_, z, _⟩ := OutG.now gd o; cases z)
    | _ => exact False.elim o
  | str i =>
    cases re with
    | str j =>
      obtain ⟨hz, o⟩ := OutG.ite o
      exact False.elim (by obtain ⟨_, z, _⟩ := OutG.now gd o; cases z)
    | _ => exact False.elim o
  | tup ha hx =>
    cases re with
    | tup hb hy =>
      obtain ⟨hz, o⟩ := OutG.ite o
      exact False.elim (by obtain ⟨_, z, _⟩ := OutG.now gd o; cases z)
    | _ => exact False.elim o
  | _ => exact False.elim (by cases re <;> exact o)
theorem pe_addF {a b : Expr} {fa fb : Env → R D} {pos : Pos} (ha : PE X a (tP W X E fa)) (hb : PE X b (tP W X E fb)) : PE X (.BinOp a .Add b pos) (tF W X E fun env => fa env >>= fun x => fb env >>= fun y => binD .Add x y) :=
  (L2.pe_op opr_addF ha hb).imp fun σ H Q ⟨B, env, gd, r, o⟩ => ⟨B, env, gd, r, o.bind fun d B1 H1 _ st o1 v rv =>
    ⟨B1, env, st.gd, r.mono st.same, o1.bind fun d2 B2 H2 _ st2 o2 v2 rv2 => ⟨B2, d, d2, H, fun p hp => st.back (st2.back hp), st2.gd, rv.mono st2.same, rv2, o2⟩⟩⟩
def rCutF (W : Wd) (X : Cx) (E : XK) : V → Option Int → Option Int → Hp → VK → Prop := fun x lo hi H Q => ∃ B d H0, (∀ p, H p = none → H0 p = none) ∧ Gd W B H ∧ Rp X.K B x d ∧ OutG W X.mg E B H (cutD d lo hi) (NewP X H0 Q)
theorem opr_cutF : SlR X (rCutF W X E) := by
  intro pins s σ H x v vl vu lo hi sl Q I rx hs pl pu ⟨B, d, H0, hn, gd, rd, o⟩
  cases rd with
  | @lst a xs ds ha hx => exact sl_list pins s σ H _ v vl vu lo hi sl Q I rx hs pl pu ⟨a, xs, rfl, SqL.lift gd ha, new_at gd (hx.cut lo hi) hn o⟩
  | @tup a xs ds ha hx => exact False.elim (by obtain ⟨_, z, _⟩ := OutG.now gd o; cases z)
  | str z =>
    obtain ⟨hz, o⟩ := OutG.ite o
    exact False.elim (by obtain ⟨_, z, _⟩ := OutG.now gd o; cases z)
  | _ => exact False.elim o
theorem pe_cutF {a : Expr} {lo hi : Option Expr} {fa : Env → R D} {fl fh : Env → R (Option Int)} {p2 pos : Pos} (ha : PE X a (tP W X E fa)) (hl : PO X lo (tPO W X E fl)) (hh : PO X hi (tPO W X E fh)) :
    PE X (.Subscript a (.Slice lo hi none p2) pos) (tF W X E fun env => fa env >>= fun x => fl env >>= fun l => fh env >>= fun h => cutD x l h) :=
  (L2.pe_slice opr_cutF ha hl hh).imp fun σ H Q ⟨B, env, gd, r, o⟩ => ⟨B, env, gd, r, o.bind fun d B1 H1 _ st o1 v rv =>
    ⟨B1, env, st.gd, r.mono st.same, o1.bind fun l B2 H2 _ st2 o2 => ⟨B2, env, st2.gd, (r.mono st.same).mono st2.same, o2.bind fun h B3 H3 _ st3 o3 => ⟨B3, d, H, fun p hp => st.back (st2.back (st3.back hp)), st3.gd, (rv.mono st2.same).mono st3.same, o3⟩⟩⟩⟩
theorem fE {e : Expr} (G : Good W g M k Z X E) (hx : freshX e = true) (hf : fresh (tr M Z e) = true) : PE X e (tF W X E (ev g false (tr M Z e))) := by
  cases e with
  | List es p =>
    have h := (sL es).1 _ _ Z X E G
    by_cases hs : es.any isStar = true
    · exact absurd (show fresh (if es.any isStar then Ev.E.bad else .lst (trL M Z es)) = true from hf) (by rw [if_pos hs]; exact fun z => nomatch z)
    · have q := pe_lstF (pos := p) (h (by simpa using hs))
      show PE X _ (tF W X E (ev g false (if es.any isStar then Ev.E.bad else .lst (trL M Z es))))
      rw [if_neg hs]
      exact q
  | BinOp a op b p =>
    cases op with
    | Add => exact pe_addF ((sE a).1 _ _ Z X E G).1 ((sE b).1 _ _ Z X E G).1
    | _ => cases hf
  | Subscript a b p =>
    cases b with
    | Slice lo hi st q =>
      have hf' : fresh (if st.isNone then Ev.E.cut (tr M Z a) (trO M Z lo) (trO M Z hi) else if isRevS lo hi st then .rev (tr M Z a) else .bad) = true := hf
      cases st with
      | none => exact pe_cutF ((sE a).1 _ _ Z X E G).1 (sO lo _ _ Z X E G) (sO hi _ _ Z X E G)
      | some st =>
        rw [if_neg (by simp)] at hf'
        split at hf' <;> cases hf'
    | _ => cases hf
  | Call f as ks p =>
    have hs := sL (W := W) (M := M) as
    cases f with
    | Name x q =>
      cases as with
      | nil => cases ks <;> cases hf
      | cons e es =>
        cases ks with
        | cons _ _ => cases hf
        | nil =>
          have hf' : fresh (trCall M Z x e es (tr M Z e) (trL M Z (e :: es)) (trLam M Z e)) = true := hf
          show PE X _ (tF W X E (ev g false (trCall M Z x e es (tr M Z e) (trL M Z (e :: es)) (trLam M Z e))))
          unfold trCall at hf' ⊢
          split at hf'
          · cases hf'
          rename_i hst
          rw [if_neg hst]
          have hst' : (e :: es).any isStar = false := by simpa using hst
          have hes := hst'
          rw [List.any_cons, Bool.or_eq_false_iff] at hes
          split at hf'
          · rename_i hg
            rw [if_pos hg]
            split at hf'
            · split at hf' <;> cases hf'
            rename_i htd
            rw [if_neg htd]
            split at hf'
            · cases hf'
            rename_i hfn
            rw [if_neg hfn]
            split at hf'
            · rename_i hb
              rw [if_pos hb]
              have hbl : blB M Z x = true := by unfold blB; rw [hg, hb]; rfl
              cases hbf : bfOf x (es.length + 1) with
              | some b =>
                rw [hbf] at hf'
                rcases bf_len hbf with ⟨hn, ⟨rfl, rfl⟩ | ⟨rfl, rfl⟩ | ⟨rfl, rfl⟩ | ⟨rfl, rfl⟩ | ⟨rfl, rfl⟩ | ⟨rfl, rfl⟩ | ⟨rfl, rfl⟩ | ⟨rfl, rfl⟩ | ⟨rfl, rfl⟩ | ⟨rfl, rfl⟩ | ⟨rfl, rfl⟩⟩ | ⟨hn, rfl, rfl⟩ <;> first | (cases hf'; done) | skip
                have h0 : es = [] := List.eq_nil_of_length_eq_zero (by omega)
                subst h0
                exact pe_listF G hbl hes.1 (hs.1 _ _ Z X E G hst')
              | none =>
                rw [hbf] at hf'
                dsimp only at hf'
                split at hf'
                · split at hf'
                  · split at hf'
                    · split at hf' <;> cases hf'
                    · cases hf'
                  · cases hf'
                · cases hf'
            · cases hf'
          · cases hf'
    | _ => cases hx
  | ListComp elt gens scope p =>
    match gens with
    | [⟨tg, iter, ifs, a⟩] =>
      obtain ⟨fr, e1, h3, h5, h4⟩ := s_lc (pos := p) (scope := scope) (tg := tg) (a := a) G (sE elt).1 (sE iter).1 (sI_of (sE iter).2) (fun a ha => ((sL ifs).2 a ha).1)
      rw [e1]
      exact h3.pe
    | [] => cases hf
    | ⟨_, _, _, _⟩ :: _ :: _ => cases hf
  | _ => cases hx

/-! ### small statements -/
theorem ps_bad {st : Stmt} {f : Env → RS} (h : ∀ env, f env = .bad) : PS X st (tS W X E f) := ⟨fun pins s σ H D I ⟨B0, H0, Bf, B, env, si, o⟩ => by rw [h env] at o; exact o.elim⟩
/-- no comprehension is dropped or stored by a swap -/
theorem swaps_none {e : Expr} (h : isComp e = false) (t : Option Expr) (l : Nat) (env : PySem.Env) : swapsWith e t l env = pure false := by
  cases e <;> first | rfl | (cases h; done)
theorem asg_read {i : Nat} {f : Env → R D} {D' : Ends} {σ : L2.St} {H : Hp} (h : tS W X E (fun env => (f env).toS fun d => .nx (env.set i (some (.dat d)))) D' σ H) : tAsg (tP W X E f) (gName i) D' σ H := by
  obtain ⟨B0, H0, Bf, B, env, si, o⟩ := h
  exact ⟨B, env, si.gd, si.repE, out_of si si.st.ext o fun d _ o1 B1 H1 st v rv => o1 _ B1 H1 ((si.step st).set rv)⟩
theorem asgo_read {i : Nat} {f : Env → R D} {D' : Ends} {σ : L2.St} {H : Hp} (h : tS W X E (fun env => (f env).toS fun d => match d with
      | .list ds => .nx (env.set i (some (.own ds)))
      | _ => .bad) D' σ H) : tAsg (tF W X E f) (gName i) D' σ H := by
  obtain ⟨B0, H0, Bf, B, env, si, o⟩ := h
  refine ⟨B, env, si.gd, si.repE, out_of si si.st.ext o fun d e o1 B1 H1 st => ?_⟩
  clear e
  cases d with
  | list ds => exact ⟨ds, rfl, fun p vs h0 h1 h2 rv => o1 _ B1 H1 (si.setOwn st h0 h1 h2 rv)⟩
  | _ => exact False.elim o1
/-- a list of its own given out ahead -/
theorem ps_fz {st : Stmt} {s : S} (js : List Nat) (h : PS X st (tS W X E (ex1 g s))) : PS X st (tS W X E (ex1 g (.fz js s))) := L2.PS.imp h fun D σ H ⟨B0, H0, Bf, B, env, si, o⟩ => by
  obtain ⟨B', s'⟩ := SInv.frz js si
  exact ⟨B0, H0, Bf, B', _, s', o⟩
theorem ps_fzd {st : Stmt} {s : S} (O : List Nat) (p : Nat → Bool) (h : PS X st (tS W X E (ex1 g s))) : PS X st (tS W X E (ex1 g (fzd O p s))) := by
  unfold fzd
  split
  · exact h
  · exact ps_fz _ h
end
end Ev
/-! EvT3: the rules of the statements. -/
namespace Ev
open PySem PySem.Spec PyProof.Rows L2
mutual
theorem bindT_own : ∀ (t : Tg) (d : D) (env env' : Env), bindT t d env = .ok env' → ∀ (i : Nat) (es : List D), env'[i]? = some (some (Sl.own es)) → env[i]? = some (some (Sl.own es)) ∧ i ∉ slotsT t
  | .nm j, d, env, env', h, i, es, e => by
    have h' : R.ok (env.set j (some (.dat d))) = R.ok env' := h
    cases h'
    rcases get_set e with ⟨_, z⟩ | ⟨hj, e⟩
    · cases z
    · exact ⟨e, fun z => hj (List.mem_singleton.mp z).symm⟩
  | .tp ts, .tuple ds, env, env', h, i, es, e => bindTs_own ts ds env env' h i es e
  | .tp _, .none, _, _, h, _, _, _ => nomatch h
  | .tp _, .bool _, _, _, h, _, _, _ => nomatch h
  | .tp _, .int _, _, _, h, _, _, _ => nomatch h
  | .tp _, .str _, _, _, h, _, _, _ => nomatch h
  | .tp _, .list _, _, _, h, _, _, _ => nomatch h
  | .tp _, .dict _, _, _, h, _, _, _ => nomatch h
theorem bindTs_own : ∀ (t : List Tg) (d : List D) (env env' : Env), bindTs t d env = .ok env' → ∀ (i : Nat) (es : List D), env'[i]? = some (some (Sl.own es)) → env[i]? = some (some (Sl.own es)) ∧ i ∉ slotsTs t
  | [], [], env, env', h, i, es, e => by
    have h' : R.ok env = R.ok env' := h
    cases h'
    exact ⟨e, fun z => nomatch z⟩
  | [], _ :: _, _, _, h, _, _, _ => nomatch h
  | _ :: _, [], _, _, h, _, _, _ => nomatch h
  | t :: ts, d :: ds, env, env', h, i, es, e => by
    have h' : (bindT t d env >>= bindTs ts ds) = .ok env' := h
    cases e1 : bindT t d env with
    | exc c => rw [e1] at h'; cases h'
    | bad => rw [e1] at h'; cases h'
    | ok env1 =>
      rw [e1] at h'
      obtain ⟨a1, a2⟩ := bindTs_own ts ds env1 env' h' i es e
      obtain ⟨b1, b2⟩ := bindT_own t d env env1 e1 i es a1
      exact ⟨b1, fun z => (List.mem_append.mp z).elim b2 a2⟩
end
section
variable {W : Wd} {K : PySem.W.Frag} {mg : Str → Option Value} {E : XK} {B0 H0 Bf B H B1 H1 Bg : Hp} {σ : L2.St} {env : Env}
theorem SInv.floor (s : SInv W K B0 H0 Bf B H σ env) (h : Same Bg Bf) : SInv W K B0 H0 Bg B H σ env := ⟨s.g0, s.st, h.trans s.fl, s.rep⟩
theorem SInv.here (s : SInv W K B0 H0 Bf B H σ env) : SInv W K B0 H0 B B H σ env := ⟨s.g0, s.st, Same.refl B, s.rep⟩
/-- behind a target -/
theorem SInv.bound {t : Tg} {d : D} {env' : Env} {σ' : L2.St} (s : SInv W K B0 H0 Bf B H σ env) (hb : bindT t d env = .ok env') (st : Stp W B H B1 H1) (r : RepE K B1 σ' env') (k : Keep (slotsT t) σ σ') : SInv W K B0 H0 Bf B1 H1 σ' env' := by
  have s1 := s.step st
  refine ⟨s1.g0, s1.st, s1.fl, r.1, r.2, fun i ds e => ?_, fun i j ds es p e1 e2 e3 e4 => ?_⟩
  · obtain ⟨h1, h2⟩ := bindT_own t d env env' hb i ds e
    rw [k.2 i h2]
    exact s1.rep.own i ds h1
  · obtain ⟨h1, h2⟩ := bindT_own t d env env' hb i ds e1
    obtain ⟨h3, h4⟩ := bindT_own t d env env' hb j es e2
    rw [k.2 i h2] at e3
    rw [k.2 j h4] at e4
    exact s1.rep.apart i j ds es p h1 h3 e3 e4
end
section
variable {W : Wd} {g : G} {M : Nm} {k : Nat} {Z : Sc} {X : Cx} {E : XK}
/-! ### storing under a name -/
theorem asg_ps (G : Good W g M k Z X E) (hk : Z.sc.kind = .function) {T : TE} {x : Str} {px pos : Pos} {e : Expr} {i : Nat} (he : PE X e T) (hl : locB Z x = true) (hok : lcOk Z x px e = true) (hi : idxN Z.N x = some i)
    (hlc : ∀ elt gens scope p, e = .ListComp elt gens scope p → Z.sc.names.lookup x = some .local → swapsWith e (some (.Name x px)) pos.line X.env = pure true → PS X (.Assign [.Name x px] e pos) (tAsg T (gName i))) : PS X (.Assign [.Name x px] e pos) (tAsg T (gName i)) := by
  obtain ⟨l1, l2⟩ := loc_of G hl
  have hN : X.N.Nodup := by rw [G.N]; exact G.nd
  have hi' : X.N[i]? = some x := by rw [G.N]; exact idxN_get hi
  by_cases hc : isComp e = true
  · cases e with
    | ListComp elt gens scope p =>
      have hok' : (match Z.sc.names.lookup x with
        | some .local => px.line == p.line && !(scope.names.any fun y => y.1 == x && (y.2 == .local || y.2 == .cell))
        | some .cell => true
        | _ => false) = true := hok
      split at hok'
      · rename_i hx
        rw [Bool.and_eq_true, Bool.not_eq_true'] at hok'
        exact hlc _ _ _ _ rfl hx (L2.sw_true (by rw [G.sc]; exact hk) (by rw [G.sc]; exact hx) hok'.1 hok'.2)
      · rename_i hx
        refine L2.ps_set hN hi' l1 he ?_ l2
        have ky : X.env.kindOf x = some .cell := by show X.env.scope.names.lookup x = _; rw [G.sc]; exact hx
        unfold swapsWith
        simp only [ky]
        rw [show (some NameKind.cell == some NameKind.local) = false from rfl, Bool.and_false, Bool.false_and, Bool.false_and]
      · cases hok'
    | SetComp _ _ _ _ => cases hok
    | DictComp _ _ _ _ _ => cases hok
    | _ => cases hc
  · exact L2.ps_set hN hi' l1 he (swaps_none (by simpa using hc) _ _ _) l2
theorem set_ps (G : Good W g M k Z X E) (hk : Z.sc.kind = .function) {x : Str} {px pos : Pos} {e : Expr} {i : Nat} (hl : locB Z x = true) (hok : lcOk Z x px e = true) (hi : idxN Z.N x = some i) : PS X (.Assign [.Name x px] e pos) (tS W X E (ex1 g (.set i (tr M Z e)))) := by
  refine L2.PS.imp (asg_ps G hk ((sE e).1 _ _ Z X E G).1 hl hok hi ?_) fun D σ H h => asg_read h
  rintro elt gens scope p rfl hx hsw
  match gens with
  | [⟨tg, iter, ifs, a⟩] =>
    obtain ⟨fr, e1, h3, h5, h4⟩ := s_lc (pos := p) (scope := scope) (tg := tg) (a := a) G (sE elt).1 (sE iter).1 (sI_of (sE iter).2) (fun a ha => ((sL ifs).2 a ha).1)
    rw [e1]
    exact L2.PS.imp (h3.ps x px pos i hx hi hsw) fun D σ H h => tF_of h5 h
  | [] => exact ⟨fun pins s σ H D I ⟨B, env, gd, r, o⟩ => False.elim o⟩
  | ⟨_, _, _, _⟩ :: _ :: _ => exact ⟨fun pins s σ H D I ⟨B, env, gd, r, o⟩ => False.elim o⟩
theorem seto_ps (G : Good W g M k Z X E) (hk : Z.sc.kind = .function) {x : Str} {px pos : Pos} {e : Expr} {i : Nat} (hl : locB Z x = true) (hok : lcOk Z x px e = true) (hi : idxN Z.N x = some i) (hfx : freshX e = true) (hf : fresh (tr M Z e) = true) :
    PS X (.Assign [.Name x px] e pos) (tS W X E (ex1 g (.seto i (tr M Z e)))) := by
  refine L2.PS.imp (asg_ps G hk (fE G hfx hf) hl hok hi ?_) fun D σ H h => asgo_read h
  rintro elt gens scope p rfl hx hsw
  match gens with
  | [⟨tg, iter, ifs, a⟩] =>
    obtain ⟨fr, e1, h3, h5, h4⟩ := s_lc (pos := p) (scope := scope) (tg := tg) (a := a) G (sE elt).1 (sE iter).1 (sI_of (sE iter).2) (fun a ha => ((sL ifs).2 a ha).1)
    rw [e1]
    exact h3.ps x px pos i hx hi hsw
  | [] => exact ⟨fun pins s σ H D I ⟨B, env, gd, r, o⟩ => False.elim o⟩
  | ⟨_, _, _, _⟩ :: _ :: _ => exact ⟨fun pins s σ H D I ⟨B, env, gd, r, o⟩ => False.elim o⟩
/-! ### unpacking -/
theorem unp_ps (G : Good W g M k Z X E) {ts : List Expr} {kk : Nat} {pt pos : Pos} {e : Expr} {t : List Tg} (h1 : isTup e = false) (h2 : isComp e = false) (ht : trTs Z ts = some t) : PS X (.Assign [.Tuple ts kk pt] e pos) (tS W X E (ex1 g (.asg (.tp t) (tr M Z e)))) := by
  have hp := pg_tr (W := W) (E := E) G (.Tuple ts kk pt) (.tp t) (by show (trTs Z ts).map Tg.tp = _; rw [ht]; rfl)
  refine L2.PS.imp (L2.ps_asg ((sE e).1 _ _ Z X E G).1 hp (swaps_none h2 (some (.Tuple ts kk pt)) pos.line X.env) (by cases e <;> first | rfl | (cases h1; done))) fun D σ H ⟨B0, H0, Bf, B, env, si, o⟩ => ?_
  refine ⟨B, env, si.gd, si.repE, out_of si si.st.ext o fun d _ o1 B1 H1 st v rv => ?_⟩
  have s1 := si.step st
  refine ⟨B1, env, d, s1.gd, s1.repE, rv, ?_⟩
  have o2 : finS W X.K X.mg E B0 H0 Bf ((bindT (.tp t) d env).toE) D := o1
  cases eb : bindT (.tp t) d env with
  | exc c => exact absurd eb (bindT_noexc _ _ _ _)
  | bad => rw [eb] at o2; exact o2.elim
  | ok env' =>
    rw [eb] at o2
    exact fun σ' B' H' st' re kp => o2 σ' B' H' (s1.bound eb st' re kp)
/-! ### two at once -/
theorem par_ps (G : Good W g M k Z X E) (hk : Z.sc.kind = .function) {x y : Str} {px py pt pt2 pos : Pos} {kk k2 : Nat} {a b : Expr} {i j : Nat} (hx : isLocal Z x = true) (hy : isLocal Z y = true) (hne : x ≠ y) (hl : (px.line == py.line) = true) (sa : isStar a = false) (sb : isStar b = false)
    (hf : [a, b].all (foldedForSure 8) = false) (hc : [a, b].all (constantsAlone 8) = false) (hi : idxN Z.N x = some i) (hj : idxN Z.N y = some j) : PS X (.Assign [.Tuple [.Name x px, .Name y py] kk pt] (.Tuple [a, b] k2 pt2) pos) (tS W X E (ex1 g (.par [i, j] [tr M Z a, tr M Z b]))) := by
  have lx : X.env.scope.names.lookup x = some .local := by
    rw [G.sc]
    unfold isLocal at hx
    split at hx
    · assumption
    · cases hx
  have ly : X.env.scope.names.lookup y = some .local := by
    rw [G.sc]
    unfold isLocal at hy
    split at hy
    · assumption
    · cases hy
  have ix : X.N[i]? = some x := by rw [G.N]; exact idxN_get hi
  have iy : X.N[j]? = some y := by rw [G.N]; exact idxN_get hj
  have hij : i ≠ j := fun z => by rw [z, iy] at ix; exact hne (Option.some.inj ix).symm
  have hbk : X.env.blockKind = .function := by unfold PySem.Env.blockKind; rw [G.sc, hk]; rfl
  have pa := (sL [a, b]).1 _ _ Z X E G (by simp [sa, sb])
  have hst : ∀ e : Expr, isStar e = false → (match e with | .Starred .. => true | _ => false) = false := fun e h => by cases e <;> first | rfl | (cases h; done)
  have kx : X.env.kindOf x = some .local := lx
  have ky : X.env.kindOf y = some .local := ly
  have hsw : swappedStores [.Tuple [.Name x px, .Name y py] kk pt] (.Tuple [a, b] k2 pt2) X.env = pure (some [x, y]) := by
    have hl' : py.line = px.line := ((beq_iff_eq).mp hl).symm
    have hny : (y == x) = false := by simpa using fun z => hne z.symm
    unfold swappedStores
    simp only [hbk, kx, ky, hf, hc]
    have q1 := hst a sa
    have q2 := hst b sb
    simp [q1, q2, Expr.pos, hl', kx, ky, List.eraseDups, List.eraseDupsBy, List.eraseDupsBy.loop, hny]
    rintro (h | h)
    · exact absurd (q1.symm.trans h) Bool.false_ne_true
    · exact absurd (q2.symm.trans h) Bool.false_ne_true
  refine L2.PS.imp (L2.ps_par G.calm (by rw [G.N]; exact G.nd) ix iy hij lx ly pa hsw) fun D σ H ⟨B0, H0, Bf, B, env, si, o⟩ => ?_
  refine ⟨B, env, si.gd, si.repE, ?_⟩
  have o1 : finS W X.K X.mg E B0 H0 Bf (match evL g (trL M Z [a, b]) env with
      | .ok ds => (setAll env [i, j] ds).toE
      | .exc c => .exc c
      | .bad => .bad) D := o
  cases e : evL g (trL M Z [a, b]) env with
  | exc c => rw [e] at o1; exact fun cls H' ec x j => o1 cls H' ec (si.st.ext.trans x) j
  | bad => rw [e] at o1; exact o1.elim
  | ok ds =>
    rw [e] at o1
    intro B1 H1 st vs rvs
    match ds, rvs with
    | [d1, d2], .cons (v := v) r1 (.cons (v := w) r2 .nil) => exact ⟨v, w, rfl, o1 _ B1 H1 (((si.step st).set r1).set r2)⟩
    | [], _ => exact o1.elim
    | [_], _ => exact o1.elim
    | _ :: _ :: _ :: _, _ => exact o1.elim
end
end Ev
/-! EvT4: append, pop, return, if, for, raise. -/
namespace Ev
open PySem PySem.Spec PyProof.Rows L2
section
variable {W : Wd} {g : G} {M : Nm} {k : Nat} {Z : Sc} {X : Cx} {E : XK}
theorem vis_of (G : Good W g M k Z X E) {x : Str} (h : visB (Z.sc.names.lookup x) = true) : Vis X.env.scope x := by
  show X.env.scope.names.lookup x = _ ∨ X.env.scope.names.lookup x = _ ∨ X.env.scope.names.lookup x = _
  rw [G.sc]; exact lk_vis h
theorem app_ps (G : Good W g M k Z X E) {x : Str} {px ap cp pos : Pos} {e : Expr} {i : Nat} (hl : (ap.endLine == cp.line) = true) (hv : visB (Z.sc.names.lookup x) = true) (hd : dunder x = false) (hs : isStar e = false) (hi : idxN Z.N x = some i) :
    PS X (.Expr (.Call (.Attribute (.Name x px) "append" ap) [e] [] cp) pos) (tS W X E (ex1 g (.app i (tr M Z e)))) := by
  have hd' := dn hd
  have hp := L2.pe_var (X := X) (pos := px) (i := i) (by rw [G.N]; exact idxN_get hi) (vis_of G hv) hd'.1 hd'.2.1
  have ha := pa_one hs ((sE e).1 _ _ Z X E G).1
  have hst : starEach [e] X.env = [(false, eval e X.env)] := star_step hs X.env
  refine L2.PS.imp (L2.ps_expr (L2.pe_bm PySem.F.plainAttrs_list PySem.F.slot_list_append PySem.F.type_list_append mt_append hp ha rfl (by rw [hst]; rfl) hl hst rfl)) fun D σ H ⟨B0, H0, Bf, B, env, si, o⟩ => ?_
  have o1 : finS W X.K X.mg E B0 H0 Bf (match env[i]? with
      | some (some (.own ds)) => (ev g false (tr M Z e) env).toS fun d => if ds.length < lim then .nx (env.set i (some (.own (ds ++ [d])))) else .bad
      | _ => .bad) D := o
  split at o1
  · rename_i ds he
    obtain ⟨p, vs, h1, h2, h3, h4, h5⟩ := si.rep.own i ds he
    refine ⟨.ref p, h1, .inl ⟨rfl, vs, SqL.of h4⟩, B, env, si.gd, si.repE, ?_⟩
    dsimp only
    cases ev' : ev g false (tr M Z e) env with
    | bad => rw [ev'] at o1; exact o1.elim
    | exc c => rw [ev'] at o1; exact fun cls H' ec x j => o1 cls H' ec (si.st.ext.trans x) j
    | ok d =>
      rw [ev'] at o1
      have o2 : finS W X.K X.mg E B0 H0 Bf (if ds.length < lim then .nx (env.set i (some (.own (ds ++ [d])))) else .bad) D := o1
      split at o2
      · rename_i hz
        intro B1 H1 st vs' rvs
        match vs', rvs with
        | [v], .cons rv .nil =>
          have s1 := si.step st
          obtain ⟨q, ws, a1, a2, a3, a4, a5⟩ := s1.rep.own i ds he
          rw [h1] at a1
          cases a1
          refine ⟨p, ws, v, rfl, rfl, a4, by rw [lim_eq, a5.length]; exact hz, ?_⟩
          exact o2 _ _ _ (s1.write he h1 a2 a3 a4 (a5.append (.cons rv .nil)))
      · exact o2.elim
  · exact o1.elim
theorem RpAll.dropLast {K : PySem.W.Frag} {B : Hp} {vs : List V} {ds : List D} (h : RpAll K B vs ds) : RpAll K B vs.dropLast ds.dropLast := by
  rw [List.dropLast_eq_take, List.dropLast_eq_take, h.length]
  exact h.take _
theorem pop_ps (G : Good W g M k Z X E) {x : Str} {px ap cp pos : Pos} {i : Nat} (hl : (ap.endLine == cp.line) = true) (hv : visB (Z.sc.names.lookup x) = true) (hd : dunder x = false) (hi : idxN Z.N x = some i) :
    PS X (.Expr (.Call (.Attribute (.Name x px) "pop" ap) [] [] cp) pos) (tS W X E (ex1 g (.pop i))) := by
  have hd' := dn hd
  have hp := L2.pe_var (X := X) (pos := px) (i := i) (by rw [G.N]; exact idxN_get hi) (vis_of G hv) hd'.1 hd'.2.1
  refine L2.PS.imp (L2.ps_expr (L2.pe_bm0 PySem.F.plainAttrs_list PySem.F.slot_list_pop PySem.F.type_list_pop mt_pop hp rfl hl)) fun D σ H ⟨B0, H0, Bf, B, env, si, o⟩ => ?_
  have o1 : finS W X.K X.mg E B0 H0 Bf (match env[i]? with
      | some (some (.own ds)) => if ds.isEmpty then .bad else .nx (env.set i (some (.own ds.dropLast)))
      | _ => .bad) D := o
  split at o1
  · rename_i ds he
    obtain ⟨p, vs, h1, h2, h3, h4, h5⟩ := si.rep.own i ds he
    split at o1
    · exact o1.elim
    · rename_i hne
      have hvs : vs ≠ [] := fun z => hne (by rw [(h5.nil_iff).mp z]; rfl)
      have hlt : vs.length - 1 < vs.length := by
        cases vs with
        | nil => exact absurd rfl hvs
        | cons _ _ => show _ + 1 - 1 < _ + 1; omega
      refine ⟨.ref p, h1, .inl ⟨rfl, vs, SqL.of h4⟩, p, vs, vs[vs.length - 1], rfl, rfl, h4, List.getElem?_eq_getElem hlt, ?_⟩
      exact o1 _ _ _ (si.write he h1 h2 h3 h4 h5.dropLast)
  · exact o1.elim
/-! ### values dropped, given back -/
theorem exp_ps (G : Good W g M k Z X E) {e : Expr} {pos : Pos} (hc : isComp e = false) : PS X (.Expr e pos) (tS W X E (ex1 g (.exp (tr M Z e)))) :=
  L2.PS.imp (L2.ps_expr ((sE e).1 _ _ Z X E G).1 (swaps_none hc none pos.line X.env)) fun D σ H ⟨B0, H0, Bf, B, env, si, o⟩ =>
    ⟨B, env, si.gd, si.repE, out_of si si.st.ext o fun d _ o1 B1 H1 st v rv => o1 σ B1 H1 (si.step st)⟩
theorem ret_ps (G : Good W g M k Z X E) {e : Expr} {pos : Pos} : PS X (.Return (some e) pos) (tS W X E (ex1 g (.ret (tr M Z e)))) :=
  L2.PS.imp (L2.ps_ret ((sE e).1 _ _ Z X E G).1) fun D σ H ⟨B0, H0, Bf, B, env, si, o⟩ => by
    obtain ⟨B', st', sm, re⟩ := si.rel
    refine ⟨B', rel env, st'.gd, re, ?_⟩
    have o1 : finS W X.K X.mg E B0 H0 Bf ((ev g false (tr M Z e) (rel env)).toS fun d => .rt d) D := o
    cases q : ev g false (tr M Z e) (rel env) with
    | bad => rw [q] at o1; exact o1.elim
    | exc c => rw [q] at o1; exact fun cls H' ec x j => o1 cls H' ec (si.st.ext.trans x) j
    | ok d => rw [q] at o1; exact fun B1 H1 st v rv => o1 v B1 H1 (st'.trans st) rv
theorem if_ps (G : Good W g M k Z X E) {c : Expr} {a b : List Stmt} {pos : Pos} {sa sb : List S} (ha : PSs X a (tS W X E (exs g sa))) (hb : PSs X b (tS W X E (exs g sb))) : PS X (.If c a b pos) (tS W X E (ex1 g (.ife (tr M Z c) sa sb))) :=
  L2.PS.imp (L2.ps_if ((sE c).1 _ _ Z X E G).2 ha hb) fun D σ H ⟨B0, H0, Bf, B, env, si, o⟩ => by
    obtain ⟨B', st', sm, re⟩ := si.rel
    refine ⟨B', rel env, st'.gd, re, ?_⟩
    have o1 : finS W X.K X.mg E B0 H0 Bf ((ev g true (tr M Z c) (rel env)).toS fun k => match k with
      | .bool true => exs g sa env
      | .bool false => exs g sb env
      | _ => .bad) D := o
    cases q : ev g true (tr M Z c) (rel env) with
    | bad => rw [q] at o1; exact o1.elim
    | exc c => rw [q] at o1; exact fun cls H' ec x j => o1 cls H' ec (si.st.ext.trans x) j
    | ok d =>
      rw [q] at o1
      intro B1 H1 st
      have s1 := si.back sm st st'.gd
      cases d with
      | bool kb =>
        refine ⟨kb, rfl, ?_⟩
        cases kb with
        | true => rw [if_pos rfl]; exact ⟨B0, H0, Bf, B, env, s1, o1⟩
        | false => rw [if_neg Bool.false_ne_true]; exact ⟨B0, H0, Bf, B, env, s1, o1⟩
      | _ => exact o1.elim
theorem raise_ps (G : Good W g M k Z X E) {c m : Str} {j : Nat} {p p2 p3 pos : Pos} (hg : glB Z c = true) (he : M.excs.contains c = true) : PS X (.Raise (some (.Call (.Name c p) [.Constant (.str m) j p2] [] p3)) none pos) (tS W X E (ex1 g (.raise c))) := by
  obtain ⟨C, h1, h2, h3, h4⟩ := G.exc c he
  obtain ⟨g1, g2, g3⟩ := G.gl_ hg
  refine L2.PS.imp (L2.ps_raise G.calm G.tk (L2.pmk_own PySem.F.excBase_ValueError h2 h1 h3 h4 g1 g2)) fun D σ H ⟨B0, H0, Bf, B, env, si, o⟩ => ?_
  exact o (.ref C) H h1 si.st.ext si.gd.j
/-! ### for -/
theorem for_ps (G : Good W g M k Z X E) (hp : PassesOwn (model X.prog X.w) X.A X.env X.xe) {tg it : Expr} {body : List Stmt} {pos : Pos} {t : Tg} {it' : Wk} {sb : List S} (hset : isSet it = false) (ht : trT Z tg = some t)
    (hi : PI X tg it (tPI W X E (evI g it'))) (hb : PSs X body (tS W X E (exs g sb))) : PS X (.For tg it body [] pos) (tS W X E (ex1 g (.for t it' sb))) := by
  have hst : ∀ x, foldedSetIterable it X.env x = pure x := fun x => by cases it <;> first | rfl | (cases hset; done)
  refine L2.PS.imp (L2.ps_for hp G.calm hi (pg_tr (W := W) (E := E) G tg t ht) hb hst) fun D σ H ⟨B0, H0, Bf, B, env, si, o⟩ => ?_
  refine ⟨B, env, si.gd, si.repE, ?_⟩
  have o1 : finS W X.K X.mg E B0 H0 Bf (match evI g it' env with
      | .ok ds => forLoop t (fun e => exs g sb e) ds env
      | .exc c => .exc c
      | .bad => .bad) D := o
  cases q : evI g it' env with
  | bad => rw [q] at o1; exact o1.elim
  | exc c => rw [q] at o1; exact fun cls H' ec x j => o1 cls H' ec (si.st.ext.trans x) j
  | ok ds =>
    rw [q] at o1
    intro B1 H1 st J ⟨n, Gp, Y, hn, hw, hG, hY⟩
    have s1 := (si.step st)
    have hfl : Same Bf B1 := s1.fl
    refine L2.for_it hw (fun i σ H => ∃ B env, SInv W X.K B0 H0 B1 B H σ env ∧ finS W X.K X.mg E B0 H0 Bf (forLoop t (fun e => exs g sb e) (ds.drop i) env) D) ⟨B1, env, s1.here, o1⟩ (fun i σ H _ ⟨B, env, s, _⟩ => hG B H s.fl s.gd) ?_ ?_
    · rintro i x σ H2 H3 hlt ⟨B2, env2, s2, o2⟩ hy
      obtain ⟨B3, d, hd, s23, rx⟩ := hY i B2 H2 x H3 s2.fl s2.gd hlt hy
      have hdrop : ds.drop i = d :: ds.drop (i + 1) := by
        obtain ⟨hil, e⟩ := List.getElem?_eq_some_iff.mp hd
        rw [List.drop_eq_getElem_cons hil, e]
      rw [hdrop] at o2
      have s3 := s2.step s23
      refine ⟨B3, env2, d, s3.gd, s3.repE, rx, ?_⟩
      have o3 : finS W X.K X.mg E B0 H0 Bf (match bindT t d env2 with
        | .ok env1 => match exs g sb env1 with
          | .nx e => forLoop t (fun e => exs g sb e) (ds.drop (i + 1)) e
          | .ct e => forLoop t (fun e => exs g sb e) (ds.drop (i + 1)) e
          | .bk e => .nx e
          | .rt d => .rt d
          | .exc c => .exc c
          | .bad => .bad
        | _ => .bad) D := o2
      cases eb : bindT t d env2 with
      | exc c => exact absurd eb (bindT_noexc _ _ _ _)
      | bad => rw [eb] at o3; exact o3.elim
      | ok env3 =>
        rw [eb] at o3
        intro σ4 B4 H4 s34 re4 k4
        have s4 := s3.bound eb s34 re4 k4
        refine ⟨B0, H0, B1, B4, env3, s4, ?_⟩
        have o4 : finS W X.K X.mg E B0 H0 Bf (match exs g sb env3 with
          | .nx e => forLoop t (fun e => exs g sb e) (ds.drop (i + 1)) e
          | .ct e => forLoop t (fun e => exs g sb e) (ds.drop (i + 1)) e
          | .bk e => .nx e
          | .rt d => .rt d
          | .exc c => .exc c
          | .bad => .bad) D := o3
        cases eq : exs g sb env3 with
        | nx e => rw [eq] at o4; exact fun σ B H s => ⟨B, e, s, o4⟩
        | ct e => rw [eq] at o4; exact fun σ B H s => ⟨B, e, s, o4⟩
        | bk e => rw [eq] at o4; exact fun σ B H s => o4 σ B H (s.floor hfl)
        | rt d => rw [eq] at o4; exact o4
        | exc c => rw [eq] at o4; exact o4
        | bad => rw [eq] at o4; exact o4.elim
    · rintro σ H ⟨B, env, s, o2⟩
      have hdn : ds.drop n = [] := by rw [hn]; exact List.drop_length
      rw [hdn] at o2
      exact o2 σ B H (s.floor hfl)
theorem cons_ps {st : Stmt} {rest : List Stmt} {s : S} {r : List S} (h1 : PS X st (tS W X E (ex1 g s))) (h2 : PSs X rest (tS W X E (exs g r))) : PSs X (st :: rest) (tS W X E (exs g (s :: r))) :=
  L2.PSs.imp (L2.pss_cons h1 h2) fun D σ H ⟨B0, H0, Bf, B, env, si, o⟩ => by
    refine ⟨B0, H0, Bf, B, env, si, ?_⟩
    have o1 : finS W X.K X.mg E B0 H0 Bf ((ex1 g s env).seq (exs g r)) D := o
    cases q : ex1 g s env with
    | nx e => rw [q] at o1; exact fun σ B H s => ⟨B0, H0, Bf, B, e, s, o1⟩
    | ct e => rw [q] at o1; exact o1
    | bk e => rw [q] at o1; exact o1
    | rt d => rw [q] at o1; exact o1
    | exc c => rw [q] at o1; exact o1
    | bad => rw [q] at o1; exact o1.elim
theorem nil_ps : PSs X [] (tS W X E (exs g [])) := L2.PSs.imp L2.pss_nil fun D σ H ⟨B0, H0, Bf, B, env, si, o⟩ => o σ B H si
end
end Ev
/-! EvT5: every statement that the reader takes keeps to the evaluator. -/
namespace Ev
open PySem PySem.Spec PyProof.Rows L2
section
variable {W : Wd} {g : G} {M : Nm} {k : Nat} {Z : Sc} {X : Cx} {E : XK}
structure GoodS (W : Wd) (g : G) (M : Nm) (k : Nat) (Z : Sc) (X : Cx) (E : XK) : Prop where
  gd : Good W g M k Z X E
  kd : Z.sc.kind = .function
  po : PassesOwn (model X.prog X.w) X.A X.env X.xe
theorem ite_ps {c : Prop} [Decidable c] {st : Stmt} {a b : S} (h1 : c → PS X st (tS W X E (ex1 g a))) (h2 : ¬ c → PS X st (tS W X E (ex1 g b))) : PS X st (tS W X E (ex1 g (if c then a else b))) := by
  by_cases h : c
  · rw [if_pos h]; exact h1 h
  · rw [if_neg h]; exact h2 h
theorem no_ps {st : Stmt} : PS X st (tS W X E (ex1 g .bad)) := ps_bad fun _ => rfl
theorem assign_ps (G : GoodS W g M k Z X E) (O : List Nat) (ts : List Expr) (e : Expr) (p : Pos) : PS X (.Assign ts e p) (tS W X E (ex1 g (asgS M Z O ts e))) := by
  unfold asgS
  split
  · rename_i x px
    refine ite_ps (fun h => ?_) fun _ => no_ps
    rw [Bool.and_eq_true] at h
    cases hi : idxN Z.N x with
    | none => exact no_ps
    | some i =>
      dsimp only
      refine ite_ps (fun h2 => ?_) fun _ => ?_
      · simp only [Bool.and_eq_true] at h2
        exact ps_fzd O _ (seto_ps G.gd G.kd h.1 h.2 hi h2.1.2 h2.2)
      · exact ps_fzd O _ (set_ps G.gd G.kd h.1 h.2 hi)
  · split
    · rename_i x px y py a b k2 pt2
      refine ite_ps (fun h => ?_) fun _ => no_ps
      simp only [Bool.and_eq_true, Bool.not_eq_true', decide_eq_true_eq] at h
      obtain ⟨⟨⟨⟨⟨⟨⟨h1, h2⟩, h3⟩, h4⟩, h5⟩, h6⟩, h7⟩, h8⟩ := h
      cases hi : idxN Z.N x with
      | none => exact no_ps
      | some i =>
        cases hj : idxN Z.N y with
        | none => exact no_ps
        | some j => exact ps_fzd O _ (par_ps G.gd G.kd h1 h2 h3 h4 h5 h6 h7 h8 hi hj)
    · refine ite_ps (fun _ => no_ps) fun h => ?_
      rw [Bool.not_eq_true, Bool.or_eq_false_iff] at h
      rename_i us _ _ _ _ _
      cases ht : trTs Z us with
      | none => exact no_ps
      | some t => exact ps_fzd O _ (unp_ps G.gd h.1 h.2 ht)
  · exact no_ps
theorem expr_ps (G : GoodS W g M k Z X E) (O : List Nat) (e : Expr) (p : Pos) : PS X (.Expr e p) (tS W X E (ex1 g (expS M Z O e))) := by
  unfold expS
  split
  · exact L2.PS.imp L2.ps_doc fun D σ H ⟨B0, H0, Bf, B, env, si, o⟩ => o σ B H si
  · rename_i x px m ap e cp
    refine ite_ps (fun h => ?_) fun _ => no_ps
    simp only [Bool.and_eq_true, Bool.not_eq_true', decide_eq_true_eq] at h
    obtain ⟨⟨⟨⟨h1, h2⟩, h3⟩, h4⟩, h5⟩ := h
    subst h1
    cases hi : idxN Z.N x with
    | none => exact no_ps
    | some i => exact ps_fzd _ _ (app_ps G.gd h2 h3 h4 h5 hi)
  · rename_i x px m ap cp
    refine ite_ps (fun h => ?_) fun _ => no_ps
    simp only [Bool.and_eq_true, Bool.not_eq_true', decide_eq_true_eq] at h
    obtain ⟨⟨⟨h1, h2⟩, h3⟩, h4⟩ := h
    subst h1
    cases hi : idxN Z.N x with
    | none => exact no_ps
    | some i => exact pop_ps G.gd h2 h3 h4 hi
  · refine ite_ps (fun _ => no_ps) fun h => ?_
    exact ps_fzd O _ (exp_ps G.gd (by simpa using h))
theorem rai_ps (G : GoodS W g M k Z X E) (e c : Option Expr) (p : Pos) : PS X (.Raise e c p) (tS W X E (ex1 g (raiS M Z e c))) := by
  unfold raiS
  split
  · refine ite_ps (fun h => ?_) fun _ => no_ps
    rw [Bool.and_eq_true] at h
    exact raise_ps G.gd h.1 h.2
  · exact no_ps
theorem retS_ps (G : GoodS W g M k Z X E) (e : Option Expr) (p : Pos) : PS X (.Return e p) (tS W X E (ex1 g (retS M Z e))) := by
  cases e with
  | some e => exact ret_ps G.gd
  | none => exact L2.PS.imp L2.ps_retN fun D σ H ⟨B0, H0, Bf, B, env, si, o⟩ => o .non B H si.st .non
theorem forS_ps (G : GoodS W g M k Z X E) (O : List Nat) {tg it : Expr} {body orelse : List Stmt} {p : Pos} {sb : List S} (hb : PSs X body (tS W X E (exs g sb))) : PS X (.For tg it body orelse p) (tS W X E (ex1 g (forS M Z O tg it orelse sb))) := by
  unfold forS
  split
  · refine ite_ps (fun _ => no_ps) fun h => ?_
    have h' : isSet it = false := by simpa using h
    cases ht : trT Z tg with
    | none => exact no_ps
    | some t =>
      refine ps_fzd O _ (for_ps G.gd G.po h' ht ?_ hb)
      have hs := sE (W := W) (M := M) it
      cases e : trI M Z (isTup tg) it with
      | some it' => exact sI_of hs.2 _ _ Z X E G.gd tg it' e
      | none => exact pi_sqD (hs.1 _ _ Z X E G.gd).1
  · exact no_ps
mutual
theorem sS (G : GoodS W g M k Z X E) (O : List Nat) : ∀ (st : Stmt), PS X st (tS W X E (ex1 g (trS M Z O st)))
  | .Assign ts e p => assign_ps G O ts e p
  | .Return e p => retS_ps G e p
  | .If c a b p => if_ps G.gd (sSs G O a) (sSs G O b)
  | .For tg it body orelse p => forS_ps G O (sSs G O body)
  | .Expr e p => expr_ps G O e p
  | .Raise e c p => rai_ps G e c p
  | .Continue p => L2.PS.imp L2.ps_continue fun D σ H ⟨B0, H0, Bf, B, env, si, o⟩ => o σ B H si
  | .Break p => L2.PS.imp L2.ps_break fun D σ H ⟨B0, H0, Bf, B, env, si, o⟩ => o σ B H si
  | .Pass p => L2.PS.imp L2.ps_pass fun D σ H ⟨B0, H0, Bf, B, env, si, o⟩ => o σ B H si
  | .FunctionDef _ _ _ _ _ _ _ _ _ _ => no_ps
  | .AsyncFunctionDef _ _ _ _ _ _ _ _ _ _ => no_ps
  | .ClassDef _ _ _ _ _ _ _ _ _ _ _ => no_ps
  | .Delete _ _ => no_ps
  | .TypeAlias _ _ _ _ _ _ _ => no_ps
  | .AugAssign _ _ _ _ => no_ps
  | .AnnAssign _ _ _ _ _ => no_ps
  | .AsyncFor _ _ _ _ _ => no_ps
  | .While _ _ _ _ => no_ps
  | .With _ _ _ => no_ps
  | .AsyncWith _ _ _ => no_ps
  | .Match _ _ _ => no_ps
  | .Try _ _ _ _ _ => no_ps
  | .TryStar _ _ _ _ _ => no_ps
  | .Assert _ _ _ => no_ps
  | .Import _ _ => no_ps
  | .ImportFrom _ _ _ _ => no_ps
  | .Global _ _ => no_ps
  | .Nonlocal _ _ => no_ps
termination_by structural st => st
theorem sSs (G : GoodS W g M k Z X E) (O : List Nat) : ∀ (sts : List Stmt), PSs X sts (tS W X E (exs g (trSs M Z O sts)))
  | [] => nil_ps
  | st :: r => cons_ps (sS G O st) (sSs G O r)
termination_by structural st => st
end
end
end Ev
/-! EvL1: what a teller makes of a lambda: ('told', ..) or ('refused', which class). -/
namespace Ev
open PySem PySem.Spec PyProof.Rows L2 LamX
/-- l.count(True) of truths -/
theorem reads_bools (h : Heap) : ∀ bs : List Bool, ReadsAll h (bs.map Value.bool) (bs.map PyData.bool) []
  | [] => .nil
  | b :: bs => by
    have := ReadsAll.cons (Reads.bool (h := h) b) (reads_bools h bs)
    exact this
theorem vals_bools : ∀ {bs : List Bool} {us : List Value}, Vals (bs.map V.bl) us → us = bs.map Value.bool
  | [], _, .nil => rfl
  | b :: bs, _, .cons r t => by
    cases r
    exact congrArg (Value.bool b :: ·) (vals_bools t)
def rCntB (K : PySem.W.Frag) : V → List V → Hp → VK → Prop := fun x xs H Q => ∃ (p : Addr) (bs : List Bool), x = .ref p ∧ xs = [.bl true] ∧ SqL K H p (bs.map V.bl) ∧ Q (.int (countIn (.bool true) (bs.map PyData.bool))) H
theorem mt_cntB {X : Cx} : MtR X "list.count" (rCntB X.K) := by
  intro pins s σ H x xs v us Q I rx rxs h
  obtain ⟨p, bs, rfl, rfl, hs, q⟩ := h
  cases rx
  obtain ⟨u, rfl, ru⟩ := rxs.one
  cases ru
  obtain ⟨its, rv, hl, hlen⟩ := I.list hs
  have e := vals_bools rv
  subst e
  exact count_list_bools hl.isList (reads_bools s.heap bs) (by rw [List.all_map, List.all_eq_true]; intro b _; rfl) ⟨.int _, H, I.tok _, ⟨s.toks, rfl⟩, q⟩
/-- isinstance(e, c), e the exception that the suite holds, its class and its dict told by the reading -/
def rIsE2 (K : PySem.W.Frag) (a : Addr) (cls : Value) (d : Option Addr) : List V → Hp → VK → Prop := fun xs H Q => ∃ D, cls = .ref D ∧ d = none ∧ ExcC K D ∧ rIsE K D a xs H Q
theorem call_isE2 {X : Cx} {a : Addr} {oe : Obj} {cls : Value} {d : Option Addr} {pn : List (Addr × Obj)} (hz : Zc cls d oe) (hf : ∃ vs, oe.data = .fields vs) : CallR (X.suite a ((a, oe) :: pn)) (.builtin "isinstance") (rIsE2 X.K a cls d) := by
  intro pins s σ H xs us Q I r ⟨D, e1, e2, C, h⟩
  subst e1 e2
  exact call_isE C hz hf pins s σ H xs us Q I r h
/-- the classes that are told: each with its place -/
structure TellC (K : PySem.W.Frag) (CP C0 C1 C2 C3 : Addr) (cls : Value) (k : Nat) : Prop where
  ex : ∃ D, cls = .ref D ∧ ExcC K D ∧ PySem.W.kitOne K (.ref D) (.ref C0) = some (k == 0) ∧ PySem.W.kitOne K (.ref D) (.ref C1) = some (k == 1) ∧ PySem.W.kitOne K (.ref D) (.ref C2) = some (k == 2) ∧ PySem.W.kitOne K (.ref D) (.ref C3) = some (k == 3) ∧ PySem.W.kitOne K (.ref D) (.type "ValueError") = some true
  exm : PySem.W.exmOne K cls (.ref CP) = some true
  lt : k < 4
def kindsV (k : Nat) : List V := [k == 0, k == 1, k == 2, k == 3].map V.bl
/-- what it makes of the lambda's reading -/
def TTold2 (K : PySem.W.Frag) (CP C0 C1 C2 C3 : Addr) : (XK → Hp → VK → Prop) → Hp → VK → Prop := fun tl H Q =>
  (∀ (E : XK) (H : Hp) (Q Q' : VK), (∀ v H, Q v H → Q' v H) → tl E H Q → tl E H Q') ∧ tl (fun cls d H' => d = none ∧ ∃ k : Nat, TellC K CP C0 C1 C2 C3 cls k ∧ ∀ l p1 p2 : Addr, H' l = none → upd H' l (.lst (kindsV k)) p1 = none → upd (upd H' l (.lst (kindsV k))) p1 (.tup [.str "refused", .int (-1)]) p2 = none →
      Q (.ref p2) (upd (upd (upd H' l (.lst (kindsV k))) p1 (.tup [.str "refused", .int (-1)])) p2 (.tup [.str "refused", .int (k : Int)])))
    H fun v H1 => ∀ p, H1 p = none → Q (.ref p) (upd H1 p (.tup [.str "told", v]))
/-- the names of a teller's text -/
structure TellS (mg : Str → Option Value) (sg : Scope) (CP C0 C1 C2 C3 : Addr) : Prop where
  loc : ∀ x, x ∈ (["_law_deed", "_law_got_ones", "e", "_law_kinds"] : List Str) → sg.names.lookup x = some .local
  glo : ∀ x, x ∈ (["PartError", "isinstance", "NoSheet", "NoPart", "NoRow", "NoText", "ValueError"] : List Str) → sg.names.lookup x = some .globalImplicit
  mP : mg "PartError" = some (.ref CP)
  m0 : mg "NoSheet" = some (.ref C0)
  m1 : mg "NoPart" = some (.ref C1)
  m2 : mg "NoRow" = some (.ref C2)
  m3 : mg "NoText" = some (.ref C3)
  mi : mg "isinstance" = none
  mv : mg "ValueError" = none
/-- the suite: (K's classes) what it asks of the slots and the heap -/
def sTell (K : PySem.W.Frag) (CP C0 C1 C2 C3 : Addr) (a : Addr) (cls : Value) (d : Option Addr) : TS := fun D σ H => d = none ∧ σ.length = 4 ∧ σ[2]? = some (some (.ref a)) ∧ ∃ k : Nat, TellC K CP C0 C1 C2 C3 cls k ∧
  ∀ l p1 p2 : Addr, H l = none → upd H l (.lst (kindsV k)) p1 = none → upd (upd H l (.lst (kindsV k))) p1 (.tup [.str "refused", .int (-1)]) p2 = none →
    D.nx (((σ.set 3 (some (.ref l))).set 1 (some (.ref p1))).set 1 (some (.ref p2))) (upd (upd (upd H l (.lst (kindsV k))) p1 (.tup [.str "refused", .int (-1)])) p2 (.tup [.str "refused", .int (k : Int)]))
theorem suite1 {Z : Cx} {a : Addr} {oe : Obj} {cls : Value} {d : Option Addr} {pn : List (Addr × Obj)} {CP C0 C1 C2 C3 : Addr} {sg : Scope} {q9 q10 q11 q12 q13 q14 q15 q16 q17 q18 q19 q20 q21 q22 q23 q24 q25 q26 q27 q28 q29 q30 q31 q32 q33 q34 q35 q36 q37 q38 q39 q40 q41 q42 q43 q44 q45 q46 q47 q48 q49 q50 q51 q52 q53 : Pos} (hN : Z.N = (["_law_deed", "_law_got_ones", "e", "_law_kinds"] : List Str)) (hsc : Z.env.scope = sg) (S : TellS Z.mg sg CP C0 C1 C2 C3) (h1 : (q34.endLine == q35.line) = true) (h2 : (q36.endLine == q37.line) = true) (hu : (Z.suite a ((a, oe) :: pn)).A.units + 65 < cLine) (hz : Zc cls d oe) (hf : ∃ vs, oe.data = .fields vs) :
    PSs (Z.suite a ((a, oe) :: pn)) [.Assign [.Name "_law_kinds" q9] (.List [.Call (.Name "isinstance" q10) [.Name "e" q11, .Name "NoSheet" q12] [] q13, .Call (.Name "isinstance" q14) [.Name "e" q15, .Name "NoPart" q16] [] q17, .Call (.Name "isinstance" q18) [.Name "e" q19, .Name "NoRow" q20] [] q21, .Call (.Name "isinstance" q22) [.Name "e" q23, .Name "NoText" q24] [] q25] q26) q27, .Assign [.Name "_law_got_ones" q28] (.Tuple [.Constant (.str "refused") 0 q29, .UnaryOp .USub (.Constant (.int 1) 0 q30) q31] 0 q32) q33, .If (.BoolOp .And [.Call (.Name "isinstance" q38) [.Name "e" q39, .Name "ValueError" q40] [] q41, .Compare (.Call (.Attribute (.Name "_law_kinds" q42) "count" q34) [.Constant (.bool true) 0 q43] [] q35) [.Eq] [.Constant (.int 1) 0 q44] q45] q46) [.Assign [.Name "_law_got_ones" q47] (.Tuple [.Constant (.str "refused") 0 q48, .Call (.Attribute (.Name "_law_kinds" q49) "index" q36) [.Constant (.bool true) 0 q50] [] q37] 0 q51) q52] [] q53] (sTell Z.K CP C0 C1 C2 C3 a cls d) := by
  subst hsc
  have nd : (Z.suite a ((a, oe) :: pn)).N.Nodup := by show Z.N.Nodup; rw [hN]; decide +kernel
  have n0 : (Z.suite a ((a, oe) :: pn)).N[0]? = some ("_law_deed" : Str) := by show Z.N[0]? = _; rw [hN]; rfl
  have n1 : (Z.suite a ((a, oe) :: pn)).N[1]? = some ("_law_got_ones" : Str) := by show Z.N[1]? = _; rw [hN]; rfl
  have n2 : (Z.suite a ((a, oe) :: pn)).N[2]? = some ("e" : Str) := by show Z.N[2]? = _; rw [hN]; rfl
  have n3 : (Z.suite a ((a, oe) :: pn)).N[3]? = some ("_law_kinds" : Str) := by show Z.N[3]? = _; rw [hN]; rfl
  have l1 := S.loc "_law_got_ones" (by decide +kernel)
  have l2 := S.loc "e" (by decide +kernel)
  have l3 := S.loc "_law_kinds" (by decide +kernel)
  have gi : Gl (Z.suite a ((a, oe) :: pn)) "isinstance" := S.glo "isinstance" (by decide +kernel)
  have g0 : Gl (Z.suite a ((a, oe) :: pn)) "NoSheet" := S.glo "NoSheet" (by decide +kernel)
  have g1 : Gl (Z.suite a ((a, oe) :: pn)) "NoPart" := S.glo "NoPart" (by decide +kernel)
  have g2 : Gl (Z.suite a ((a, oe) :: pn)) "NoRow" := S.glo "NoRow" (by decide +kernel)
  have g3 : Gl (Z.suite a ((a, oe) :: pn)) "NoText" := S.glo "NoText" (by decide +kernel)
  have gv : Gl (Z.suite a ((a, oe) :: pn)) "ValueError" := S.glo "ValueError" (by decide +kernel)
  have e2 : ∀ p, PE (Z.suite a ((a, oe) :: pn)) (.Name "e" p) (tVar 2) := fun p => pe_var n2 (.inl l2) (by decide) (by decide)
  have e3 : ∀ p, PE (Z.suite a ((a, oe) :: pn)) (.Name "_law_kinds" p) (tVar 3) := fun p => pe_var n3 (.inl l3) (by decide) (by decide)
  have isC : ∀ {x : Str} {C : Addr} {p1 p2 p3 p4 : Pos}, Gl (Z.suite a ((a, oe) :: pn)) x → Z.mg x = some (.ref C) → (x == ("__debug__" : Str)) = false → PE (Z.suite a ((a, oe) :: pn)) (.Call (.Name "isinstance" p1) [.Name "e" p2, .Name x p3] [] p4) (tCB (rIsE2 Z.K a cls d) (tCons (tVar 2) (tCons (tC (.ref C)) tNil))) := fun h m hd =>
    pe_callB (X := Z.suite a ((a, oe) :: pn)) (call_isE2 hz hf) gi S.mi (by decide +kernel) (pa_cons (e2 _) (pa_cons (pe_glob h m (v := .ref _) rfl hd) pa_nil))
  have isV : ∀ {p1 p2 p3 p4 : Pos}, PE (Z.suite a ((a, oe) :: pn)) (.Call (.Name "isinstance" p1) [.Name "e" p2, .Name "ValueError" p3] [] p4) (tCB (rIsE2 Z.K a cls d) (tCons (tVar 2) (tCons (tC (.ty "ValueError")) tNil))) := 
    pe_callB (X := Z.suite a ((a, oe) :: pn)) (call_isE2 hz hf) gi S.mi (by decide +kernel) (pa_cons (e2 _) (pa_cons (pe_bltn gv S.mv (by decide +kernel) (v := .ty "ValueError") rfl (by decide) (by decide)) pa_nil))
  refine (pss_cons (ps_set (i := 3) nd n3 (.inl l3) (pe_lst (pa_cons (isC g0 S.m0 (by decide)) (pa_cons (isC g1 S.m1 (by decide)) (pa_cons (isC g2 S.m2 (by decide)) (pa_cons (isC g3 S.m3 (by decide)) pa_nil))))) rfl (.inr l3))
    (pss_cons (ps_set (i := 1) nd n1 (.inl l1) (pe_tup (pa_cons pe_str (pa_cons (pe_un un_neg pe_int) pa_nil))) rfl (.inr l1))
    (pss_one (ps_if (PW.pt (pw_and (pt_truth isV (fun _ => rfl))
        (pw_and1 (pt_cmpR op_eq (pe_bm PySem.F.plainAttrs_list PySem.F.slot_list_count PySem.F.type_list_count mt_cntB (e3 _) (pa_cons pe_bl pa_nil) rfl rfl h1) pe_int (nomark _)))))
      (pss_one (ps_set (i := 1) nd n1 (.inl l1) (pe_tup (pa_cons pe_str (pa_cons (pe_bm PySem.F.plainAttrs_list PySem.F.slot_list_index PySem.F.type_list_index (mt_indexD hu) (e3 _) (pa_cons pe_bl pa_nil) rfl rfl h2) pa_nil))) rfl (.inr l1))) pss_nil)))).imp ?_
  rintro D σ H ⟨rfl, hlen, hs2, k, T, fin⟩
  obtain ⟨Dc, hD, EC, k0, k1, k2, k3, kv⟩ := T.ex
  have u2 : ∀ {D : Addr} {u : Value}, RelV (.ref D) u → u = .ref D := fun r => by cases r; rfl
  have v2 : ∀ {u : Value}, RelV (.ty "ValueError") u → u = .type "ValueError" := fun r => by cases r; rfl
  refine ⟨.ref a, hs2, Dc, hD, rfl, EC, .ref C0, .ref C0, _, rfl, fun u r => u2 r, k0, ?_⟩
  refine ⟨.ref a, hs2, Dc, hD, rfl, EC, .ref C1, .ref C1, _, rfl, fun u r => u2 r, k1, ?_⟩
  refine ⟨.ref a, hs2, Dc, hD, rfl, EC, .ref C2, .ref C2, _, rfl, fun u r => u2 r, k2, ?_⟩
  refine ⟨.ref a, hs2, Dc, hD, rfl, EC, .ref C3, .ref C3, _, rfl, fun u r => u2 r, k3, ?_⟩
  refine ⟨(show 4 ≤ sizeLine by decide), fun l hl => ?_⟩
  refine ⟨1, rfl, (show 2 ≤ sizeLine by decide), fun p1 hp1 => ?_⟩
  have hp1' : upd H l (.lst (kindsV k)) p1 = none := hp1
  have hlp : l ≠ p1 := fun z => by
    rw [← z, upd_same] at hp1'
    cases hp1'
  have hL : (upd (upd H l (.lst (kindsV k))) p1 (.tup [.str "refused", .int (-1)])) l = some (.lst (kindsV k)) := by
    rw [upd_ne hlp, upd_same]
  have hSq : SqL Z.K (upd (upd H l (.lst (kindsV k))) p1 (.tup [.str "refused", .int (-1)])) l ([k == 0, k == 1, k == 2, k == 3].map V.bl) := SqL.of hL
  have s2' : ((σ.set 3 (some (.ref l))).set 1 (some (.ref p1)))[2]? = some (some (.ref a)) := by
    rw [List.getElem?_set_ne (by decide), List.getElem?_set_ne (by decide)]; exact hs2
  have s3' : ((σ.set 3 (some (.ref l))).set 1 (some (.ref p1)))[3]? = some (some (.ref l)) := by
    rw [List.getElem?_set_ne (by decide), List.getElem?_set_self (by omega)]
  have dp : Dp Z.K (upd (upd H l (.lst (kindsV k))) p1 (.tup [.str "refused", .int (-1)])) (.ref l) (.list ([k == 0, k == 1, k == 2, k == 3].map PyData.bool)) := .lst hSq (.cons (.bl _) (.cons (.bl _) (.cons (.bl _) (.cons (.bl _) .nil))))
  have hk := T.lt
  have hcnt : countIn (.bool true) ([k == 0, k == 1, k == 2, k == 3].map PyData.bool) = 1 ∧ ([k == 0, k == 1, k == 2, k == 3].map PyData.bool)[k]? = some (.bool true) ∧ (∀ (m : Nat) (z' : PyData), m < k → ([k == 0, k == 1, k == 2, k == 3].map PyData.bool)[m]? = some z' → PyData.eqv z' (.bool true) = false) ∧ SeqAt.shaped (.list ([k == 0, k == 1, k == 2, k == 3].map PyData.bool)) = true := by
    have h4 : k = 0 ∨ k = 1 ∨ k = 2 ∨ k = 3 := by omega
    rcases h4 with rfl | rfl | rfl | rfl
    · exact ⟨by decide +kernel, rfl, fun m z h => absurd h (by omega), by decide +kernel⟩
    · exact ⟨by decide +kernel, rfl, fun m z h e => by
        match m, h, e with
        | 0, _, e => cases e; rfl, by decide +kernel⟩
    · exact ⟨by decide +kernel, rfl, fun m z h e => by
        match m, h, e with
        | 0, _, e => cases e; rfl
        | 1, _, e => cases e; rfl, by decide +kernel⟩
    · exact ⟨by decide +kernel, rfl, fun m z h e => by
        match m, h, e with
        | 0, _, e => cases e; rfl
        | 1, _, e => cases e; rfl
        | 2, _, e => cases e; rfl, by decide +kernel⟩
  obtain ⟨hc1, hc2, hc3, hc4⟩ := hcnt
  refine ⟨.ref a, s2', Dc, hD, rfl, EC, .ty "ValueError", .type "ValueError", _, rfl, fun u r => v2 r, kv, true, rfl, ?_⟩
  refine L2.iteT ?_
  refine ⟨.ref l, s3', .inl ⟨rfl, _, hSq⟩, l, _, rfl, rfl, hSq, ?_⟩
  rw [hc1]
  refine ⟨rfl, true, congrArg V.bl (decide_eq_true rfl), ?_⟩
  refine L2.iteT ?_
  refine ⟨.ref l, s3', .inl ⟨rfl, _, hSq⟩, l, .bl true, .bool true, _, k, .bool true, rfl, rfl, dp, .bl true, hc4, rfl, hc2, rfl, hc3, (show 2 ≤ sizeLine by decide), fun p2 hp2 => ?_⟩
  exact fin l p1 p2 hl hp1' hp2
theorem pss_len {Y : Cx} {st : List Stmt} {t : TS} {n : Nat} (hn : Y.N.length = n) (h : PSs Y st t) : PSs Y st (fun D σ H => σ.length = n → t D σ H) := ⟨fun pins s σ H D I q => h.run pins s σ H D I (q (I.len.trans hn))⟩
theorem told2_gives {X : Cx} {CP C0 C1 C2 C3 g : Addr} {x q : Str} {sg : Scope} {cdg : Value} {q1 q2 q3 q4 q5 q6 q7 q8 q9 q10 q11 q12 q13 q14 q15 q16 q17 q18 q19 q20 q21 q22 q23 q24 q25 q26 q27 q28 q29 q30 q31 q32 q33 q34 q35 q36 q37 q38 q39 q40 q41 q42 q43 q44 q45 q46 q47 q48 q49 q50 q51 q52 q53 q54 q55 q56 q57 q58 : Pos} (S : TellS X.mg sg CP C0 C1 C2 C3) (h1 : (q34.endLine == q35.line) = true) (h2 : (q36.endLine == q37.line) = true) (hu : X.A.units + 100 < cLine) :
    GivesTo X ["_law_deed", "_law_got_ones", "e", "_law_kinds"] x sg g cdg [.Try [.Assign [.Name "_law_got_ones" q3] (.Tuple [.Constant (.str "told") 0 q4, .Call (.Name "_law_deed" q5) [] [] q6] 0 q7) q8] [.ExceptHandler (some (.Name "PartError" q54)) (some "e") [.Assign [.Name "_law_kinds" q9] (.List [.Call (.Name "isinstance" q10) [.Name "e" q11, .Name "NoSheet" q12] [] q13, .Call (.Name "isinstance" q14) [.Name "e" q15, .Name "NoPart" q16] [] q17, .Call (.Name "isinstance" q18) [.Name "e" q19, .Name "NoRow" q20] [] q21, .Call (.Name "isinstance" q22) [.Name "e" q23, .Name "NoText" q24] [] q25] q26) q27, .Assign [.Name "_law_got_ones" q28] (.Tuple [.Constant (.str "refused") 0 q29, .UnaryOp .USub (.Constant (.int 1) 0 q30) q31] 0 q32) q33, .If (.BoolOp .And [.Call (.Name "isinstance" q38) [.Name "e" q39, .Name "ValueError" q40] [] q41, .Compare (.Call (.Attribute (.Name "_law_kinds" q42) "count" q34) [.Constant (.bool true) 0 q43] [] q35) [.Eq] [.Constant (.int 1) 0 q44] q45] q46) [.Assign [.Name "_law_got_ones" q47] (.Tuple [.Constant (.str "refused") 0 q48, .Call (.Attribute (.Name "_law_kinds" q49) "index" q36) [.Constant (.bool true) 0 q50] [] q37] 0 q51) q52] [] q53] q55] [] [] q56, .Return (some (.Name "_law_got_ones" q57)) q58] "_law_deed" q (TTold2 X.K CP C0 C1 C2 C3) := by
  intro f c' s H Q tl act hc h
  have nd : (["_law_deed", "_law_got_ones", "e", "_law_kinds"] : List Str).Nodup := by decide +kernel
  have l1 := S.loc "_law_got_ones" (by decide +kernel)
  have l2 := S.loc "e" (by decide +kernel)
  have gP := S.glo "PartError" (by decide +kernel)
  refine ⟨_, pss_cons (ps_try_as (X := (cxOf C8.CX0 X.prog X.w X.K X.mg X.base ["_law_deed", "_law_got_ones", "e", "_law_kinds"] x sg g cdg X.A X.stack s H C8.E0).nox) (i := 2) (c := .ref CP) (n := "e")
      (tb := fun W D σ H => ∃ Ech : XK, (∀ cls d σ' H', Ech cls d H' → W cls d σ' H') ∧ σ[0]? = some (some (.ref f)) ∧ H c' = some (CodeO c' q) ∧ tl Ech H fun v H1 => ∀ p, H1 p = none → D.nx (σ.set 1 (some (.ref p))) (upd H1 p (.tup [.str "told", v])))
      (ts := fun a cls d D σ H => σ.length = 4 → sTell X.K CP C0 C1 C2 C3 a cls d D σ H) (Wout := fun _ _ _ _ => False)
      rfl rfl nd rfl l2 ⟨gP, by decide, .inl S.mP⟩ L2.takes0 (fun W pn xe tk _ => ?_) (fun a oe cls d pn hz hf =>
        pss_len rfl (suite1 (Z := (cxOf C8.CX0 X.prog X.w X.K X.mg X.base ["_law_deed", "_law_got_ones", "e", "_law_kinds"] x sg g cdg X.A X.stack s H C8.E0).nox) rfl rfl S h1 h2 (by show X.A.units + 3 + 65 < cLine; omega) hz hf)))
    (pss_one (ps_ret (pe_var (i := 1) rfl (.inl l1) (by decide) (by decide)))), ?_⟩
  · refine ⟨fun pins s' σ H' D I h' => ?_⟩
    obtain ⟨Ech, hW, e1, e2, e3⟩ := h'
    have hp := act W pn xe Ech q5 q6 tk hW
    refine (pss_one (ps_set (i := 1) nd rfl (.inl l1) (pe_tup (pa_cons pe_str (pa_cons hp pa_nil))) rfl (.inr l1))).run pins s' σ H' D I ?_
    exact ⟨e1, e2, h.1 _ _ _ _ (fun v H1 k => ⟨(show 2 ≤ sizeLine by decide), fun p hp => k p hp⟩) e3⟩
  · obtain ⟨mono, ht⟩ := h
    refine ⟨_, fun cls d σ' H' hE => ?_, rfl, hc, mono _ _ _ _ (fun v H1 k p hp => ?_) ht⟩
    · obtain ⟨rfl, k, T, fin⟩ := hE
      refine ⟨true, T.exm, fun _ a ha => ?_, fun z => nomatch z⟩
      intro hlen
      have hl4 : σ'.length = 4 := by rw [List.length_set] at hlen; exact hlen
      refine ⟨rfl, hlen, by rw [List.getElem?_set_self (by omega)], k, T, fun l p1 p2 h1 h2 h3 => ⟨.ref p2, ?_, fin l p1 p2 h1 h2 h3⟩⟩
      rw [List.getElem?_set_ne (by decide), List.getElem?_set_self (by rw [List.length_set, List.length_set, List.length_set]; omega)]
    · exact ⟨.ref p, rfl, k p hp⟩
end Ev

/-! EvL2: a lambda handed to a teller: what is left in the heap is told exactly; the world with the table of code objects. -/
namespace Ev
open PySem PySem.Spec PyProof.Rows L2 LamX
/-- the heap behind the making of a lambda: as it was, or the table written and its code object new -/
def Lamd (P : Addr) (q : Str) (H H1 : Hp) : Prop := H1 = H ∨ ∃ (ps more : Array Value) (c : Addr), H P = some (.tbl ps) ∧ H c = none ∧ H1 = upd (upd H P (.tbl (ps ++ more))) c (CodeO c q)
section
variable {X : Cx} {pins : List (Addr × Obj)} {σ : L2.St} {H : Hp} {s : Shared}
theorem lam_make3 {c P : Addr} {params : Arguments} {body : Expr} {scope : Scope} {pos : Pos} {E : Value → Shared → Prop} {Q : Value → Shared → Prop} (I : Inv X pins σ H s) (TB : TabB X.base X.mg c P) (hc : X.env.code = .ref c) (hT : TabS H P (X.env.qual ++ "<lambda>"))
    (hd : defaultsOf params X.env = ([], [])) (hf : ∀ y ∈ scope.names, y.2 = .free → ∃ c, X.env.cells.lookup y.1 = some c)
    (k : ∀ (f c' : Addr) (pm ctv : Value) (H1 : Hp) (s' : Shared), Inv X pins σ H1 s' → Lamd P (X.env.qual ++ "<lambda>") H H1 → TabS H1 P (X.env.qual ++ "<lambda>") →
      s'.heap.get? f = some (PySem.W.kla_obj "<lambda>" (X.env.qual ++ "<lambda>") params body scope (cloFrom X.env.cells scope.names []) pm c' ctv) → H1 f = none → f ∉ frs X.stack → H1 c' = some (CodeO c' (X.env.qual ++ "<lambda>")) → Q (.ref f) s') :
    wpAny (model X.prog X.w) X.A (eval (.Lambda params body scope pos) X.env) Q E s := by
  obtain ⟨ps, tP, tri, tell⟩ := hT
  have out : ∀ f, s.heap.objs.size ≤ f → f ∉ frs X.stack := fun f le z => (List.mem_cons.mp (I.stkSub _ z)).elim (fun e => absurd (e ▸ I.lt) (Nat.not_lt.mpr le)) (I.nofs le)
  refine PySem.W.kla_eval hd ?_
  match e : codeAmong pos ps.toList with
  | some cv =>
    obtain ⟨c', ecv, hco⟩ := tell pos cv e
    rw [ecv] at e
    refine PySem.W.kla_makeFunctionHit (c := c) (P := P) (mg := X.mg) (ps := ps) (closure_ok hf) I.ok.glob (I.mod.glob.keeps I.bk) hc (TB.code.keeps I.bk) (I.hok P _ tP) tri e (TB.bm.keeps I.bk) fun ctv h' tk keep le => ?_
    exact k h'.objs.size c' _ ctv H _ (I.kept fun b o g => Heap.get?_push_of_some _ (keep b o g)) (.inl rfl) ⟨ps, tP, tri, tell⟩ (Heap.get?_push_size _ rfl) (I.hok.fresh le) (out _ le) hco
  | none =>
    refine PySem.W.kla_makeFunction (c := c) (P := P) (mg := X.mg) (ps := ps) (closure_ok hf) I.ok.glob (I.mod.glob.keeps I.bk) hc (TB.code.keeps I.bk) (I.hok P _ tP) tri e TB.gP (TB.bm.keeps I.bk) fun c' ctv h' tk but le lt rec_ tab => ?_
    obtain ⟨c2, oc, fs, t, e2, goc, ed, e1⟩ := rec_
    cases e2
    have le' : s.heap.objs.size ≤ h'.objs.size := Nat.le_of_lt (Nat.lt_of_le_of_lt le lt)
    have free : H c' = none := I.hok.fresh le
    have cP : P ≠ c' := ne_of_none tP free
    have J := inv_table (P := P) (c := c') (q := X.env.qual ++ "<lambda>") (ps := ps) (more := #[rawInt pos.line, rawInt pos.col, .ref c']) (t' := tk)
      (h' := h'.push (PySem.W.kla_obj "<lambda>" (X.env.qual ++ "<lambda>") params body scope (cloFrom X.env.cells scope.names []) ((X.mg "__name__").getD .none) c' ctv)) I tP (fun b o nb g => Heap.get?_push_of_some _ (but b o nb g)) (Heap.get?_push_of_some _ tab) le ⟨oc, fs, t, Heap.get?_push_of_some _ goc, ed, e1⟩
    have lst : (ps ++ #[rawInt pos.line, rawInt pos.col, .ref c']).toList = ps.toList ++ [rawInt pos.line, rawInt pos.col, .ref c'] := by simp
    refine k h'.objs.size c' _ ctv _ _ J (.inr ⟨ps, _, c', tP, free, rfl⟩) ⟨_, by rw [upd_ne cP, upd_same], by rw [lst]; exact PySem.TriplesOk_snoc _ _ _ _ tri, fun p' cv g => ?_⟩ (Heap.get?_push_size _ rfl) ?_ (out _ le') upd_same
    · rw [lst] at g
      rcases among_app _ tri g with z | z
      · obtain ⟨d, a1, a2⟩ := tell p' cv z
        refine ⟨d, a1, ?_⟩
        rw [upd_ne (ne_of_none a2 free), upd_ne (fun y => by rw [y, tP] at a2; exact codeO_ne ps (Option.some.inj a2).symm)]
        exact a2
      · exact ⟨c', z, upd_same⟩
    · have n2 : h'.objs.size ≠ P := fun y => Nat.lt_irrefl _ (Nat.lt_of_lt_of_le (y ▸ Heap.lt_size (I.hok P _ tP)) le')
      rw [upd_ne (Nat.ne_of_gt lt), upd_ne n2]
      exact I.hok.fresh le'
/-- a lambda's reading, handed to a teller -/
def tLam3 (P : Addr) (q : Str) (TT : (XK → Hp → VK → Prop) → Hp → VK → Prop) (t : XK → TE) : TE := fun σ H Q => TabS H P q ∧ ∀ H1, Lamd P q H H1 → TabS H1 P q → TT (fun E H' Q' => t E σ H' Q') H1 Q
theorem pe_lam3 {TT : (XK → Hp → VK → Prop) → Hp → VK → Prop} {x a : Str} {g c P : Addr} {k : Nat} {pg : Arguments} {bg : List Stmt} {sg : Scope} {dV kV doc pm cdv ct oc : Value} {an od : Option Addr} {osl : Array (Option Value)} {Ng : List Str} {params : Arguments} {body : Expr} {scope : Scope} {t : XK → TE} {p lpos pos : Pos}
    (hg : Gl X x) (hm : X.mg x = some (.ref g)) (hk : PySem.W.keepIn X.K (.ref g) = true) (lk : X.K.lookup g = some ⟨oc, od, .func (PySem.W.fnOf x x pg bg sg dV kV doc pm an cdv ct), osl⟩) (hcg : PySem.W.codeIn X.K cdv x = true)
    (hb : L2.Binds X.K (PySem.W.fnOf x x pg bg sg dV kV doc pm an cdv ct) [a] []) (Sg : FnScope Ng [a] sg) (h0 : Ng[0]? = some a) (hv : Vis sg a) (hG : GivesTo X Ng x sg g cdv bg a (X.env.qual ++ "<lambda>") TT)
    (TB : TabB X.base X.mg c P) (hc : X.env.code = .ref c) (hr : Room (k + 2) X.A) (L : LamS X.env.scope scope) (hd : defaultsOf params X.env = ([], []))
    (hbind : ∀ (q : Str) (cl : List (Str × Addr)) (pm cv ctv : Value), bindArgs (PySem.W.kla_fn "<lambda>" q params body scope cl pm cv ctv) ⟨[], []⟩ = pure [])
    (hbody : ∀ (A : Around) (outer : List PySem.Env) (s : Shared) (H : Hp) (E : XK) (f c' : Addr), Room k (A.deeper (lamEnv X scope s.heap.objs.size f c')) → PE (lamCx X A outer s H E scope f c') body (t E))
    (d1 : (x == ("__debug__" : Str)) = false) (d2 : (a == ("__debug__" : Str)) = false) (d3 : (a == ("__classdict__" : Str)) = false) :
    PE X (.Call (.Name x p) [.Lambda params body scope lpos] [] pos) (tLam3 P (X.env.qual ++ "<lambda>") TT t) := by
  refine ⟨fun pins s σ H Q I ⟨tab, told⟩ => wpAny_Call_Name_kw (ld_glob I hg hm (PySem.W.callWith_K (h₀ := X.base) I.ok.mod.kin hk ?_ (by rfl) (by rfl)) d1)⟩
  show wpAny _ _ (spliced ((false, eval (.Lambda params body scope lpos) X.env) :: backTo pos (starEach [] X.env))) _ _ s
  refine Calls.spliced_cons (lam_make3 I TB hc tab hd (L.has I.ok) fun f c' pm' ctv H1 s' J lam tab1 gf nf nfr co => Calls.spliced_nil ⟨J.kIn, wpAny_call ?_⟩)
  have ran : codeAny (model X.prog X.w) X.A (.call (.ref g) ⟨[.ref f], []⟩) (CR C8.CX0 X.stack X.prog X.w H1 s' Q C8.E0) s' :=
    run_ofS (vs := [.ref f]) (us := [.ref f]) (ps := [a]) (N := Ng) lk hcg Sg hr J.env0 (hb s' [.ref f] J.kIn rfl) (.cons rfl .nil) rfl fun hr' => by
      obtain ⟨t', ht', hq'⟩ := hG f c' s' H1 Q (fun E H' Q' => t E σ H' Q') (fun W pn xe E p1 p2 tk hW => pe_act (i := 0) J L gf nf nfr (hbind _ _ _ _ _) tk hW hr' (fun A outer s H => hbody A outer s H E f c') h0 hv d2 d3) co (told H1 lam tab1)
      exact ⟨t', ht'.nox, hq'⟩
  refine codeAny_mono ran fun r s2 hq => ?_
  match r, hq with
  | .ok (.ret u), hq => exact J.after hq
  | .ok .next, hq => exact False.elim hq
  | .ok .brk, hq => exact False.elim hq
  | .ok .cont, hq => exact False.elim hq
  | .error e, hq => exact False.elim hq
end
/-! ### the world with one table -/
def WL (P : Addr) (q : Str) : Wd where
  vol := fun b => b = P
  J := fun H => TabS H P q
  new := fun {H p o} t hp _ => t.ext fun b x e => by rw [upd_ne (ne_of_none e hp)]; exact e
  occ := fun {H b} ⟨ps, t, _⟩ e => by rw [e, t]; exact fun z => nomatch z
  app := fun {H p vs ws} ⟨ps, t1, t2, t3⟩ hp hv => ⟨ps, by rw [upd_ne (fun z => hv z.symm)]; exact t1, t2, fun pos cv e => by
    obtain ⟨c, e1, e2⟩ := t3 pos cv e
    refine ⟨c, e1, ?_⟩
    rw [upd_ne (fun z => by rw [z, hp] at e2; unfold CodeO at e2; cases e2)]
    exact e2⟩
theorem lamd_step {P : Addr} {q : Str} {B H H1 : Hp} (g : Gd (WL P q) B H) (l : Lamd P q H H1) (t : TabS H1 P q) : Stp (WL P q) B H B H1 := by
  rcases l with rfl | ⟨ps, more, c, h1, h2, rfl⟩
  · exact Stp.refl g
  · have hPc : P ≠ c := ne_of_none h1 h2
    have keep : ∀ b o, H b = some o → b ≠ P → upd (upd H P (.tbl (ps ++ more))) c (CodeO c q) b = some o := fun b o e hb => by
      rw [upd_ne (ne_of_none e h2), upd_ne hb]; exact e
    refine ⟨fun b o e hb => keep b o e hb, Same.refl B, ⟨t, fun b o e => keep b o (g.same b o e) (fun z => ?_), g.vol⟩, fun p hp _ => hp⟩
    have := g.vol b z
    rw [e] at this
    cases this
end Ev
/-! EvL3: a teller's rule. -/
namespace Ev
open PySem PySem.Spec PyProof.Rows L2 LamX
/-- the teller x, and what it tells of the classes -/
structure TellAt (K : PySem.W.Frag) (mg : Str → Option Value) (ex : Str → Option Nat) (x : Str) (CP C0 C1 C2 C3 : Addr) : Prop where
  fn : ∃ (g : Addr) (pg : Arguments) (bg : List Stmt) (sg : Scope) (dV kV doc pm cdv ct oc : Value) (an od : Option Addr) (osl : Array (Option Value)) (Ng : List Str) (a : Str), mg x = some (.ref g) ∧ PySem.W.keepIn K (.ref g) = true ∧
    K.lookup g = some ⟨oc, od, .func (PySem.W.fnOf x x pg bg sg dV kV doc pm an cdv ct), osl⟩ ∧ PySem.W.codeIn K cdv x = true ∧ L2.Binds K (PySem.W.fnOf x x pg bg sg dV kV doc pm an cdv ct) [a] [] ∧ FnScope Ng [a] sg ∧ Ng[0]? = some a ∧ Vis sg a ∧ (a == ("__debug__" : Str)) = false ∧ (a == ("__classdict__" : Str)) = false ∧
    ∀ (X : Cx) (q : Str), X.K = K → X.mg = mg → X.A.units + 100 < cLine → GivesTo X Ng x sg g cdv bg a q (TTold2 K CP C0 C1 C2 C3)
  cls : ∀ c k, ex c = some k → ∃ cls, mg c = some cls ∧ TellC K CP C0 C1 C2 C3 cls k
theorem noPar_of {params : Arguments} (h : noPar params = true) : params = { posonlyargs := [], args := [], vararg := none, kwonlyargs := [], kw_defaults := [], kwarg := none, defaults := [] } := by
  obtain ⟨a, b, c, d, e, f, g⟩ := params
  unfold noPar at h
  simp only [Bool.and_eq_true, List.isEmpty_iff, Option.isNone_iff_eq_none] at h
  obtain ⟨⟨⟨⟨⟨⟨rfl, rfl⟩, rfl⟩, rfl⟩, rfl⟩, rfl⟩, rfl⟩ := h
  rfl
theorem gd_ext {W : Wd} {B H H' : Hp} (g : Gd W B H) (e : Ext W H H') (j : W.J H') : Stp W B H B H' :=
  ⟨e, Same.refl B, ⟨j, fun b u hb => e b u (g.same b u hb) (fun z => by rw [g.vol b z] at hb; cases hb), g.vol⟩, fun p h _ => h⟩
theorem told_rule {g : G} {M : Nm} {k : Nat} {Z : Sc} {X : Cx} {E : XK} {P c : Addr} {x q : Str} {CP C0 C1 C2 C3 : Addr} (hq : X.env.qual ++ ("<lambda>" : Str) = q) (G : Good0 (WL P q) g M (k + 2) Z X E) (hMt : M.told = [x]) (hx : (x == ("__debug__" : Str)) = false) (T : TellAt X.K X.mg g.ex x CP C0 C1 C2 C3) (TB : TabB X.base X.mg c P) (hc : X.env.code = .ref c)
    (tk : ∀ (A : Around) (outer : List PySem.Env) (s : Shared) (H : Hp) (E' : XK) (scope : Scope) (f c' : Addr), Takes (lamCx X A outer s H E' scope f c') (fun cls d _ H => E' cls d H))
    (hfn : ∀ r, g.lo = some r → ∀ f ps, g.fn f = some ps → ∃ a fd, FnOk X.prog X.w X.K X.mg X.base (L2.CX X.prog X.w) k a fd ps (spR (WL P q) X.K X.mg ps.length (r f)) ∧ L2.Binds X.K fd ps [] ∧ PySem.W.keepIn X.K (.ref a) = true ∧ X.mg f = some (.ref a)) :
    ToldRule (WL P q) g M (k + 2) Z X E := by
  subst hq
  intro r f params body scope lp p pos b hlo hM hgl hnp hls hbody
  rw [hMt] at hM
  have ef : f = x := by simpa using hM
  subst ef
  have ep := noPar_of hnp
  subst ep
  obtain ⟨ga, pg, bg, sg, dV, kV, doc, pm, cdv, ct, oc, an, od, osl, Ng, a, h1, h2, h3, h4, h5, h6, h7, h8, d2, d3, hG⟩ := T.fn
  have hgl' : Gl X f := by
    unfold glB at hgl
    rw [Bool.and_eq_true] at hgl
    show X.env.scope.names.lookup f = some .globalImplicit
    rw [G.sc]
    have q := hgl.1
    split at q
    · assumption
    · cases q
  have un : X.A.units + 100 < cLine := by have := G.room.un; omega
  refine (pe_lam3 (k := k) (t := fun E' => tP (WL P (X.env.qual ++ "<lambda>")) X E' (ev (g.low r) false b)) hgl' h1 h2 h3 h4 h5 h6 h7 h8 (hG X _ rfl rfl un) TB hc G.room (lamS_by (by rw [G.sc]; exact hls)) rfl (fun _ _ _ _ _ => rfl) (fun A outer s H E' fa c' hr => ?_) hx d2 d3).imp fun σ H Q h => ?_
  · exact hbody k _ E' { N := G.N, nd := G.nd, sc := rfl, fn := rfl, calm := rfl, room := hr, tk := tk A outer s H E' scope fa c', bl := G.bl, exc := G.exc, gl := G.gl, fk := G.fk, fns := hfn r hlo }
  · obtain ⟨B, env, gd, re, o⟩ := h
    dsimp only at o
    refine ⟨gd.j, fun H1 lam tab1 => ?_⟩
    have st := lamd_step gd lam tab1
    refine ⟨fun E' H' Q1 Q2 mono hq => ?_, ?_⟩
    · obtain ⟨B', env', gd', re', o'⟩ := hq
      exact ⟨B', env', gd', re', o'.imp fun d B1 H1 _ _ k v rv => mono v H1 (k v rv)⟩
    · refine ⟨B, env, st.gd, re, ?_⟩
      cases e : ev (g.low r) false b env with
      | bad => rw [e] at o; exact o.elim
      | ok d =>
        rw [e] at o
        intro B2 H2 st2 v rv p hp
        have o2 := OutG.step (st.trans st2) o
        exact Out.tup (ds := [.str "told", d]) (vs := [.str "told", v]) st2.gd (.cons (.str _) (.cons rv .nil)) o2 p hp
      | exc cn =>
        rw [e] at o
        have o' : OutG (WL P (X.env.qual ++ "<lambda>")) X.mg E B H (match g.ex cn with | some k => R.ok (PyData.tuple [.str "refused", .int (k : Int)]) | none => .bad) (fun d B' H' => ∀ v, Rp X.K B' v d → Q v H') := o
        cases ek : g.ex cn with
        | none => rw [ek] at o'; exact o'.elim
        | some kk =>
          rw [ek] at o'
          obtain ⟨cls', m1, tc⟩ := T.cls cn kk ek
          intro cls H' mc ext jj
          rw [m1] at mc
          cases mc
          refine ⟨rfl, kk, tc, fun l p1 p2 n1 n2 n3 => ?_⟩
          have s1 := gd_ext st.gd ext jj
          have s2 := Stp.newH s1.gd (.lst (kindsV kk)) n1
          have s3 := Stp.newH s2.gd (.tup [.str "refused", .int (-1)]) n2
          have s4 := Stp.new s3.gd (.tup [.str "refused", .int (kk : Int)]) n3
          exact o' _ _ (st.trans (s1.trans (s2.trans (s3.trans s4)))) _ (.tup (.inl (.inl upd_same)) (.cons (.str _) (.cons (.int _) .nil)))
end Ev
/-! EvF: every def that the reader takes keeps to the evaluator. -/
namespace Ev
open PySem PySem.Spec PyProof.Rows L2
/-- a def that may hold lambdas for a teller -/
def LamDef (W : Wd) (K : PySem.W.Frag) (mg : Str → Option Value) (base : Heap) (M : Nm) (ex : Str → Option Nat) (f : Str) (fd : FuncData) : Prop := ∃ (P c : Addr) (x : Str) (CP C0 C1 C2 C3 : Addr), W = WL P (f ++ ".<locals>." ++ "<lambda>") ∧ M.told = [x] ∧ (x == ("__debug__" : Str)) = false ∧ TellAt K mg ex x CP C0 C1 C2 C3 ∧ LamX.TabB base mg c P ∧ fd.code = .ref c
/-- a def as it stands behind the top -/
structure DefAt (W : Wd) (K : PySem.W.Frag) (mg : Str → Option Value) (base : Heap) (M : Nm) (ec : Str → Option Nat) (f : Str) (F : Fn) (a : Addr) (fd : FuncData) : Prop where
  ex : ∃ (st : Stmt) (N : List Str) (O : List Nat) (lam : Bool), Fun K f f st a fd ∧ fnScB N F.ps (defScope st) = true ∧ N.length = F.n ∧ F.body = trD M N O lam st ∧ (lam = true → LamDef W K mg base M ec f fd)
  mg : mg f = some (.ref a)
  binds : Binds K fd F.ps []
theorem fnSc_of {N ps : List Str} {sc : Scope} (h : fnScB N ps sc = true) : FnScope N ps sc := by
  unfold fnScB at h
  simp only [Bool.and_eq_true, Bool.not_eq_true', decide_eq_true_eq, List.all_eq_true] at h
  obtain ⟨⟨⟨⟨⟨⟨h1, h2⟩, h3⟩, h4⟩, h5⟩, h6⟩, h7⟩ := h
  refine ⟨?_, h2, h3, h4, h5, fun x hx => ?_, fun y hy z => ?_⟩
  · split at h1
    · assumption
    · cases h1
  · have := h6 x hx
    split at this
    · rename_i e; exact .inl e
    · rename_i e; exact .inr e
    · cases this
  · have := h7 y hy
    rw [z] at this
    cases this
theorem startE_get {n : Nat} {ds : List D} {i : Nat} {sl : Sl} (h : (startE n ds)[i]? = some (some sl)) : ∃ d, sl = .dat d ∧ ds[i]? = some d := by
  unfold startE at h
  by_cases hi : i < ds.length
  · rw [List.getElem?_append_left (by rw [List.length_map]; exact hi), List.getElem?_map, List.getElem?_eq_getElem hi] at h
    have h' : (some (Sl.dat ds[i])) = some sl := Option.some.inj h
    exact ⟨ds[i], (Option.some.inj h').symm, List.getElem?_eq_getElem hi⟩
  · rw [List.getElem?_append_right (by rw [List.length_map]; omega), List.getElem?_replicate] at h
    split at h <;> cases h
theorem start_get {N : List Str} {vs : List V} {i : Nat} {v : V} (h : vs[i]? = some v) : (L2.start N vs)[i]? = some (some v) := by
  unfold L2.start
  have hi := (List.getElem?_eq_some_iff.mp h).1
  rw [List.getElem?_append_left (by rw [List.length_map]; exact hi), List.getElem?_map, h]
  rfl
section
variable {W : Wd} {P : Pr} {M : Nm} {prog : Program} {w : World} {K : PySem.W.Frag} {mg : Str → Option Value} {base : Heap} {L : Nat}
/-- the whole table -/
structure TabOk (W : Wd) (P : Pr) (M : Nm) (prog : Program) (w : World) (K : PySem.W.Frag) (mg : Str → Option Value) (base : Heap) (L : Nat) : Prop where
  T : ∀ f F, P.T f = some F → ∃ a fd, DefAt W K mg base M P.ex f F a fd
  X : ∀ f q, P.X f = some q → ∃ a fd, FnOk prog w K mg base (L2.CX prog w) L a fd q.1 (spR W K mg q.1.length q.2) ∧ Binds K fd q.1 [] ∧ PySem.W.keepIn K (.ref a) = true ∧ mg f = some (.ref a)
  fk : ∀ f, M.fns.contains f = true → ∃ ps, P.fn f = some ps
  bl : ∀ x, M.bl.contains x = true → mg x = none
  exc : ∀ c, M.excs.contains c = true → ∃ C, mg c = some (.ref C) ∧ PySem.W.excIn K C [.type "ValueError", .type "Exception", .type "BaseException", .type "object"] "ValueError.__new__" = true ∧ PySem.W.keepIn K (.ref C) = true ∧
    PySem.W.subIn K (.ref C) (.type "BaseException") = some true ∧ PySem.W.typeIn K (.ref C) = some (.type "type")
  gl : ∀ x d, P.gl x = some d → ∃ v u, mg x = some u ∧ L2.RelV v u ∧ ∀ B, Rp K B v d
/-- a teller's rule within a def -/
theorem told_of {X : Cx} {Z : Sc} {E : XK} {n : Nat} {f : Str} {fd : FuncData} {lam : Bool} (hlam : lam = true → LamDef W K mg base M P.ex f fd) (good0 : Good0 W (gOf P n) M (L + n) Z X E) (hp : X.prog = prog) (hw : X.w = w) (hK : X.K = K) (hm : X.mg = mg) (hb : X.base = base) (hq : X.env.qual = f ++ ".<locals>.") (hc : X.env.code = fd.code)
    (tk : ∀ (A : Around) (outer : List PySem.Env) (s : Shared) (H : Hp) (E' : XK) (scope : Scope) (f c' : Addr), Takes (LamX.lamCx X A outer s H E' scope f c') (fun cls d _ H => E' cls d H)) (hex : ∀ q : Str → Option Nat, q = P.ex → q = P.ex)
    (il : ∀ m, n = m + 2 → ∀ f ps, P.fn f = some ps → ∃ a fd, FnOk prog w K mg base (L2.CX prog w) (L + m) a fd ps (spR W K mg ps.length (run P m f)) ∧ L2.Binds K fd ps [] ∧ PySem.W.keepIn K (.ref a) = true ∧ mg f = some (.ref a)) (hl : lam = true) : ToldRule W (gOf P n) M (L + n) Z X E := by
  subst hp hw hK hm hb
  obtain ⟨Pt, c, x, CP, C0, C1, C2, C3, hW, hMt, hxd, TA, TB, hcc⟩ := hlam hl
  rw [hcc] at hc
  cases n with
  | zero => exact fun r _ _ _ _ _ _ _ _ h => nomatch (show (none : Option (Str → List D → R D)) = some r from h)
  | succ n =>
    cases n with
    | zero => exact fun r _ _ _ _ _ _ _ _ h => nomatch (show (none : Option (Str → List D → R D)) = some r from h)
    | succ m =>
      subst hW
      exact told_rule (k := L + m) (congrArg (fun z : Str => z ++ ("<lambda>" : Str)) hq) good0 hMt hxd TA TB hc tk fun r hr f ps hf => by
        have er : run P m = r := Option.some.inj hr
        rw [← er]
        exact il m rfl f ps hf
theorem def_ok {n : Nat} {f : Str} {F : Fn} {a : Addr} {fd : FuncData} (T : TabOk W P M prog w K mg base L) (dd : DefAt W K mg base M P.ex f F a fd) (hx : P.X f = none) (hf : P.T f = some F)
    (ih : ∀ f ps, P.fn f = some ps → ∃ a fd, FnOk prog w K mg base (L2.CX prog w) (L + n) a fd ps (spR W K mg ps.length (run P n f)) ∧ L2.Binds K fd ps [] ∧ PySem.W.keepIn K (.ref a) = true ∧ mg f = some (.ref a))
    (il : ∀ m, n = m + 2 → ∀ f ps, P.fn f = some ps → ∃ a fd, FnOk prog w K mg base (L2.CX prog w) (L + m) a fd ps (spR W K mg ps.length (run P m f)) ∧ L2.Binds K fd ps [] ∧ PySem.W.keepIn K (.ref a) = true ∧ mg f = some (.ref a)) :
    FnOk prog w K mg base (L2.CX prog w) (L + n + 1) a fd F.ps (spR W K mg F.ps.length (run P (n + 1) f)) := by
  obtain ⟨st, N, O, lam, hF, hsc, hn, hb, hlam⟩ := dd.ex
  have S := fnSc_of hsc
  obtain ⟨oc, od, kV, doc, pm, an, cdv, ct, osl, efd, lk, hcd⟩ := hF.ex
  subst efd
  refine fn_of lk hcd S (fun vs H Q E h => h.1) (fun A outer s H vs Q E hr h => ?_)
  obtain ⟨hl, B, ds, gd, rs, o⟩ := h
  have good0 : Good0 W (gOf P n) M (L + n) ⟨N, defScope st, fun _ => true, lam⟩ (cxOf (L2.CX prog w) prog w K mg base N f (defScope st) a cdv A outer s H E) E :=
      { N := rfl
        nd := S.nd
        sc := rfl
        fn := rfl
        calm := rfl
        room := hr
        tk := takes_of rfl rfl rfl rfl
        bl := T.bl
        exc := fun c hc => by
          obtain ⟨C, h1, h2, h3, h4, h5⟩ := T.exc c hc
          exact ⟨C, h1, h2, h3, raises_own h4 h5⟩
        gl := T.gl
        fk := T.fk
        fns := ih }
  have told : lam = true → ToldRule W (gOf P n) M (L + n) ⟨N, defScope st, fun _ => true, lam⟩ (cxOf (L2.CX prog w) prog w K mg base N f (defScope st) a cdv A outer s H E) E := told_of hlam good0 rfl rfl rfl rfl rfl rfl rfl (fun A outer s H E' scope f c' => takes_of rfl rfl rfl rfl) (fun _ h => h) il
  have good : GoodS W (gOf P n) M (L + n) ⟨N, defScope st, fun _ => true, lam⟩ (cxOf (L2.CX prog w) prog w K mg base N f (defScope st) a cdv A outer s H E) E :=
    { gd := { toGood0 := good0, lam := told }
      kd := S.kind
      po := passes_of rfl }
  refine ⟨_, sSs good O (defBody st), B, H, B, B, startE F.n ds, ⟨gd, Stp.refl gd, Same.refl B, ?_⟩, ?_⟩
  · have hlen : vs.length = ds.length := rs.length
    refine ⟨?_, fun i d e => ?_, fun i ds' e => ?_, fun i j ds' es p e1 => ?_⟩
    · unfold L2.start startE
      rw [List.length_append, List.length_append, List.length_map, List.length_map, List.length_replicate, List.length_replicate, hlen, hn]
    · obtain ⟨d', e1, e2⟩ := startE_get e
      cases e1
      obtain ⟨v, h1, h2⟩ := rs.get e2
      exact ⟨v, start_get h1, h2⟩
    · obtain ⟨d', e1, e2⟩ := startE_get e
      cases e1
    · obtain ⟨d', e1', e2⟩ := startE_get e1
      cases e1'
  · rw [run_succ hx hf ds] at o
    have e : exs (gOf P n) F.body (startE F.n ds) = exs (gOf P n) (trSs M ⟨N, defScope st, fun _ => true, lam⟩ O (defBody st)) (startE F.n ds) := by rw [hb]; rfl
    rw [e] at o
    cases q : exs (gOf P n) (trSs M ⟨N, defScope st, fun _ => true, lam⟩ O (defBody st)) (startE F.n ds) with
    | nx env => rw [q] at o; exact fun σ B' H' si => o B' H' si.st .non .non
    | rt d => rw [q] at o; exact fun v B' H' st rv => o B' H' st v rv
    | bk env => rw [q] at o; exact o.elim
    | ct env => rw [q] at o; exact o.elim
    | exc c => rw [q] at o; exact o
    | bad => rw [q] at o; exact o.elim
theorem fn_ok (T : TabOk W P M prog w K mg base L) : ∀ (n : Nat) (f : Str) (ps : List Str), P.fn f = some ps → ∃ a fd, FnOk prog w K mg base (L2.CX prog w) (L + n) a fd ps (spR W K mg ps.length (run P n f)) ∧ L2.Binds K fd ps [] ∧ PySem.W.keepIn K (.ref a) = true ∧ mg f = some (.ref a)
  | 0, f, ps, h => by
    have triv : ∀ (a : Addr) (fd : FuncData), FnOk prog w K mg base (L2.CX prog w) (L + 0) a fd ps (spR W K mg ps.length (run P 0 f)) := fun a fd =>
      ⟨fun vs H Q E h => h.1, fun A outer s H args us vs Q E _ _ _ _ ⟨_, B, ds, _, _, o⟩ => o.elim⟩
    unfold Pr.fn at h
    split at h
    · rename_i q e
      cases h
      obtain ⟨a, fd, h1, h2, h3, h4⟩ := T.X f q e
      exact ⟨a, fd, triv a fd, h2, h3, h4⟩
    · cases e : P.T f with
      | none => rw [e] at h; cases h
      | some F =>
        rw [e] at h
        cases h
        obtain ⟨a, fd, dd⟩ := T.T f F e
        obtain ⟨st, N, O, lam, hF, _⟩ := dd.ex
        exact ⟨a, fd, triv a fd, dd.binds, hF.kp, dd.mg⟩
  | n + 1, f, ps, h => by
    have h0 := h
    unfold Pr.fn at h
    split at h
    · rename_i q e
      cases h
      obtain ⟨a, fd, h1, h2, h3, h4⟩ := T.X f q e
      refine ⟨a, fd, ?_, h2, h3, h4⟩
      rw [show run P (n + 1) f = q.2 from funext fun ds => run_given e ds]
      exact h1.mono (by omega)
    · rename_i hx
      cases e : P.T f with
      | none => rw [e] at h; cases h
      | some F =>
        rw [e] at h
        cases h
        obtain ⟨a, fd, dd⟩ := T.T f F e
        obtain ⟨st, N, O, lam, hF, _⟩ := dd.ex
        exact ⟨a, fd, def_ok T dd hx e (fn_ok T n) (fun m _ => fn_ok T m), dd.binds, hF.kp, dd.mg⟩
termination_by n => n
/-- a law's promise -/
def spLaw (K : PySem.W.Frag) : Sp := fun vs H Q _ => ∃ (a : Addr) (ns : List Int), vs = [.ref a] ∧ SqL K H a (ns.map V.int) ∧ ns.length ≤ 63 ∧ ∀ H', Q (.bl true) H'
theorem rp_ints {B : Hp} : ∀ ns : List Int, RpAll K B (ns.map V.int) (ns.map PyData.int)
  | [] => .nil
  | n :: ns => .cons (.int n) (rp_ints ns)
theorem law_F {fa : Addr} {fd : FuncData} {F : Fn} {x p : Str} {n : Nat} (T : ∀ base : Heap, K.In base → base.Ns mainGlobals mg → TabOk W0 P M prog w K mg base L) (dd : ∀ base : Heap, K.In base → base.Ns mainGlobals mg → DefAt W0 K mg base M P.ex x F fa fd) (hx : P.X x = none) (hf : P.T x = some F) (hps : F.ps = [p])
    (hb : ∀ (s : Shared) (u : Value), BindsTo s fd ⟨[u], []⟩ [(p, u)]) (law : ∀ ns : List Int, ns.length ≤ 63 → run P (n + 1) x [.list (ns.map PyData.int)] = .ok (.bool true)) :
    ∃ fd : FuncData, (∀ (s : Shared) (u : Value), BindsTo s fd ⟨[u], []⟩ [(p, u)]) ∧ ∀ base : Heap, K.In base → base.Ns mainGlobals mg → FnOk prog w K mg base (L2.CX prog w) (L + n + 1) fa fd [p] (spLaw K) := by
  refine ⟨fd, hb, fun base h1 h2 => ?_⟩
  have h := def_ok (T base h1 h2) (dd base h1 h2) hx hf (fn_ok (T base h1 h2) n) (fun m _ => fn_ok (T base h1 h2) m)
  rw [hps] at h
  refine FnOk.imp h fun vs H Q E ⟨a, ns, e1, hS, hl, q⟩ => ?_
  subst e1
  refine ⟨rfl, H, [.list (ns.map PyData.int)], ⟨trivial, Same.refl H, fun _ z => z.elim⟩, .cons (.lst hS (rp_ints ns)) .nil, ?_⟩
  rw [law ns hl]
  intro B' H' st v rv
  cases rv
  exact q H'
theorem cx_never (H : Hp) (s : Shared) (e : Value) (s' : Shared) (h : L2.CX prog w [] H s (fun _ _ _ => False) e s') : False := by
  obtain ⟨_, _, _, _, _, _, _, _, _, _, _, _, z⟩ := h
  exact z.elim
end
section
variable {P : Pr} {M : Nm} {prog : Program} {w : World} {K : PySem.W.Frag} {mg : Str → Option Value} {base : Heap} {L : Nat}
/-- a law's promise, where the law holds lambdas: its table is empty -/
def spLawL (K : PySem.W.Frag) (Pt : Addr) : Sp := fun vs H Q _ => ∃ (a : Addr) (ns : List Int), vs = [.ref a] ∧ SqL K H a (ns.map V.int) ∧ ns.length ≤ 63 ∧ H Pt = some (.tbl #[]) ∧ ∀ H', Q (.bl true) H'
theorem law_FL {fa Pt : Addr} {q : Str} {fd : FuncData} {F : Fn} {x p : Str} {n : Nat} (T : TabOk (WL Pt q) P M prog w K mg base L) (dd : DefAt (WL Pt q) K mg base M P.ex x F fa fd) (hx : P.X x = none) (hf : P.T x = some F) (hps : F.ps = [p])
    (law : ∀ ns : List Int, ns.length ≤ 63 → run P (n + 1) x [.list (ns.map PyData.int)] = .ok (.bool true)) : FnOk prog w K mg base (L2.CX prog w) (L + n + 1) fa fd [p] (spLawL K Pt) := by
  have h := def_ok T dd hx hf (fn_ok T n) (fun m _ => fn_ok T m)
  rw [hps] at h
  refine FnOk.imp h fun vs H Q E ⟨a, ns, e1, hS, hl, hP, k⟩ => ?_
  subst e1
  have nb : ∀ b, b ≠ Pt → (fun b => if b = Pt then none else H b : Hp) b = H b := fun b hb => if_neg hb
  have hSB : SqL K (fun b => if b = Pt then none else H b) a (ns.map V.int) := by
    rcases hS with (e | ⟨o, e⟩) | e
    · exact .inl (.inl ((nb a fun z => by rw [z, hP] at e; cases e).trans e))
    · exact .inl (.inr ⟨o, (nb a fun z => by rw [z, hP] at e; cases e).trans e⟩)
    · exact .inr e
  refine ⟨rfl, fun b => if b = Pt then none else H b, [.list (ns.map PyData.int)], ⟨LamX.TabS.nil hP, fun b o e => ?_, fun b hb => if_pos hb⟩, .cons (.lst hSB (rp_ints ns)) .nil, ?_⟩
  · by_cases hb : b = Pt
    · have e' : (if b = Pt then none else H b) = some o := e
      rw [if_pos hb] at e'
      cases e'
    · exact (nb b hb).symm.trans e
  · rw [law ns hl]
    intro B' H' st v rv
    cases rv
    exact k H'
end
/-- the end of a law that holds lambdas -/
theorem walk_told {l : PySem.W.OpenLaw} {n k : Nat} {q : Program} {loose : List Str} {XP : (Str → Option Value) → Heap → Prop} {YP : World → Heap → Prop} {d : DefRec} {K : Params → PySem.W.Frag} {x : Str} {c Pt : Addr}
    (hn : l.most = some n) (h63 : n ≤ 63) (hdf : d.params.defaults = []) (hr : Room k callerA) (hY : ∀ (w : World) (h : Heap), YP w h → (K w.params).In h) (hrec : (recsOf q).find? (fun e => e.name == d.name) = some d)
    (ht : ∀ w : World, PySem.W.tabIn (K w.params) d.name = some (c, Pt)) (nT : ∀ w : World, (K w.params).lookup Pt = none)
    (F : ∀ (w : World) (mg : Str → Option Value) (fa : Addr) (h : Heap), (K w.params).In h → h.Ns mainGlobals mg → mg d.name = some (.ref fa) →
      ∃ fd : FuncData, (∀ (s : Shared) (u : Value), BindsTo s fd ⟨[u], []⟩ [(x, u)]) ∧ ∀ base : Heap, (K w.params).In base → base.Ns mainGlobals mg → LamX.TabB base mg c Pt → FnOk l.prog w (K w.params) mg base (L2.CX l.prog w) k fa fd [x] (spLawL (K w.params) Pt)) :
    PySem.W.WalkO q loose XP YP l.row.toRowW d [] (fun f vs => PySem.call f vs) := by
  refine Att.attach_callB hn hdf fun w s₀ s₁ mg mb fa o pm cd doc a vs ns G Y ho hd hcd hmg hobj hints hlen hbits hg => ?_
  have KX := hY w _ Y
  obtain ⟨hC, hP⟩ := PySem.W.tab_of G.T KX hrec (ht w)
  obtain ⟨fd, hb, hF⟩ := F w mg fa _ KX G.T.g hmg
  have one : ∀ {p : Addr × Addr}, p ∈ [(c, Pt)] → p = (c, Pt) := fun h => List.mem_singleton.mp h
  exact LamX.law_callTs (cs := [(c, Pt)]) (sp := spLawL (K w.params) Pt) KX G.T.g G.T.b G.T.builtins G.T.nolimit hg (fun p hp => by rw [one hp]; exact hP) (fun p hp => by rw [one hp]; exact nT w) (fun p hp => by rw [one hp]; exact hC) G.T.bmain hobj hints
    (Nat.le_trans hlen (Nat.le_trans h63 (by decide))) hr (fun base h1 h2 h3 => hF base h1 h2 (h3 _ List.mem_cons_self)) hb (fun H hH hS => ⟨a, ns, rfl, hS, Nat.le_trans hlen h63, hH _ List.mem_cons_self, fun _ => rfl⟩) fun H e s' => cx_never H s₁ e s'
theorem all_cons {α : Type} {p : α → Prop} {a : α} {l : List α} (h : p a) (t : ∀ x ∈ l, p x) : ∀ x ∈ a :: l, p x := fun x hx => (List.mem_cons.mp hx).elim (fun e => e ▸ h) (t x)
theorem all_nil {α : Type} {p : α → Prop} : ∀ x ∈ ([] : List α), p x := fun x hx => nomatch hx
theorem lookup_mem {β : Type} {f : Str} {b : β} : ∀ {l : List (Str × β)}, l.lookup f = some b → (f, b) ∈ l
  | [], h => by cases h
  | (g, c) :: l, h => by
    rw [List.lookup_cons] at h
    split at h
    · rename_i e
      cases h
      have e' : f = g := by simpa using e
      rw [e']
      exact List.mem_cons_self
    · exact List.mem_cons_of_mem _ (lookup_mem h)
theorem some_of_isSome {α : Type} {o : Option α} (h : o.isSome = true) : ∃ a, o = some a := Option.isSome_iff_exists.mp h
/-- the def f of P: k parameters, n slots, the body b -/
def Has (P : Pr) (f : Str) (k n : Nat) (b : List S) : Prop := P.X f = none ∧ ∃ ps : List Str, ps.length = k ∧ P.T f = some ⟨ps, n, b⟩
theorem Has.run {P : Pr} {f : Str} {k n : Nat} {b : List S} (h : Has P f k n b) (m : Nat) (ds : List D) : Ev.run P (m + 1) f ds = (exs (gOf P m) b (startE n ds)).out := by
  obtain ⟨hx, ps, _, ht⟩ := h
  exact run_succ hx ht ds
end Ev
/-! EvBd: the bodies of the defs, as the reader gives them. Printed by genb.py. -/
namespace Ev.B
open PySem Ev
def is_name : List S := [(.ret (.band (.isi (.slot 0) .str) (.band (.cmp2 .LtE .LtE (.cst (.int (1))) (.blt .len [(.slot 0)]) (.glob "MOST_NAME")) (.blt .all [(.lc [1] (.nm 1) (.sq (.slot 0)) (.cst (.bool true)) (.cmp .In (.slot 1) (.glob "LETTERS")))]))))]
theorem u_is_name (g : G) (env : Env) : exs g is_name env = exs g [(.ret (.band (.isi (.slot 0) .str) (.band (.cmp2 .LtE .LtE (.cst (.int (1))) (.blt .len [(.slot 0)]) (.glob "MOST_NAME")) (.blt .all [(.lc [1] (.nm 1) (.sq (.slot 0)) (.cst (.bool true)) (.cmp .In (.slot 1) (.glob "LETTERS")))]))))] env := rfl
def is_line : List S := [(.ret (.band (.isi (.slot 0) .str) (.band (.cmp .LtE (.blt .len [(.slot 0)]) (.glob "MOST_LINE")) (.blt .all [(.lc [1] (.nm 1) (.sq (.slot 0)) (.cst (.bool true)) (.cmp2 .LtE .LtE (.cst (.str " ")) (.slot 1) (.cst (.str "~"))))]))))]
theorem u_is_line (g : G) (env : Env) : exs g is_line env = exs g [(.ret (.band (.isi (.slot 0) .str) (.band (.cmp .LtE (.blt .len [(.slot 0)]) (.glob "MOST_LINE")) (.blt .all [(.lc [1] (.nm 1) (.sq (.slot 0)) (.cst (.bool true)) (.cmp2 .LtE .LtE (.cst (.str " ")) (.slot 1) (.cst (.str "~"))))]))))] env := rfl
def is_border : List S := [(.ife (.bor (.bnot (.isi (.slot 0) .tuple)) (.bor (.cmp .NotEq (.blt .len [(.slot 0)]) (.cst (.int (2)))) (.bnot (.isi (.ix (.slot 0) (.cst (.int (0)))) .str)))) [(.ret (.cst (.bool false)))] []), (.ret (.band (.cmp .In (.ix (.slot 0) (.cst (.int (0)))) (.glob "BORDERS")) (.call "is_name" [(.ix (.slot 0) (.cst (.int (1))))])))]
theorem u_is_border (g : G) (env : Env) : exs g is_border env = exs g [(.ife (.bor (.bnot (.isi (.slot 0) .tuple)) (.bor (.cmp .NotEq (.blt .len [(.slot 0)]) (.cst (.int (2)))) (.bnot (.isi (.ix (.slot 0) (.cst (.int (0)))) .str)))) [(.ret (.cst (.bool false)))] []), (.ret (.band (.cmp .In (.ix (.slot 0) (.cst (.int (0)))) (.glob "BORDERS")) (.call "is_name" [(.ix (.slot 0) (.cst (.int (1))))])))] env := rfl
def is_row : List S := [(.ife (.call "is_border" [(.slot 0)]) [(.ret (.cst (.bool true)))] []), (.ret (.band (.isi (.slot 0) .tuple) (.band (.cmp .Eq (.blt .len [(.slot 0)]) (.cst (.int (2)))) (.band (.cmp .Eq (.ix (.slot 0) (.cst (.int (0)))) (.glob "LINE")) (.call "is_line" [(.ix (.slot 0) (.cst (.int (1))))])))))]
theorem u_is_row (g : G) (env : Env) : exs g is_row env = exs g [(.ife (.call "is_border" [(.slot 0)]) [(.ret (.cst (.bool true)))] []), (.ret (.band (.isi (.slot 0) .tuple) (.band (.cmp .Eq (.blt .len [(.slot 0)]) (.cst (.int (2)))) (.band (.cmp .Eq (.ix (.slot 0) (.cst (.int (0)))) (.glob "LINE")) (.call "is_line" [(.ix (.slot 0) (.cst (.int (1))))])))))] env := rfl
def are_rows : List S := [(.ret (.band (.isi (.slot 0) .tuple) (.band (.cmp .LtE (.blt .len [(.slot 0)]) (.glob "MOST_ROWS")) (.blt .all [(.lc [1] (.nm 1) (.sq (.slot 0)) (.cst (.bool true)) (.call "is_row" [(.slot 1)]))]))))]
theorem u_are_rows (g : G) (env : Env) : exs g are_rows env = exs g [(.ret (.band (.isi (.slot 0) .tuple) (.band (.cmp .LtE (.blt .len [(.slot 0)]) (.glob "MOST_ROWS")) (.blt .all [(.lc [1] (.nm 1) (.sq (.slot 0)) (.cst (.bool true)) (.call "is_row" [(.slot 1)]))]))))] env := rfl
def is_tree : List S := [(.ife (.bnot (.isi (.slot 0) .tuple)) [(.ret (.cst (.bool false)))] []), (.ret (.blt .all [(.lc [1] (.nm 1) (.sq (.slot 0)) (.cst (.bool true)) (.bor (.call "is_line" [(.slot 1)]) (.call "is_letter" [(.slot 1)])))]))]
theorem u_is_tree (g : G) (env : Env) : exs g is_tree env = exs g [(.ife (.bnot (.isi (.slot 0) .tuple)) [(.ret (.cst (.bool false)))] []), (.ret (.blt .all [(.lc [1] (.nm 1) (.sq (.slot 0)) (.cst (.bool true)) (.bor (.call "is_line" [(.slot 1)]) (.call "is_letter" [(.slot 1)])))]))] env := rfl
def is_letter : List S := [(.ife (.bor (.bnot (.isi (.slot 0) .tuple)) (.bor (.cmp .NotEq (.blt .len [(.slot 0)]) (.cst (.int (2)))) (.bnot (.call "is_name" [(.ix (.slot 0) (.cst (.int (0))))])))) [(.ret (.cst (.bool false)))] []), (.ret (.band (.isi (.ix (.slot 0) (.cst (.int (1)))) .tuple) (.band (.cmp .Gt (.blt .len [(.ix (.slot 0) (.cst (.int (1))))]) (.cst (.int (0)))) (.blt .all [(.lc [1] (.nm 1) (.sq (.ix (.slot 0) (.cst (.int (1))))) (.cst (.bool true)) (.call "is_tree" [(.slot 1)]))]))))]
theorem u_is_letter (g : G) (env : Env) : exs g is_letter env = exs g [(.ife (.bor (.bnot (.isi (.slot 0) .tuple)) (.bor (.cmp .NotEq (.blt .len [(.slot 0)]) (.cst (.int (2)))) (.bnot (.call "is_name" [(.ix (.slot 0) (.cst (.int (0))))])))) [(.ret (.cst (.bool false)))] []), (.ret (.band (.isi (.ix (.slot 0) (.cst (.int (1)))) .tuple) (.band (.cmp .Gt (.blt .len [(.ix (.slot 0) (.cst (.int (1))))]) (.cst (.int (0)))) (.blt .all [(.lc [1] (.nm 1) (.sq (.ix (.slot 0) (.cst (.int (1))))) (.cst (.bool true)) (.call "is_tree" [(.slot 1)]))]))))] env := rfl
def _law_cell_at : List S := [(.ife (.cmp .Lt (.slot 1) (.blt .len [(.slot 0)])) [(.ret (.ix (.slot 0) (.slot 1)))] []), (.ret (.cst (.int (0))))]
theorem u__law_cell_at (g : G) (env : Env) : exs g _law_cell_at env = exs g [(.ife (.cmp .Lt (.slot 1) (.blt .len [(.slot 0)])) [(.ret (.ix (.slot 0) (.slot 1)))] []), (.ret (.cst (.int (0))))] env := rfl
def _law_mixed : List S := [(.set 2 (.bin .Mod (.bin .Mult (.bin .Add (.bin .Add (.call "_law_cell_at" [(.slot 0), (.slot 1)]) (.bin .Mult (.cst (.int (7919))) (.slot 1))) (.cst (.int (1)))) (.cst (.int (48271)))) (.cst (.int (2147483647))))), (.ret (.bin .Mod (.bin .Add (.bin .Add (.bin .Mult (.slot 2) (.slot 2)) (.bin .Mult (.cst (.int (7))) (.slot 2))) (.slot 1)) (.cst (.int (2147483629)))))]
theorem u__law_mixed (g : G) (env : Env) : exs g _law_mixed env = exs g [(.set 2 (.bin .Mod (.bin .Mult (.bin .Add (.bin .Add (.call "_law_cell_at" [(.slot 0), (.slot 1)]) (.bin .Mult (.cst (.int (7919))) (.slot 1))) (.cst (.int (1)))) (.cst (.int (48271)))) (.cst (.int (2147483647))))), (.ret (.bin .Mod (.bin .Add (.bin .Add (.bin .Mult (.slot 2) (.slot 2)) (.bin .Mult (.cst (.int (7))) (.slot 2))) (.slot 1)) (.cst (.int (2147483629)))))] env := rfl
def _law_drawn : List S := [(.set 2 (.bin .Mod (.bin .Mult (.bin .Add (.bin .Add (.slot 0) (.bin .Mult (.cst (.int (104729))) (.slot 1))) (.cst (.int (17)))) (.cst (.int (69621)))) (.cst (.int (2147483647))))), (.ret (.bin .Mod (.bin .Add (.bin .Add (.bin .Mult (.slot 2) (.slot 2)) (.bin .Mult (.cst (.int (3))) (.slot 2))) (.slot 1)) (.cst (.int (2147483629)))))]
theorem u__law_drawn (g : G) (env : Env) : exs g _law_drawn env = exs g [(.set 2 (.bin .Mod (.bin .Mult (.bin .Add (.bin .Add (.slot 0) (.bin .Mult (.cst (.int (104729))) (.slot 1))) (.cst (.int (17)))) (.cst (.int (69621)))) (.cst (.int (2147483647))))), (.ret (.bin .Mod (.bin .Add (.bin .Add (.bin .Mult (.slot 2) (.slot 2)) (.bin .Mult (.cst (.int (3))) (.slot 2))) (.slot 1)) (.cst (.int (2147483629)))))] env := rfl
def _law_row : List S := [(.set 2 (.ix (.tup [(.cst (.str "line")), (.cst (.str "open")), (.cst (.str "close")), (.cst (.str "next")), (.cst (.str "open")), (.cst (.str "close")), (.cst (.str "line"))]) (.bin .Mod (.bin .FloorDiv (.slot 0) (.cst (.int (16)))) (.cst (.int (7)))))), (.ife (.cmp .Eq (.slot 2) (.cst (.str "line"))) [(.ret (.tup [(.slot 2), (.ix (.tup [(.cst (.str "")), (.cst (.str "a")), (.cst (.str "x y")), (.cst (.str "[a")), (.cst (.str "hello")), (.cst (.str "~ ~"))]) (.bin .Mod (.bin .FloorDiv (.slot 0) (.cst (.int (256)))) (.cst (.int (6)))))]))] []), (.ret (.tup [(.slot 2), (.ix (.tup [(.cst (.str "a")), (.cst (.str "b")), (.cst (.str "cd"))]) (.bin .Mod (.bin .FloorDiv (.slot 0) (.cst (.int (2048)))) (.slot 1)))]))]
theorem u__law_row (g : G) (env : Env) : exs g _law_row env = exs g [(.set 2 (.ix (.tup [(.cst (.str "line")), (.cst (.str "open")), (.cst (.str "close")), (.cst (.str "next")), (.cst (.str "open")), (.cst (.str "close")), (.cst (.str "line"))]) (.bin .Mod (.bin .FloorDiv (.slot 0) (.cst (.int (16)))) (.cst (.int (7)))))), (.ife (.cmp .Eq (.slot 2) (.cst (.str "line"))) [(.ret (.tup [(.slot 2), (.ix (.tup [(.cst (.str "")), (.cst (.str "a")), (.cst (.str "x y")), (.cst (.str "[a")), (.cst (.str "hello")), (.cst (.str "~ ~"))]) (.bin .Mod (.bin .FloorDiv (.slot 0) (.cst (.int (256)))) (.cst (.int (6)))))]))] []), (.ret (.tup [(.slot 2), (.ix (.tup [(.cst (.str "a")), (.cst (.str "b")), (.cst (.str "cd"))]) (.bin .Mod (.bin .FloorDiv (.slot 0) (.cst (.int (2048)))) (.slot 1)))]))] env := rfl
def _law_rows : List S := [(.set 2 (.bin .Add (.cst (.int (1))) (.bin .Mod (.bin .FloorDiv (.slot 0) (.cst (.int (16)))) (.cst (.int (3)))))), (.ret (.blt .tuple [(.lc [3] (.nm 3) (.rng (.cst (.int (0))) (.bin .Mod (.slot 0) (.bin .Add (.slot 1) (.cst (.int (1)))))) (.cst (.bool true)) (.call "_law_row" [(.call "_law_drawn" [(.slot 0), (.bin .Add (.cst (.int (10))) (.slot 3))]), (.slot 2)]))]))]
theorem u__law_rows (g : G) (env : Env) : exs g _law_rows env = exs g [(.set 2 (.bin .Add (.cst (.int (1))) (.bin .Mod (.bin .FloorDiv (.slot 0) (.cst (.int (16)))) (.cst (.int (3)))))), (.ret (.blt .tuple [(.lc [3] (.nm 3) (.rng (.cst (.int (0))) (.bin .Mod (.slot 0) (.bin .Add (.slot 1) (.cst (.int (1)))))) (.cst (.bool true)) (.call "_law_row" [(.call "_law_drawn" [(.slot 0), (.bin .Add (.cst (.int (10))) (.slot 3))]), (.slot 2)]))]))] env := rfl
def l1__law_tree : List S := [(.set 4 (.call "_law_drawn" [(.slot 0), (.bin .Add (.cst (.int (30))) (.slot 3))])), (.ife (.band (.cmp .Gt (.slot 1) (.cst (.int (0)))) (.cmp .Eq (.bin .Mod (.bin .FloorDiv (.slot 4) (.cst (.int (16)))) (.cst (.int (2)))) (.cst (.int (0))))) [(.set 5 (.blt .tuple [(.lc [6] (.nm 6) (.rng (.cst (.int (0))) (.bin .Add (.cst (.int (1))) (.bin .Mod (.bin .FloorDiv (.slot 4) (.cst (.int (32)))) (.cst (.int (3)))))) (.cst (.bool true)) (.call "_law_tree" [(.call "_law_drawn" [(.slot 4), (.slot 6)]), (.bin .Sub (.slot 1) (.cst (.int (1))))]))])), (.set 2 (.bin .Add (.slot 2) (.tup [(.tup [(.ix (.tup [(.cst (.str "a")), (.cst (.str "b")), (.cst (.str "cd"))]) (.bin .Mod (.bin .FloorDiv (.slot 4) (.cst (.int (128)))) (.cst (.int (3))))), (.slot 5)])])))] [(.set 2 (.bin .Add (.slot 2) (.tup [(.ix (.tup [(.cst (.str "")), (.cst (.str "a")), (.cst (.str "x y")), (.cst (.str "[a")), (.cst (.str "hello")), (.cst (.str "]b"))]) (.bin .Mod (.bin .FloorDiv (.slot 4) (.cst (.int (128)))) (.cst (.int (6)))))])))])]
theorem u_l1__law_tree (g : G) (env : Env) : exs g l1__law_tree env = exs g [(.set 4 (.call "_law_drawn" [(.slot 0), (.bin .Add (.cst (.int (30))) (.slot 3))])), (.ife (.band (.cmp .Gt (.slot 1) (.cst (.int (0)))) (.cmp .Eq (.bin .Mod (.bin .FloorDiv (.slot 4) (.cst (.int (16)))) (.cst (.int (2)))) (.cst (.int (0))))) [(.set 5 (.blt .tuple [(.lc [6] (.nm 6) (.rng (.cst (.int (0))) (.bin .Add (.cst (.int (1))) (.bin .Mod (.bin .FloorDiv (.slot 4) (.cst (.int (32)))) (.cst (.int (3)))))) (.cst (.bool true)) (.call "_law_tree" [(.call "_law_drawn" [(.slot 4), (.slot 6)]), (.bin .Sub (.slot 1) (.cst (.int (1))))]))])), (.set 2 (.bin .Add (.slot 2) (.tup [(.tup [(.ix (.tup [(.cst (.str "a")), (.cst (.str "b")), (.cst (.str "cd"))]) (.bin .Mod (.bin .FloorDiv (.slot 4) (.cst (.int (128)))) (.cst (.int (3))))), (.slot 5)])])))] [(.set 2 (.bin .Add (.slot 2) (.tup [(.ix (.tup [(.cst (.str "")), (.cst (.str "a")), (.cst (.str "x y")), (.cst (.str "[a")), (.cst (.str "hello")), (.cst (.str "]b"))]) (.bin .Mod (.bin .FloorDiv (.slot 4) (.cst (.int (128)))) (.cst (.int (6)))))])))])] env := rfl
def _law_tree : List S := [(.set 2 (.tup [])), (.for (.nm 3) (.rng (.cst (.int (0))) (.bin .Mod (.bin .FloorDiv (.slot 0) (.cst (.int (16)))) (.cst (.int (4))))) l1__law_tree), (.ret (.slot 2))]
theorem u__law_tree (g : G) (env : Env) : exs g _law_tree env = exs g [(.set 2 (.tup [])), (.for (.nm 3) (.rng (.cst (.int (0))) (.bin .Mod (.bin .FloorDiv (.slot 0) (.cst (.int (16)))) (.cst (.int (4))))) l1__law_tree), (.ret (.slot 2))] env := rfl
def _law_spoilt : List S := [(.ife (.band (.cmp .Gt (.slot 2) (.cst (.int (0)))) (.band (.isi (.slot 0) .tuple) (.band (.cmp .Gt (.blt .len [(.slot 0)]) (.cst (.int (0)))) (.cmp .Gt (.bin .Mod (.slot 1) (.cst (.int (6)))) (.cst (.int (0))))))) [(.set 3 (.bin .Mod (.bin .FloorDiv (.slot 1) (.cst (.int (6)))) (.blt .len [(.slot 0)]))), (.set 4 (.call "_law_spoilt" [(.ix (.slot 0) (.slot 3)), (.bin .FloorDiv (.call "_law_drawn" [(.slot 1), (.slot 2)]) (.cst (.int (4)))), (.bin .Sub (.slot 2) (.cst (.int (1))))])), (.ret (.bin .Add (.bin .Add (.cut (.slot 0) none (some (.slot 3))) (.tup [(.slot 4)])) (.cut (.slot 0) (some (.bin .Add (.slot 3) (.cst (.int (1))))) none)))] []), (.ife (.band (.isi (.slot 0) .tuple) (.band (.cmp .Gt (.blt .len [(.slot 0)]) (.cst (.int (0)))) (.cmp .Eq (.bin .Mod (.bin .FloorDiv (.slot 1) (.cst (.int (6)))) (.cst (.int (2)))) (.cst (.int (0)))))) [(.ret (.ix (.lst [(.blt .list [(.slot 0)]), (.cut (.slot 0) none (some (.neg (.cst (.int (1)))))), (.bin .Add (.slot 0) (.cut (.slot 0) (some (.neg (.cst (.int (1))))) none)), (.cut (.slot 0) (some (.cst (.int (1)))) none), (.rev (.slot 0)), (.tup [])]) (.bin .Mod (.bin .FloorDiv (.slot 1) (.cst (.int (12)))) (.cst (.int (6))))))] []), (.ife (.band (.isi (.slot 0) .str) (.cmp .Eq (.bin .Mod (.bin .FloorDiv (.slot 1) (.cst (.int (6)))) (.cst (.int (2)))) (.cst (.int (0))))) [(.ret (.ix (.lst [(.bin .Add (.slot 0) (.cst (.str "a"))), (.cut (.slot 0) (some (.cst (.int (1)))) none), (.bin .Add (.slot 0) (.cst (.str "1"))), (.meth .upper (.slot 0) []), (.bin .Mult (.slot 0) (.cst (.int (2)))), (.rev (.slot 0))]) (.bin .Mod (.bin .FloorDiv (.slot 1) (.cst (.int (12)))) (.cst (.int (6))))))] []), (.ife (.band (.isi (.slot 0) .int) (.cmp .Eq (.bin .Mod (.bin .FloorDiv (.slot 1) (.cst (.int (6)))) (.cst (.int (2)))) (.cst (.int (0))))) [(.ret (.ix (.lst [(.blt .str [(.slot 0)]), (.bin .Sub (.cst (.int (0))) (.slot 0)), (.bin .Add (.slot 0) (.cst (.int (1)))), (.cmp .Eq (.slot 0) (.cst (.int (1)))), (.bin .Sub (.slot 0) (.cst (.int (1)))), (.bin .Add (.slot 0) (.cst (.int (60))))]) (.bin .Mod (.bin .FloorDiv (.slot 1) (.cst (.int (12)))) (.cst (.int (6))))))] []), (.set 5 (.lst [(.cst .none), (.cst (.bool true)), (.cst (.bool false)), (.cst (.int (0))), (.cst (.int (1))), (.cst (.int (5))), (.cst (.int (14))), (.neg (.cst (.int (1)))), (.cst (.int (2))), (.cst (.str "")), (.cst (.str "a")), (.cst (.str "line")), (.cst (.str "open")), (.cst (.str "close"))])), (.set 5 (.bin .Add (.slot 5) (.lst [(.cst (.str "abcde")), (.cst (.str "A")), (.tup []), (.lst []), (.tup [(.cst (.str "line")), (.cst (.str "a"))]), (.tup [(.cst (.str "a")), (.tup [(.tup [])])])]))), (.ret (.ix (.slot 5) (.bin .Mod (.bin .FloorDiv (.slot 1) (.cst (.int (6)))) (.cst (.int (20))))))]
theorem u__law_spoilt (g : G) (env : Env) : exs g _law_spoilt env = exs g [(.ife (.band (.cmp .Gt (.slot 2) (.cst (.int (0)))) (.band (.isi (.slot 0) .tuple) (.band (.cmp .Gt (.blt .len [(.slot 0)]) (.cst (.int (0)))) (.cmp .Gt (.bin .Mod (.slot 1) (.cst (.int (6)))) (.cst (.int (0))))))) [(.set 3 (.bin .Mod (.bin .FloorDiv (.slot 1) (.cst (.int (6)))) (.blt .len [(.slot 0)]))), (.set 4 (.call "_law_spoilt" [(.ix (.slot 0) (.slot 3)), (.bin .FloorDiv (.call "_law_drawn" [(.slot 1), (.slot 2)]) (.cst (.int (4)))), (.bin .Sub (.slot 2) (.cst (.int (1))))])), (.ret (.bin .Add (.bin .Add (.cut (.slot 0) none (some (.slot 3))) (.tup [(.slot 4)])) (.cut (.slot 0) (some (.bin .Add (.slot 3) (.cst (.int (1))))) none)))] []), (.ife (.band (.isi (.slot 0) .tuple) (.band (.cmp .Gt (.blt .len [(.slot 0)]) (.cst (.int (0)))) (.cmp .Eq (.bin .Mod (.bin .FloorDiv (.slot 1) (.cst (.int (6)))) (.cst (.int (2)))) (.cst (.int (0)))))) [(.ret (.ix (.lst [(.blt .list [(.slot 0)]), (.cut (.slot 0) none (some (.neg (.cst (.int (1)))))), (.bin .Add (.slot 0) (.cut (.slot 0) (some (.neg (.cst (.int (1))))) none)), (.cut (.slot 0) (some (.cst (.int (1)))) none), (.rev (.slot 0)), (.tup [])]) (.bin .Mod (.bin .FloorDiv (.slot 1) (.cst (.int (12)))) (.cst (.int (6))))))] []), (.ife (.band (.isi (.slot 0) .str) (.cmp .Eq (.bin .Mod (.bin .FloorDiv (.slot 1) (.cst (.int (6)))) (.cst (.int (2)))) (.cst (.int (0))))) [(.ret (.ix (.lst [(.bin .Add (.slot 0) (.cst (.str "a"))), (.cut (.slot 0) (some (.cst (.int (1)))) none), (.bin .Add (.slot 0) (.cst (.str "1"))), (.meth .upper (.slot 0) []), (.bin .Mult (.slot 0) (.cst (.int (2)))), (.rev (.slot 0))]) (.bin .Mod (.bin .FloorDiv (.slot 1) (.cst (.int (12)))) (.cst (.int (6))))))] []), (.ife (.band (.isi (.slot 0) .int) (.cmp .Eq (.bin .Mod (.bin .FloorDiv (.slot 1) (.cst (.int (6)))) (.cst (.int (2)))) (.cst (.int (0))))) [(.ret (.ix (.lst [(.blt .str [(.slot 0)]), (.bin .Sub (.cst (.int (0))) (.slot 0)), (.bin .Add (.slot 0) (.cst (.int (1)))), (.cmp .Eq (.slot 0) (.cst (.int (1)))), (.bin .Sub (.slot 0) (.cst (.int (1)))), (.bin .Add (.slot 0) (.cst (.int (60))))]) (.bin .Mod (.bin .FloorDiv (.slot 1) (.cst (.int (12)))) (.cst (.int (6))))))] []), (.set 5 (.lst [(.cst .none), (.cst (.bool true)), (.cst (.bool false)), (.cst (.int (0))), (.cst (.int (1))), (.cst (.int (5))), (.cst (.int (14))), (.neg (.cst (.int (1)))), (.cst (.int (2))), (.cst (.str "")), (.cst (.str "a")), (.cst (.str "line")), (.cst (.str "open")), (.cst (.str "close"))])), (.set 5 (.bin .Add (.slot 5) (.lst [(.cst (.str "abcde")), (.cst (.str "A")), (.tup []), (.lst []), (.tup [(.cst (.str "line")), (.cst (.str "a"))]), (.tup [(.cst (.str "a")), (.tup [(.tup [])])])]))), (.ret (.ix (.slot 5) (.bin .Mod (.bin .FloorDiv (.slot 1) (.cst (.int (6)))) (.cst (.int (20))))))] env := rfl
def _law_spoilt_v2 : List S := [(.set 3 (.call "_law_places_in" [(.slot 0), (.tup [])])), (.set 4 (.ix (.slot 3) (.bin .Mod (.slot 1) (.blt .len [(.slot 3)])))), (.ret (.call "_law_put_at" [(.slot 0), (.slot 4), .bad]))]
theorem u__law_spoilt_v2 (g : G) (env : Env) : exs g _law_spoilt_v2 env = exs g [(.set 3 (.call "_law_places_in" [(.slot 0), (.tup [])])), (.set 4 (.ix (.slot 3) (.bin .Mod (.slot 1) (.blt .len [(.slot 3)])))), (.ret (.call "_law_put_at" [(.slot 0), (.slot 4), .bad]))] env := rfl
def _law_is_name : List S := [(.ife (.bor (.bnot (.isi (.slot 0) .str)) (.bnot (.cmp2 .LtE .LtE (.cst (.int (1))) (.blt .len [(.slot 0)]) (.cst (.int (4)))))) [(.ret (.cst (.bool false)))] []), (.ret (.cmp .Eq (.lc [1] (.nm 1) (.sq (.slot 0)) (.bnot (.cmp2 .LtE .LtE (.cst (.str "a")) (.slot 1) (.cst (.str "z")))) (.slot 1)) (.lst [])))]
theorem u__law_is_name (g : G) (env : Env) : exs g _law_is_name env = exs g [(.ife (.bor (.bnot (.isi (.slot 0) .str)) (.bnot (.cmp2 .LtE .LtE (.cst (.int (1))) (.blt .len [(.slot 0)]) (.cst (.int (4)))))) [(.ret (.cst (.bool false)))] []), (.ret (.cmp .Eq (.lc [1] (.nm 1) (.sq (.slot 0)) (.bnot (.cmp2 .LtE .LtE (.cst (.str "a")) (.slot 1) (.cst (.str "z")))) (.slot 1)) (.lst [])))] env := rfl
def _law_is_text : List S := [(.ret (.band (.isi (.slot 0) .str) (.band (.cmp .LtE (.blt .len [(.slot 0)]) (.cst (.int (12)))) (.cmp .Eq (.lc [1] (.nm 1) (.sq (.slot 0)) (.bnot (.cmp2 .LtE .LtE (.cst (.str " ")) (.slot 1) (.cst (.str "~")))) (.slot 1)) (.lst [])))))]
theorem u__law_is_text (g : G) (env : Env) : exs g _law_is_text env = exs g [(.ret (.band (.isi (.slot 0) .str) (.band (.cmp .LtE (.blt .len [(.slot 0)]) (.cst (.int (12)))) (.cmp .Eq (.lc [1] (.nm 1) (.sq (.slot 0)) (.bnot (.cmp2 .LtE .LtE (.cst (.str " ")) (.slot 1) (.cst (.str "~")))) (.slot 1)) (.lst [])))))] env := rfl
def l1__law_are_rows : List S := [(.ife (.bor (.bnot (.isi (.slot 1) .tuple)) (.bor (.cmp .NotEq (.blt .len [(.slot 1)]) (.cst (.int (2)))) (.bnot (.isi (.ix (.slot 1) (.cst (.int (0)))) .str)))) [(.ret (.cst (.bool false)))] []), (.set 2 (.band (.cmp .Eq (.ix (.slot 1) (.cst (.int (0)))) (.cst (.str "line"))) (.call "_law_is_text" [(.ix (.slot 1) (.cst (.int (1))))]))), (.ife (.band (.bnot (.slot 2)) (.bnot (.band (.cmp .In (.ix (.slot 1) (.cst (.int (0)))) (.tup [(.cst (.str "open")), (.cst (.str "next")), (.cst (.str "close"))])) (.call "_law_is_name" [(.ix (.slot 1) (.cst (.int (1))))])))) [(.ret (.cst (.bool false)))] [])]
theorem u_l1__law_are_rows (g : G) (env : Env) : exs g l1__law_are_rows env = exs g [(.ife (.bor (.bnot (.isi (.slot 1) .tuple)) (.bor (.cmp .NotEq (.blt .len [(.slot 1)]) (.cst (.int (2)))) (.bnot (.isi (.ix (.slot 1) (.cst (.int (0)))) .str)))) [(.ret (.cst (.bool false)))] []), (.set 2 (.band (.cmp .Eq (.ix (.slot 1) (.cst (.int (0)))) (.cst (.str "line"))) (.call "_law_is_text" [(.ix (.slot 1) (.cst (.int (1))))]))), (.ife (.band (.bnot (.slot 2)) (.bnot (.band (.cmp .In (.ix (.slot 1) (.cst (.int (0)))) (.tup [(.cst (.str "open")), (.cst (.str "next")), (.cst (.str "close"))])) (.call "_law_is_name" [(.ix (.slot 1) (.cst (.int (1))))])))) [(.ret (.cst (.bool false)))] [])] env := rfl
def _law_are_rows : List S := [(.ife (.bor (.bnot (.isi (.slot 0) .tuple)) (.cmp .Gt (.blt .len [(.slot 0)]) (.cst (.int (14))))) [(.ret (.cst (.bool false)))] []), (.for (.nm 1) (.sq (.slot 0)) l1__law_are_rows), (.ret (.cst (.bool true)))]
theorem u__law_are_rows (g : G) (env : Env) : exs g _law_are_rows env = exs g [(.ife (.bor (.bnot (.isi (.slot 0) .tuple)) (.cmp .Gt (.blt .len [(.slot 0)]) (.cst (.int (14))))) [(.ret (.cst (.bool false)))] []), (.for (.nm 1) (.sq (.slot 0)) l1__law_are_rows), (.ret (.cst (.bool true)))] env := rfl
def l1__law_is_tree : List S := [(.ife (.bnot (.call "_law_is_text" [(.slot 1)])) [(.ife (.bor (.bnot (.isi (.slot 1) .tuple)) (.bor (.cmp .NotEq (.blt .len [(.slot 1)]) (.cst (.int (2)))) (.bnot (.call "_law_is_name" [(.ix (.slot 1) (.cst (.int (0))))])))) [(.ret (.cst (.bool false)))] []), (.ife (.bor (.bnot (.isi (.ix (.slot 1) (.cst (.int (1)))) .tuple)) (.cmp .Eq (.ix (.slot 1) (.cst (.int (1)))) (.tup []))) [(.ret (.cst (.bool false)))] []), (.ife (.cmp .NotEq (.lc [2] (.nm 2) (.sq (.ix (.slot 1) (.cst (.int (1))))) (.bnot (.call "_law_is_tree" [(.slot 2)])) (.slot 2)) (.lst [])) [(.ret (.cst (.bool false)))] [])] [])]
theorem u_l1__law_is_tree (g : G) (env : Env) : exs g l1__law_is_tree env = exs g [(.ife (.bnot (.call "_law_is_text" [(.slot 1)])) [(.ife (.bor (.bnot (.isi (.slot 1) .tuple)) (.bor (.cmp .NotEq (.blt .len [(.slot 1)]) (.cst (.int (2)))) (.bnot (.call "_law_is_name" [(.ix (.slot 1) (.cst (.int (0))))])))) [(.ret (.cst (.bool false)))] []), (.ife (.bor (.bnot (.isi (.ix (.slot 1) (.cst (.int (1)))) .tuple)) (.cmp .Eq (.ix (.slot 1) (.cst (.int (1)))) (.tup []))) [(.ret (.cst (.bool false)))] []), (.ife (.cmp .NotEq (.lc [2] (.nm 2) (.sq (.ix (.slot 1) (.cst (.int (1))))) (.bnot (.call "_law_is_tree" [(.slot 2)])) (.slot 2)) (.lst [])) [(.ret (.cst (.bool false)))] [])] [])] env := rfl
def _law_is_tree : List S := [(.ife (.bnot (.isi (.slot 0) .tuple)) [(.ret (.cst (.bool false)))] []), (.for (.nm 1) (.sq (.slot 0)) l1__law_is_tree), (.ret (.cst (.bool true)))]
theorem u__law_is_tree (g : G) (env : Env) : exs g _law_is_tree env = exs g [(.ife (.bnot (.isi (.slot 0) .tuple)) [(.ret (.cst (.bool false)))] []), (.for (.nm 1) (.sq (.slot 0)) l1__law_is_tree), (.ret (.cst (.bool true)))] env := rfl
def _law_edges : List S := [(.set 1 (.bin .Mod (.slot 0) (.cst (.int (3))))), (.set 2 (.lst [(.bin .Mult (.tup [(.tup [(.cst (.str "line")), (.cst (.str "a"))])]) (.bin .Add (.cst (.int (13))) (.slot 1))), (.tup [(.tup [(.cst (.str "line")), (.bin .Mult (.cst (.str "x")) (.bin .Add (.cst (.int (11))) (.slot 1)))])]), (.tup [(.tup [(.cst (.str "open")), (.bin .Add (.cut (.cst (.str "abcd")) none (some (.bin .Add (.cst (.int (2))) (.slot 1)))) (.cst (.str "e")))])])])), (.set 2 (.bin .Add (.slot 2) (.lst [(.tup [(.tup [(.cst (.str "close")), (.cst (.str ""))])]), (.tup [(.tup [(.cst (.str "line")), (.cst (.str "a\nb"))])]), (.tup [(.tup [(.cst (.str "next")), (.cst (.str "a1"))])])]))), (.set 2 (.bin .Add (.slot 2) (.lst [(.tup [(.tup [(.cst (.str "shut")), (.cst (.str "a"))])]), (.tup [(.bin .Mult (.cst (.str "x")) (.bin .Add (.cst (.int (11))) (.slot 1)))])]))), (.ret (.bin .Add (.slot 2) (.lst [(.tup [(.tup [(.bin .Add (.cut (.cst (.str "abcd")) none (some (.bin .Add (.cst (.int (2))) (.slot 1)))) (.cst (.str "e"))), (.tup [(.tup [])])])]), (.tup [(.tup [(.cst (.str "a")), (.tup [])])]), (.tup [(.tup [(.cst (.str "a")), (.tup [(.tup []), (.tup [(.cst (.str "b"))])])])]), (.tup [(.tup [(.cst (.str "a")), (.tup [(.cst (.str "b"))])])])])))]
theorem u__law_edges (g : G) (env : Env) : exs g _law_edges env = exs g [(.set 1 (.bin .Mod (.slot 0) (.cst (.int (3))))), (.set 2 (.lst [(.bin .Mult (.tup [(.tup [(.cst (.str "line")), (.cst (.str "a"))])]) (.bin .Add (.cst (.int (13))) (.slot 1))), (.tup [(.tup [(.cst (.str "line")), (.bin .Mult (.cst (.str "x")) (.bin .Add (.cst (.int (11))) (.slot 1)))])]), (.tup [(.tup [(.cst (.str "open")), (.bin .Add (.cut (.cst (.str "abcd")) none (some (.bin .Add (.cst (.int (2))) (.slot 1)))) (.cst (.str "e")))])])])), (.set 2 (.bin .Add (.slot 2) (.lst [(.tup [(.tup [(.cst (.str "close")), (.cst (.str ""))])]), (.tup [(.tup [(.cst (.str "line")), (.cst (.str "a\nb"))])]), (.tup [(.tup [(.cst (.str "next")), (.cst (.str "a1"))])])]))), (.set 2 (.bin .Add (.slot 2) (.lst [(.tup [(.tup [(.cst (.str "shut")), (.cst (.str "a"))])]), (.tup [(.bin .Mult (.cst (.str "x")) (.bin .Add (.cst (.int (11))) (.slot 1)))])]))), (.ret (.bin .Add (.slot 2) (.lst [(.tup [(.tup [(.bin .Add (.cut (.cst (.str "abcd")) none (some (.bin .Add (.cst (.int (2))) (.slot 1)))) (.cst (.str "e"))), (.tup [(.tup [])])])]), (.tup [(.tup [(.cst (.str "a")), (.tup [])])]), (.tup [(.tup [(.cst (.str "a")), (.tup [(.tup []), (.tup [(.cst (.str "b"))])])])]), (.tup [(.tup [(.cst (.str "a")), (.tup [(.cst (.str "b"))])])])])))] env := rfl
def l2_rows_of : List S := [(.set 1 (.bin .Add (.bin .Add (.slot 1) (.tup [(.tup [(.glob "NEXT"), (.slot 3)])])) (.call "rows_of" [(.slot 5)])))]
theorem u_l2_rows_of (g : G) (env : Env) : exs g l2_rows_of env = exs g [(.set 1 (.bin .Add (.bin .Add (.slot 1) (.tup [(.tup [(.glob "NEXT"), (.slot 3)])])) (.call "rows_of" [(.slot 5)])))] env := rfl
def l1_rows_of : List S := [(.ife (.isi (.slot 2) .str) [(.set 1 (.bin .Add (.slot 1) (.tup [(.tup [(.glob "LINE"), (.slot 2)])])))] [(.asg (.tp [(.nm 3), (.nm 4)]) (.slot 2)), (.set 1 (.bin .Add (.bin .Add (.slot 1) (.tup [(.tup [(.glob "OPEN"), (.slot 3)])])) (.call "rows_of" [(.ix (.slot 4) (.cst (.int (0))))]))), (.for (.nm 5) (.sq (.cut (.slot 4) (some (.cst (.int (1)))) none)) l2_rows_of), (.set 1 (.bin .Add (.slot 1) (.tup [(.tup [(.glob "CLOSE"), (.slot 3)])])))])]
theorem u_l1_rows_of (g : G) (env : Env) : exs g l1_rows_of env = exs g [(.ife (.isi (.slot 2) .str) [(.set 1 (.bin .Add (.slot 1) (.tup [(.tup [(.glob "LINE"), (.slot 2)])])))] [(.asg (.tp [(.nm 3), (.nm 4)]) (.slot 2)), (.set 1 (.bin .Add (.bin .Add (.slot 1) (.tup [(.tup [(.glob "OPEN"), (.slot 3)])])) (.call "rows_of" [(.ix (.slot 4) (.cst (.int (0))))]))), (.for (.nm 5) (.sq (.cut (.slot 4) (some (.cst (.int (1)))) none)) l2_rows_of), (.set 1 (.bin .Add (.slot 1) (.tup [(.tup [(.glob "CLOSE"), (.slot 3)])])))])] env := rfl
def rows_of : List S := [(.set 1 (.tup [])), (.for (.nm 2) (.sq (.slot 0)) l1_rows_of), (.ret (.slot 1))]
theorem u_rows_of (g : G) (env : Env) : exs g rows_of env = exs g [(.set 1 (.tup [])), (.for (.nm 2) (.sq (.slot 0)) l1_rows_of), (.ret (.slot 1))] env := rfl
def l1_opened : List S := [(.ife (.cmp .Eq (.ix (.slot 3) (.cst (.int (0)))) (.glob "OPEN")) [(.app 1 (.ix (.slot 3) (.cst (.int (1)))))] [(.ife (.cmp .NotEq (.ix (.slot 3) (.cst (.int (0)))) (.glob "LINE")) [(.ife (.bor (.cmp .Eq (.blt .len [(.slot 1)]) (.cst (.int (0)))) (.cmp .NotEq (.ix (.slot 1) (.neg (.cst (.int (1))))) (.ix (.slot 3) (.cst (.int (1)))))) [(.ret (.tup [(.slot 1), (.bin .Add (.slot 2) (.cst (.int (1))))]))] []), (.ife (.cmp .Eq (.ix (.slot 3) (.cst (.int (0)))) (.glob "CLOSE")) [(.pop 1)] [])] [])])]
theorem u_l1_opened (g : G) (env : Env) : exs g l1_opened env = exs g [(.ife (.cmp .Eq (.ix (.slot 3) (.cst (.int (0)))) (.glob "OPEN")) [(.app 1 (.ix (.slot 3) (.cst (.int (1)))))] [(.ife (.cmp .NotEq (.ix (.slot 3) (.cst (.int (0)))) (.glob "LINE")) [(.ife (.bor (.cmp .Eq (.blt .len [(.slot 1)]) (.cst (.int (0)))) (.cmp .NotEq (.ix (.slot 1) (.neg (.cst (.int (1))))) (.ix (.slot 3) (.cst (.int (1)))))) [(.ret (.tup [(.slot 1), (.bin .Add (.slot 2) (.cst (.int (1))))]))] []), (.ife (.cmp .Eq (.ix (.slot 3) (.cst (.int (0)))) (.glob "CLOSE")) [(.pop 1)] [])] [])])] env := rfl
def opened : List S := [(.seto 1 (.lst [])), (.for (.tp [(.nm 2), (.nm 3)]) (.enm (.slot 0)) l1_opened), (.ret (.tup [(.slot 1), (.cst .none)]))]
theorem u_opened (g : G) (env : Env) : exs g opened env = exs g [(.seto 1 (.lst [])), (.for (.tp [(.nm 2), (.nm 3)]) (.enm (.slot 0)) l1_opened), (.ret (.tup [(.slot 1), (.cst .none)]))] env := rfl
def stuck : List S := [(.ret (.ix (.call "opened" [(.slot 0)]) (.cst (.int (1)))))]
theorem u_stuck (g : G) (env : Env) : exs g stuck env = exs g [(.ret (.ix (.call "opened" [(.slot 0)]) (.cst (.int (1)))))] env := rfl
def is_sheet : List S := [(.ret (.cmp .Eq (.call "opened" [(.slot 0)]) (.tup [(.lst []), (.cst .none)])))]
theorem u_is_sheet (g : G) (env : Env) : exs g is_sheet env = exs g [(.ret (.cmp .Eq (.call "opened" [(.slot 0)]) (.tup [(.lst []), (.cst .none)])))] env := rfl
def open_names : List S := [(.asg (.tp [(.nm 1), (.nm 2)]) (.call "opened" [(.slot 0)])), (.ife (.cmp .IsNot (.slot 2) (.cst .none)) [(.raise "NoSheet")] []), (.ret (.blt .tuple [(.slot 1)]))]
theorem u_open_names (g : G) (env : Env) : exs g open_names env = exs g [(.asg (.tp [(.nm 1), (.nm 2)]) (.call "opened" [(.slot 0)])), (.ife (.cmp .IsNot (.slot 2) (.cst .none)) [(.raise "NoSheet")] []), (.ret (.blt .tuple [(.slot 1)]))] env := rfl
def l1_tree_of : List S := [(.ife (.cmp .Eq (.slot 2) (.glob "LINE")) [(.exp .bad)] [(.ife (.cmp .Eq (.slot 2) (.glob "OPEN")) [(.app 1 (.tup [(.slot 3), (.lst [(.lst [])])]))] [(.ife (.cmp .Eq (.slot 2) (.glob "NEXT")) [(.exp .bad)] [(.asg (.tp [(.nm 4), (.nm 5)]) .bad), (.exp .bad)])])])]
theorem u_l1_tree_of (g : G) (env : Env) : exs g l1_tree_of env = exs g [(.ife (.cmp .Eq (.slot 2) (.glob "LINE")) [(.exp .bad)] [(.ife (.cmp .Eq (.slot 2) (.glob "OPEN")) [(.app 1 (.tup [(.slot 3), (.lst [(.lst [])])]))] [(.ife (.cmp .Eq (.slot 2) (.glob "NEXT")) [(.exp .bad)] [(.asg (.tp [(.nm 4), (.nm 5)]) .bad), (.exp .bad)])])])] env := rfl
def tree_of : List S := [(.ife (.bnot (.call "is_sheet" [(.slot 0)])) [(.raise "NoSheet")] []), (.seto 1 (.lst [(.tup [(.cst (.str "")), (.lst [(.lst [])])])])), (.for (.tp [(.nm 2), (.nm 3)]) (.sq (.slot 0)) l1_tree_of), (.ret (.blt .tuple [(.ix (.ix (.ix (.slot 1) (.cst (.int (0)))) (.cst (.int (1)))) (.cst (.int (0))))]))]
theorem u_tree_of (g : G) (env : Env) : exs g tree_of env = exs g [(.ife (.bnot (.call "is_sheet" [(.slot 0)])) [(.raise "NoSheet")] []), (.seto 1 (.lst [(.tup [(.cst (.str "")), (.lst [(.lst [])])])])), (.for (.tp [(.nm 2), (.nm 3)]) (.sq (.slot 0)) l1_tree_of), (.ret (.blt .tuple [(.ix (.ix (.ix (.slot 1) (.cst (.int (0)))) (.cst (.int (1)))) (.cst (.int (0))))]))] env := rfl
def _law_told : List S := [.bad, (.ret (.slot 1))]
theorem u__law_told (g : G) (env : Env) : exs g _law_told env = exs g [.bad, (.ret (.slot 1))] env := rfl
def l2__law_tree_rows : List S := [(.set 1 (.bin .Add (.bin .Add (.slot 1) (.tup [(.tup [(.ix (.tup [(.cst (.str "open")), (.cst (.str "next"))]) (.blt .int [(.cmp .Gt (.slot 5) (.cst (.int (0))))])), (.slot 3)])])) (.call "_law_tree_rows" [(.slot 6)])))]
theorem u_l2__law_tree_rows (g : G) (env : Env) : exs g l2__law_tree_rows env = exs g [(.set 1 (.bin .Add (.bin .Add (.slot 1) (.tup [(.tup [(.ix (.tup [(.cst (.str "open")), (.cst (.str "next"))]) (.blt .int [(.cmp .Gt (.slot 5) (.cst (.int (0))))])), (.slot 3)])])) (.call "_law_tree_rows" [(.slot 6)])))] env := rfl
def l1__law_tree_rows : List S := [(.ife (.isi (.slot 2) .str) [(.set 1 (.bin .Add (.slot 1) (.tup [(.tup [(.cst (.str "line")), (.slot 2)])])))] [(.asg (.tp [(.nm 3), (.nm 4)]) (.slot 2)), (.for (.tp [(.nm 5), (.nm 6)]) (.enm (.slot 4)) l2__law_tree_rows), (.set 1 (.bin .Add (.slot 1) (.tup [(.tup [(.cst (.str "close")), (.slot 3)])])))])]
theorem u_l1__law_tree_rows (g : G) (env : Env) : exs g l1__law_tree_rows env = exs g [(.ife (.isi (.slot 2) .str) [(.set 1 (.bin .Add (.slot 1) (.tup [(.tup [(.cst (.str "line")), (.slot 2)])])))] [(.asg (.tp [(.nm 3), (.nm 4)]) (.slot 2)), (.for (.tp [(.nm 5), (.nm 6)]) (.enm (.slot 4)) l2__law_tree_rows), (.set 1 (.bin .Add (.slot 1) (.tup [(.tup [(.cst (.str "close")), (.slot 3)])])))])] env := rfl
def _law_tree_rows : List S := [(.set 1 (.tup [])), (.for (.nm 2) (.sq (.slot 0)) l1__law_tree_rows), (.ret (.slot 1))]
theorem u__law_tree_rows (g : G) (env : Env) : exs g _law_tree_rows env = exs g [(.set 1 (.tup [])), (.for (.nm 2) (.sq (.slot 0)) l1__law_tree_rows), (.ret (.slot 1))] env := rfl
def l1__law_broken : List S := [(.set 3 (.call "_law_drawn" [(.slot 1), (.bin .Add (.cst (.int (60))) (.slot 2))])), (.set 4 (.bin .Mod (.bin .FloorDiv (.slot 3) (.cst (.int (16)))) (.bin .Add (.blt .len [(.slot 0)]) (.cst (.int (1)))))), (.ife (.cmp .Eq (.bin .Mod (.bin .FloorDiv (.slot 3) (.cst (.int (1024)))) (.cst (.int (2)))) (.cst (.int (0)))) [(.set 0 (.bin .Add (.cut (.slot 0) none (some (.slot 4))) (.cut (.slot 0) (some (.bin .Add (.slot 4) (.cst (.int (1))))) none)))] [(.set 5 (.tup [(.ix (.tup [(.cst (.str "open")), (.cst (.str "close")), (.cst (.str "next"))]) (.bin .Mod (.bin .FloorDiv (.slot 3) (.cst (.int (4096)))) (.cst (.int (3))))), (.ix (.tup [(.cst (.str "a")), (.cst (.str "b"))]) (.bin .Mod (.bin .FloorDiv (.slot 3) (.cst (.int (16384)))) (.cst (.int (2)))))])), (.set 0 (.bin .Add (.bin .Add (.cut (.slot 0) none (some (.slot 4))) (.tup [(.slot 5)])) (.cut (.slot 0) (some (.slot 4)) none)))])]
theorem u_l1__law_broken (g : G) (env : Env) : exs g l1__law_broken env = exs g [(.set 3 (.call "_law_drawn" [(.slot 1), (.bin .Add (.cst (.int (60))) (.slot 2))])), (.set 4 (.bin .Mod (.bin .FloorDiv (.slot 3) (.cst (.int (16)))) (.bin .Add (.blt .len [(.slot 0)]) (.cst (.int (1)))))), (.ife (.cmp .Eq (.bin .Mod (.bin .FloorDiv (.slot 3) (.cst (.int (1024)))) (.cst (.int (2)))) (.cst (.int (0)))) [(.set 0 (.bin .Add (.cut (.slot 0) none (some (.slot 4))) (.cut (.slot 0) (some (.bin .Add (.slot 4) (.cst (.int (1))))) none)))] [(.set 5 (.tup [(.ix (.tup [(.cst (.str "open")), (.cst (.str "close")), (.cst (.str "next"))]) (.bin .Mod (.bin .FloorDiv (.slot 3) (.cst (.int (4096)))) (.cst (.int (3))))), (.ix (.tup [(.cst (.str "a")), (.cst (.str "b"))]) (.bin .Mod (.bin .FloorDiv (.slot 3) (.cst (.int (16384)))) (.cst (.int (2)))))])), (.set 0 (.bin .Add (.bin .Add (.cut (.slot 0) none (some (.slot 4))) (.tup [(.slot 5)])) (.cut (.slot 0) (some (.slot 4)) none)))])] env := rfl
def _law_broken : List S := [(.for (.nm 2) (.rng (.cst (.int (0))) (.bin .Mod (.bin .FloorDiv (.slot 1) (.cst (.int (16)))) (.cst (.int (4))))) l1__law_broken), (.ret (.slot 0))]
theorem u__law_broken (g : G) (env : Env) : exs g _law_broken env = exs g [(.for (.nm 2) (.rng (.cst (.int (0))) (.bin .Mod (.bin .FloorDiv (.slot 1) (.cst (.int (16)))) (.cst (.int (4))))) l1__law_broken), (.ret (.slot 0))] env := rfl
def l1__law_opened : List S := [(.ife (.cmp .Eq (.slot 3) (.cst (.str "open"))) [(.app 1 (.slot 4))] []), (.ife (.cmp .In (.slot 3) (.tup [(.cst (.str "next")), (.cst (.str "close"))])) [(.ife (.cmp .NotEq (.cut (.slot 1) (some (.neg (.cst (.int (1))))) none) (.lst [(.slot 4)])) [(.ret (.tup [(.cst .none), (.bin .Add (.slot 2) (.cst (.int (1))))]))] []), (.ife (.cmp .Eq (.slot 3) (.cst (.str "close"))) [(.fz [1] (.seto 1 (.cut (.slot 1) none (some (.neg (.cst (.int (1))))))))] [])] [])]
theorem u_l1__law_opened (g : G) (env : Env) : exs g l1__law_opened env = exs g [(.ife (.cmp .Eq (.slot 3) (.cst (.str "open"))) [(.app 1 (.slot 4))] []), (.ife (.cmp .In (.slot 3) (.tup [(.cst (.str "next")), (.cst (.str "close"))])) [(.ife (.cmp .NotEq (.cut (.slot 1) (some (.neg (.cst (.int (1))))) none) (.lst [(.slot 4)])) [(.ret (.tup [(.cst .none), (.bin .Add (.slot 2) (.cst (.int (1))))]))] []), (.ife (.cmp .Eq (.slot 3) (.cst (.str "close"))) [(.fz [1] (.seto 1 (.cut (.slot 1) none (some (.neg (.cst (.int (1))))))))] [])] [])] env := rfl
def _law_opened : List S := [(.seto 1 (.lst [])), (.for (.tp [(.nm 2), (.tp [(.nm 3), (.nm 4)])]) (.enm (.slot 0)) l1__law_opened), (.ret (.tup [(.slot 1), (.cst .none)]))]
theorem u__law_opened (g : G) (env : Env) : exs g _law_opened env = exs g [(.seto 1 (.lst [])), (.for (.tp [(.nm 2), (.tp [(.nm 3), (.nm 4)])]) (.enm (.slot 0)) l1__law_opened), (.ret (.tup [(.slot 1), (.cst .none)]))] env := rfl
def joined : List S := [(.ret (.bin .Add (.slot 0) (.slot 1)))]
theorem u_joined (g : G) (env : Env) : exs g joined env = exs g [(.ret (.bin .Add (.slot 0) (.slot 1)))] env := rfl
def is_text : List S := [(.ret (.isi (.slot 0) .str))]
theorem u_is_text (g : G) (env : Env) : exs g is_text env = exs g [(.ret (.isi (.slot 0) .str))] env := rfl
def wrapped : List S := [(.ret (.tup [(.tup [(.slot 1), (.tup [(.slot 0)])])]))]
theorem u_wrapped (g : G) (env : Env) : exs g wrapped env = exs g [(.ret (.tup [(.tup [(.slot 1), (.tup [(.slot 0)])])]))] env := rfl
def split : List S := [(.ife (.bnot (.cmp2 .LtE .LtE (.cst (.int (0))) (.slot 1) (.blt .len [(.slot 0)]))) [(.raise "NoPart")] []), (.ret (.tup [(.cut (.slot 0) none (some (.slot 1))), (.cut (.slot 0) (some (.slot 1)) none)]))]
theorem u_split (g : G) (env : Env) : exs g split env = exs g [(.ife (.bnot (.cmp2 .LtE .LtE (.cst (.int (0))) (.slot 1) (.blt .len [(.slot 0)]))) [(.raise "NoPart")] []), (.ret (.tup [(.cut (.slot 0) none (some (.slot 1))), (.cut (.slot 0) (some (.slot 1)) none)]))] env := rfl
def c1_swapped : E := (.lc [3] (.nm 3) (.sq (.rev (.ix (.slot 2) (.cst (.int (1)))))) (.cst (.bool true)) (.call "swapped" [(.slot 3)]))
def l1_swapped : List S := [(.ife (.bnot (.call "is_text" [(.slot 2)])) [(.set 2 (.tup [(.ix (.slot 2) (.cst (.int (0)))), (.blt .tuple [c1_swapped])]))] []), (.app 1 (.slot 2))]
theorem u_l1_swapped (g : G) (env : Env) : exs g l1_swapped env = exs g [(.ife (.bnot (.call "is_text" [(.slot 2)])) [(.set 2 (.tup [(.ix (.slot 2) (.cst (.int (0)))), (.blt .tuple [c1_swapped])]))] []), (.app 1 (.slot 2))] env := rfl
def swapped : List S := [(.seto 1 (.lst [])), (.for (.nm 2) (.sq (.slot 0)) l1_swapped), (.ret (.blt .tuple [(.slot 1)]))]
theorem u_swapped (g : G) (env : Env) : exs g swapped env = exs g [(.seto 1 (.lst [])), (.for (.nm 2) (.sq (.slot 0)) l1_swapped), (.ret (.blt .tuple [(.slot 1)]))] env := rfl
def _law_rows_drawn : List S := [(.set 3 (.call "_law_mixed" [(.slot 0), (.slot 1)])), (.ife (.cmp .Eq (.bin .Mod (.bin .FloorDiv (.slot 3) (.cst (.int (64)))) (.cst (.int (3)))) (.cst (.int (0)))) [(.ret (.call "_law_rows" [(.call "_law_mixed" [(.slot 0), (.bin .Add (.slot 1) (.cst (.int (1))))]), (.slot 2)]))] []), (.set 4 (.cut (.call "_law_tree_rows" [(.call "_law_tree" [(.call "_law_mixed" [(.slot 0), (.bin .Add (.slot 1) (.cst (.int (1))))]), (.cst (.int (2)))])]) none (some (.slot 2)))), (.ret (.call "_law_broken" [(.slot 4), (.slot 3)]))]
theorem u__law_rows_drawn (g : G) (env : Env) : exs g _law_rows_drawn env = exs g [(.set 3 (.call "_law_mixed" [(.slot 0), (.slot 1)])), (.ife (.cmp .Eq (.bin .Mod (.bin .FloorDiv (.slot 3) (.cst (.int (64)))) (.cst (.int (3)))) (.cst (.int (0)))) [(.ret (.call "_law_rows" [(.call "_law_mixed" [(.slot 0), (.bin .Add (.slot 1) (.cst (.int (1))))]), (.slot 2)]))] []), (.set 4 (.cut (.call "_law_tree_rows" [(.call "_law_tree" [(.call "_law_mixed" [(.slot 0), (.bin .Add (.slot 1) (.cst (.int (1))))]), (.cst (.int (2)))])]) none (some (.slot 2)))), (.ret (.call "_law_broken" [(.slot 4), (.slot 3)]))] env := rfl
def l1__law_places_in : List S := [(.set 2 (.bin .Add (.slot 2) (.call "_law_places_in" [(.slot 4), (.bin .Add (.slot 1) (.tup [(.slot 3)]))])))]
theorem u_l1__law_places_in (g : G) (env : Env) : exs g l1__law_places_in env = exs g [(.set 2 (.bin .Add (.slot 2) (.call "_law_places_in" [(.slot 4), (.bin .Add (.slot 1) (.tup [(.slot 3)]))])))] env := rfl
def _law_places_in : List S := [(.set 2 (.lst [(.slot 1)])), (.ife (.isi (.slot 0) .tuple) [(.for (.tp [(.nm 3), (.nm 4)]) (.enm (.slot 0)) l1__law_places_in)] []), (.ret (.slot 2))]
theorem u__law_places_in (g : G) (env : Env) : exs g _law_places_in env = exs g [(.set 2 (.lst [(.slot 1)])), (.ife (.isi (.slot 0) .tuple) [(.for (.tp [(.nm 3), (.nm 4)]) (.enm (.slot 0)) l1__law_places_in)] []), (.ret (.slot 2))] env := rfl
def _law_put_at : List S := [(.ife (.cmp .Eq (.slot 1) (.tup [])) [(.ret .bad)] []), (.set 3 (.ix (.slot 1) (.cst (.int (0))))), (.set 4 (.call "_law_put_at" [(.ix (.slot 0) (.slot 3)), (.cut (.slot 1) (some (.cst (.int (1)))) none), (.slot 2)])), (.ret (.bin .Add (.bin .Add (.cut (.slot 0) none (some (.slot 3))) (.tup [(.slot 4)])) (.cut (.slot 0) (some (.bin .Add (.slot 3) (.cst (.int (1))))) none)))]
theorem u__law_put_at (g : G) (env : Env) : exs g _law_put_at env = exs g [(.ife (.cmp .Eq (.slot 1) (.tup [])) [(.ret .bad)] []), (.set 3 (.ix (.slot 1) (.cst (.int (0))))), (.set 4 (.call "_law_put_at" [(.ix (.slot 0) (.slot 3)), (.cut (.slot 1) (some (.cst (.int (1)))) none), (.slot 2)])), (.ret (.bin .Add (.bin .Add (.cut (.slot 0) none (some (.slot 3))) (.tup [(.slot 4)])) (.cut (.slot 0) (some (.bin .Add (.slot 3) (.cst (.int (1))))) none)))] env := rfl
def _law_otherwise : List S := [(.ife (.isi (.slot 0) .tuple) [(.set 2 (.lst [(.blt .list [(.slot 0)]), (.blt .list [(.slot 0)]), (.bin .Add (.slot 0) (.cut (.slot 0) none (some (.cst (.int (1))))))])), (.ret (.ix (.bin .Add (.slot 2) (.lst [(.cut (.slot 0) (some (.cst (.int (1)))) none), (.lst [(.slot 0)])])) (.bin .Mod (.slot 1) (.cst (.int (5))))))] []), (.ife (.isi (.slot 0) .bool) [(.ret (.ix (.lst [(.blt .int [(.slot 0)]), (.cst .none), (.blt .str [(.slot 0)])]) (.bin .Mod (.slot 1) (.cst (.int (3))))))] []), (.ife (.isi (.slot 0) .int) [(.set 2 (.lst [(.cst (.bool true)), (.cst .none), (.blt .str [(.slot 0)]), (.tup [(.slot 0)])])), (.ret (.ix (.bin .Add (.slot 2) (.lst [(.bin .Sub (.neg (.cst (.int (1)))) (.slot 0))])) (.bin .Mod (.slot 1) (.cst (.int (5))))))] []), (.ret (.ix (.lst [(.cst .none), (.tup [(.slot 0)]), (.lst [(.slot 0)]), (.cst (.str "")), (.cst (.int (0)))]) (.bin .Mod (.slot 1) (.cst (.int (5))))))]
theorem u__law_otherwise (g : G) (env : Env) : exs g _law_otherwise env = exs g [(.ife (.isi (.slot 0) .tuple) [(.set 2 (.lst [(.blt .list [(.slot 0)]), (.blt .list [(.slot 0)]), (.bin .Add (.slot 0) (.cut (.slot 0) none (some (.cst (.int (1))))))])), (.ret (.ix (.bin .Add (.slot 2) (.lst [(.cut (.slot 0) (some (.cst (.int (1)))) none), (.lst [(.slot 0)])])) (.bin .Mod (.slot 1) (.cst (.int (5))))))] []), (.ife (.isi (.slot 0) .bool) [(.ret (.ix (.lst [(.blt .int [(.slot 0)]), (.cst .none), (.blt .str [(.slot 0)])]) (.bin .Mod (.slot 1) (.cst (.int (3))))))] []), (.ife (.isi (.slot 0) .int) [(.set 2 (.lst [(.cst (.bool true)), (.cst .none), (.blt .str [(.slot 0)]), (.tup [(.slot 0)])])), (.ret (.ix (.bin .Add (.slot 2) (.lst [(.bin .Sub (.neg (.cst (.int (1)))) (.slot 0))])) (.bin .Mod (.slot 1) (.cst (.int (5))))))] []), (.ret (.ix (.lst [(.cst .none), (.tup [(.slot 0)]), (.lst [(.slot 0)]), (.cst (.str "")), (.cst (.int (0)))]) (.bin .Mod (.slot 1) (.cst (.int (5))))))] env := rfl
def l1__law_once : List S := [(.set 5 (.call "are_rows" [(.slot 4)])), (.ife (.bor (.bnot (.isi (.slot 5) .bool)) (.cmp .NotEq (.slot 5) (.call "_law_are_rows" [(.slot 4)]))) [(.ret (.cst (.bool false)))] []), (.set 5 (.call "is_tree" [(.slot 4)])), (.ife (.bor (.bnot (.isi (.slot 5) .bool)) (.cmp .NotEq (.slot 5) (.call "_law_is_tree" [(.slot 4)]))) [(.ret (.cst (.bool false)))] [])]
theorem u_l1__law_once (g : G) (env : Env) : exs g l1__law_once env = exs g [(.set 5 (.call "are_rows" [(.slot 4)])), (.ife (.bor (.bnot (.isi (.slot 5) .bool)) (.cmp .NotEq (.slot 5) (.call "_law_are_rows" [(.slot 4)]))) [(.ret (.cst (.bool false)))] []), (.set 5 (.call "is_tree" [(.slot 4)])), (.ife (.bor (.bnot (.isi (.slot 5) .bool)) (.cmp .NotEq (.slot 5) (.call "_law_is_tree" [(.slot 4)]))) [(.ret (.cst (.bool false)))] [])] env := rfl
def _law_once : List S := [(.set 1 (.call "_law_mixed" [(.slot 0), (.cst (.int (0)))])), (.set 2 (.call "_law_rows" [(.call "_law_mixed" [(.slot 0), (.cst (.int (1)))]), (.cst (.int (14)))])), (.set 3 (.call "_law_tree" [(.call "_law_mixed" [(.slot 0), (.cst (.int (2)))]), (.cst (.int (3)))])), (.ife (.bor (.cmp .IsNot (.call "are_rows" [(.slot 2)]) (.cst (.bool true))) (.cmp .IsNot (.call "is_tree" [(.slot 3)]) (.cst (.bool true)))) [(.ret (.cst (.bool false)))] []), (.ife (.cmp .Gt (.bin .Mod (.slot 1) (.cst (.int (3)))) (.cst (.int (0)))) [(.set 2 (.call "_law_spoilt" [(.slot 2), (.call "_law_mixed" [(.slot 0), (.cst (.int (3)))]), (.bin .Mod (.bin .FloorDiv (.slot 1) (.cst (.int (16)))) (.cst (.int (3))))])), (.set 3 (.call "_law_spoilt" [(.slot 3), (.call "_law_mixed" [(.slot 0), (.cst (.int (4)))]), (.bin .Mod (.bin .FloorDiv (.slot 1) (.cst (.int (64)))) (.cst (.int (6))))]))] []), (.for (.nm 4) (.sq (.bin .Add (.call "_law_edges" [(.call "_law_mixed" [(.slot 0), (.cst (.int (5)))])]) (.lst [(.slot 2), (.slot 3)]))) l1__law_once), (.ret (.cst (.bool true)))]
theorem u__law_once (g : G) (env : Env) : exs g _law_once env = exs g [(.set 1 (.call "_law_mixed" [(.slot 0), (.cst (.int (0)))])), (.set 2 (.call "_law_rows" [(.call "_law_mixed" [(.slot 0), (.cst (.int (1)))]), (.cst (.int (14)))])), (.set 3 (.call "_law_tree" [(.call "_law_mixed" [(.slot 0), (.cst (.int (2)))]), (.cst (.int (3)))])), (.ife (.bor (.cmp .IsNot (.call "are_rows" [(.slot 2)]) (.cst (.bool true))) (.cmp .IsNot (.call "is_tree" [(.slot 3)]) (.cst (.bool true)))) [(.ret (.cst (.bool false)))] []), (.ife (.cmp .Gt (.bin .Mod (.slot 1) (.cst (.int (3)))) (.cst (.int (0)))) [(.set 2 (.call "_law_spoilt" [(.slot 2), (.call "_law_mixed" [(.slot 0), (.cst (.int (3)))]), (.bin .Mod (.bin .FloorDiv (.slot 1) (.cst (.int (16)))) (.cst (.int (3))))])), (.set 3 (.call "_law_spoilt" [(.slot 3), (.call "_law_mixed" [(.slot 0), (.cst (.int (4)))]), (.bin .Mod (.bin .FloorDiv (.slot 1) (.cst (.int (64)))) (.cst (.int (6))))]))] []), (.for (.nm 4) (.sq (.bin .Add (.call "_law_edges" [(.call "_law_mixed" [(.slot 0), (.cst (.int (5)))])]) (.lst [(.slot 2), (.slot 3)]))) l1__law_once), (.ret (.cst (.bool true)))] env := rfl
def l1__law_once_v2 : List S := [(.set 9 (.call "is_mend" [(.slot 1), (.slot 8)])), (.ife (.bor (.bnot (.isi (.slot 9) .bool)) (.cmp .NotEq (.slot 9) (.call "_law_is_mend" [(.slot 1), (.slot 8)]))) [(.ret (.cst (.bool false)))] [])]
theorem u_l1__law_once_v2 (g : G) (env : Env) : exs g l1__law_once_v2 env = exs g [(.set 9 (.call "is_mend" [(.slot 1), (.slot 8)])), (.ife (.bor (.bnot (.isi (.slot 9) .bool)) (.cmp .NotEq (.slot 9) (.call "_law_is_mend" [(.slot 1), (.slot 8)]))) [(.ret (.cst (.bool false)))] [])] env := rfl
def _law_once_v2 : List S := [(.set 1 (.call "_law_broken" [(.cut (.call "_law_tree_rows" [(.call "_law_tree" [(.call "_law_mixed" [(.slot 0), (.cst (.int (0)))]), (.cst (.int (2)))])]) none (some (.cst (.int (9))))), (.call "_law_mixed" [(.slot 0), (.cst (.int (1)))])])), (.set 2 (.call "_law_mixed" [(.slot 0), (.cst (.int (2)))])), (.set 3 (.call "mended" [(.slot 1)])), (.set 4 (.call "_law_drew" [(.slot 1), (.call "_law_mixed" [(.slot 0), (.cst (.int (3)))])])), (.ife (.bor (.cmp .NotEq (.call "made" [(.slot 1), (.slot 4)]) (.call "_law_made" [(.slot 1), (.slot 4)])) (.cmp .NotEq (.call "made" [(.slot 1), (.slot 3)]) (.call "_law_made" [(.slot 1), (.slot 3)]))) [(.ret (.cst (.bool false)))] []), (.ife (.cmp .NotEq (.call "made" [(.slot 1), (.tup [])]) (.slot 1)) [(.ret (.cst (.bool false)))] []), (.set 5 (.slot 3)), (.ife (.cmp .Gt (.bin .Mod (.slot 2) (.cst (.int (3)))) (.cst (.int (0)))) [(.set 5 (.call "_law_spoilt" [(.slot 5), (.call "_law_mixed" [(.slot 0), (.cst (.int (4)))]), (.bin .Mod (.bin .FloorDiv (.slot 2) (.cst (.int (16)))) (.cst (.int (4))))]))] []), (.set 6 (.tup [(.tup [(.cst (.str "put")), (.blt .len [(.slot 1)]), (.tup [(.cst (.str "open")), (.cst (.str "a"))])]), (.tup [(.cst (.str "put")), (.blt .len [(.slot 1)]), (.tup [(.cst (.str "close")), (.cst (.str "a"))])])])), (.seto 7 (.lst [(.tup [(.tup [(.cst (.str "put")), (.cst (.int (0))), (.tup [(.cst (.str "line")), (.cst (.str "a"))])])]), (.tup [(.tup [(.cst (.str "put")), (.cst (.int (0))), (.cst (.str "open"))])]), (.tup [(.tup [(.cst (.str "drop")), (.blt .len [(.slot 1)])])]), (.tup [(.tup [(.cst (.str "drop")), (.neg (.cst (.int (1))))])])])), (.fz [7] (.seto 7 (.bin .Add (.slot 7) (.lst [(.bin .Add (.slot 3) (.tup [(.tup [(.cst (.str "put")), (.bin .Add (.blt .len [(.slot 1)]) (.cst (.int (1)))), (.tup [(.cst (.str "open")), (.cst (.str "a"))])])])), (.bin .Add (.slot 3) (.tup [(.tup [(.cst (.str "put")), (.blt .len [(.slot 1)]), (.tup [(.cst (.str "line")), (.cst (.str ""))])])]))])))), (.app 7 (.bin .Add (.slot 3) (.tup [(.tup [(.cst (.str "drop")), (.blt .len [(.slot 1)])])]))), (.fz [7] (.for (.nm 8) (.sq (.bin .Add (.slot 7) (.lst [(.slot 5), (.slot 3), (.slot 4), (.bin .Add (.slot 3) (.cut (.slot 3) (some (.neg (.cst (.int (1))))) none)), (.slot 6)]))) l1__law_once_v2)), (.ret (.cst (.bool true)))]
theorem u__law_once_v2 (g : G) (env : Env) : exs g _law_once_v2 env = exs g [(.set 1 (.call "_law_broken" [(.cut (.call "_law_tree_rows" [(.call "_law_tree" [(.call "_law_mixed" [(.slot 0), (.cst (.int (0)))]), (.cst (.int (2)))])]) none (some (.cst (.int (9))))), (.call "_law_mixed" [(.slot 0), (.cst (.int (1)))])])), (.set 2 (.call "_law_mixed" [(.slot 0), (.cst (.int (2)))])), (.set 3 (.call "mended" [(.slot 1)])), (.set 4 (.call "_law_drew" [(.slot 1), (.call "_law_mixed" [(.slot 0), (.cst (.int (3)))])])), (.ife (.bor (.cmp .NotEq (.call "made" [(.slot 1), (.slot 4)]) (.call "_law_made" [(.slot 1), (.slot 4)])) (.cmp .NotEq (.call "made" [(.slot 1), (.slot 3)]) (.call "_law_made" [(.slot 1), (.slot 3)]))) [(.ret (.cst (.bool false)))] []), (.ife (.cmp .NotEq (.call "made" [(.slot 1), (.tup [])]) (.slot 1)) [(.ret (.cst (.bool false)))] []), (.set 5 (.slot 3)), (.ife (.cmp .Gt (.bin .Mod (.slot 2) (.cst (.int (3)))) (.cst (.int (0)))) [(.set 5 (.call "_law_spoilt" [(.slot 5), (.call "_law_mixed" [(.slot 0), (.cst (.int (4)))]), (.bin .Mod (.bin .FloorDiv (.slot 2) (.cst (.int (16)))) (.cst (.int (4))))]))] []), (.set 6 (.tup [(.tup [(.cst (.str "put")), (.blt .len [(.slot 1)]), (.tup [(.cst (.str "open")), (.cst (.str "a"))])]), (.tup [(.cst (.str "put")), (.blt .len [(.slot 1)]), (.tup [(.cst (.str "close")), (.cst (.str "a"))])])])), (.seto 7 (.lst [(.tup [(.tup [(.cst (.str "put")), (.cst (.int (0))), (.tup [(.cst (.str "line")), (.cst (.str "a"))])])]), (.tup [(.tup [(.cst (.str "put")), (.cst (.int (0))), (.cst (.str "open"))])]), (.tup [(.tup [(.cst (.str "drop")), (.blt .len [(.slot 1)])])]), (.tup [(.tup [(.cst (.str "drop")), (.neg (.cst (.int (1))))])])])), (.fz [7] (.seto 7 (.bin .Add (.slot 7) (.lst [(.bin .Add (.slot 3) (.tup [(.tup [(.cst (.str "put")), (.bin .Add (.blt .len [(.slot 1)]) (.cst (.int (1)))), (.tup [(.cst (.str "open")), (.cst (.str "a"))])])])), (.bin .Add (.slot 3) (.tup [(.tup [(.cst (.str "put")), (.blt .len [(.slot 1)]), (.tup [(.cst (.str "line")), (.cst (.str ""))])])]))])))), (.app 7 (.bin .Add (.slot 3) (.tup [(.tup [(.cst (.str "drop")), (.blt .len [(.slot 1)])])]))), (.fz [7] (.for (.nm 8) (.sq (.bin .Add (.slot 7) (.lst [(.slot 5), (.slot 3), (.slot 4), (.bin .Add (.slot 3) (.cut (.slot 3) (some (.neg (.cst (.int (1))))) none)), (.slot 6)]))) l1__law_once_v2)), (.ret (.cst (.bool true)))] env := rfl
def names : List S := [(.ret (.blt .tuple [(.blt .sorted [.bad])]))]
theorem u_names (g : G) (env : Env) : exs g names env = exs g [(.ret (.blt .tuple [(.blt .sorted [.bad])]))] env := rfl
def best_mend : List S := [(.ret .bad)]
theorem u_best_mend (g : G) (env : Env) : exs g best_mend env = exs g [(.ret .bad)] env := rfl
def cost : List S := [(.ret (.blt .len [(.ix (.call "best_mend" [(.slot 0), (.cst .none)]) (.cst (.int (0))))]))]
theorem u_cost (g : G) (env : Env) : exs g cost env = exs g [(.ret (.blt .len [(.ix (.call "best_mend" [(.slot 0), (.cst .none)]) (.cst (.int (0))))]))] env := rfl
def mended : List S := [(.ret (.ix (.call "best_mend" [(.slot 0), (.cst .none)]) (.cst (.int (0)))))]
theorem u_mended (g : G) (env : Env) : exs g mended env = exs g [(.ret (.ix (.call "best_mend" [(.slot 0), (.cst .none)]) (.cst (.int (0)))))] env := rfl
def many : List S := [(.ret (.ix (.call "best_mend" [(.slot 0), (.cst .none)]) (.cst (.int (1)))))]
theorem u_many (g : G) (env : Env) : exs g many env = exs g [(.ret (.ix (.call "best_mend" [(.slot 0), (.cst .none)]) (.cst (.int (1)))))] env := rfl
def c1__law_puts : E := (.lc [5] (.nm 5) (.sq (.call "_law_puts" [(.slot 0), (.slot 1), (.bin .Sub (.slot 2) (.cst (.int (1))))])) (.cst (.bool true)) (.bin .Add (.tup [(.tup [(.cst (.str "put")), (.ix (.slot 1) (.cst (.int (0)))), (.slot 4)])]) (.slot 5)))
def l1__law_puts : List S := [(.set 3 (.bin .Add (.slot 3) c1__law_puts))]
theorem u_l1__law_puts (g : G) (env : Env) : exs g l1__law_puts env = exs g [(.set 3 (.bin .Add (.slot 3) c1__law_puts))] env := rfl
def _law_puts : List S := [(.ife (.cmp .Eq (.slot 2) (.cst (.int (0)))) [(.ret (.lst [(.tup [])]))] []), (.ife (.cmp .Eq (.slot 1) (.lst [])) [(.ret (.lst []))] []), (.set 3 (.call "_law_puts" [(.slot 0), (.cut (.slot 1) (some (.cst (.int (1)))) none), (.slot 2)])), (.for (.nm 4) (.sq (.slot 0)) l1__law_puts), (.ret (.slot 3))]
theorem u__law_puts (g : G) (env : Env) : exs g _law_puts env = exs g [(.ife (.cmp .Eq (.slot 2) (.cst (.int (0)))) [(.ret (.lst [(.tup [])]))] []), (.ife (.cmp .Eq (.slot 1) (.lst [])) [(.ret (.lst []))] []), (.set 3 (.call "_law_puts" [(.slot 0), (.cut (.slot 1) (some (.cst (.int (1)))) none), (.slot 2)])), (.for (.nm 4) (.sq (.slot 0)) l1__law_puts), (.ret (.slot 3))] env := rfl
def c1__law_drops : E := (.lc [5] (.nm 5) (.sq (.call "_law_drops" [(.slot 0), (.bin .Add (.slot 4) (.cst (.int (1)))), (.bin .Sub (.slot 2) (.cst (.int (1))))])) (.cst (.bool true)) (.bin .Add (.tup [(.tup [(.cst (.str "drop")), (.slot 4)])]) (.slot 5)))
def l1__law_drops : List S := [(.set 3 (.bin .Add (.slot 3) c1__law_drops))]
theorem u_l1__law_drops (g : G) (env : Env) : exs g l1__law_drops env = exs g [(.set 3 (.bin .Add (.slot 3) c1__law_drops))] env := rfl
def _law_drops : List S := [(.ife (.cmp .Eq (.slot 2) (.cst (.int (0)))) [(.ret (.lst [(.tup [])]))] []), (.set 3 (.lst [])), (.for (.nm 4) (.rng (.slot 1) (.slot 0)) l1__law_drops), (.ret (.slot 3))]
theorem u__law_drops (g : G) (env : Env) : exs g _law_drops env = exs g [(.ife (.cmp .Eq (.slot 2) (.cst (.int (0)))) [(.ret (.lst [(.tup [])]))] []), (.set 3 (.lst [])), (.for (.nm 4) (.rng (.slot 1) (.slot 0)) l1__law_drops), (.ret (.slot 3))] env := rfl
def c1__law_ordered : E := (.lc [5] (.nm 5) (.sq (.slot 0)) (.cmp .Eq (.ix (.slot 5) (.cst (.int (1)))) (.slot 4)) (.slot 5))
def c2__law_ordered : E := (.lc [5] (.nm 5) (.sq (.slot 1)) (.cmp .Eq (.ix (.slot 5) (.cst (.int (1)))) (.slot 4)) (.slot 5))
def l1__law_ordered : List S := [(.set 3 (.bin .Add (.slot 3) (.blt .tuple [c1__law_ordered]))), (.set 3 (.bin .Add (.slot 3) (.blt .tuple [c2__law_ordered])))]
theorem u_l1__law_ordered (g : G) (env : Env) : exs g l1__law_ordered env = exs g [(.set 3 (.bin .Add (.slot 3) (.blt .tuple [c1__law_ordered]))), (.set 3 (.bin .Add (.slot 3) (.blt .tuple [c2__law_ordered])))] env := rfl
def _law_ordered : List S := [(.set 3 (.tup [])), (.for (.nm 4) (.rng (.cst (.int (0))) (.bin .Add (.slot 2) (.cst (.int (1))))) l1__law_ordered), (.ret (.slot 3))]
theorem u__law_ordered (g : G) (env : Env) : exs g _law_ordered env = exs g [(.set 3 (.tup [])), (.for (.nm 4) (.rng (.cst (.int (0))) (.bin .Add (.slot 2) (.cst (.int (1))))) l1__law_ordered), (.ret (.slot 3))] env := rfl
def c1__law_made : E := (.lc [4] (.nm 4) (.sq (.slot 1)) (.band (.cmp .Eq (.ix (.slot 4) (.cst (.int (0)))) (.cst (.str "put"))) (.cmp .Eq (.ix (.slot 4) (.cst (.int (1)))) (.slot 3))) (.ix (.slot 4) (.cst (.int (2)))))
def l1__law_made : List S := [(.set 2 (.bin .Add (.slot 2) (.blt .tuple [c1__law_made]))), (.ife (.band (.cmp .Lt (.slot 3) (.blt .len [(.slot 0)])) (.cmp .NotIn (.tup [(.cst (.str "drop")), (.slot 3)]) (.slot 1))) [(.set 2 (.bin .Add (.slot 2) (.cut (.slot 0) (some (.slot 3)) (some (.bin .Add (.slot 3) (.cst (.int (1))))))))] [])]
theorem u_l1__law_made (g : G) (env : Env) : exs g l1__law_made env = exs g [(.set 2 (.bin .Add (.slot 2) (.blt .tuple [c1__law_made]))), (.ife (.band (.cmp .Lt (.slot 3) (.blt .len [(.slot 0)])) (.cmp .NotIn (.tup [(.cst (.str "drop")), (.slot 3)]) (.slot 1))) [(.set 2 (.bin .Add (.slot 2) (.cut (.slot 0) (some (.slot 3)) (some (.bin .Add (.slot 3) (.cst (.int (1))))))))] [])] env := rfl
def _law_made : List S := [(.set 2 (.tup [])), (.for (.nm 3) (.rng (.cst (.int (0))) (.bin .Add (.blt .len [(.slot 0)]) (.cst (.int (1))))) l1__law_made), (.ret (.slot 2))]
theorem u__law_made (g : G) (env : Env) : exs g _law_made env = exs g [(.set 2 (.tup [])), (.for (.nm 3) (.rng (.cst (.int (0))) (.bin .Add (.blt .len [(.slot 0)]) (.cst (.int (1))))) l1__law_made), (.ret (.slot 2))] env := rfl
def l2__law_made_v2 : List S := [(.ife (.band (.cmp .Eq (.ix (.slot 4) (.cst (.int (0)))) (.cst (.str "put"))) (.cmp .Eq (.ix (.slot 4) (.cst (.int (1)))) (.slot 3))) [(.set 2 (.bin .Add (.slot 2) (.tup [(.ix (.slot 4) (.cst (.int (2))))])))] [])]
theorem u_l2__law_made_v2 (g : G) (env : Env) : exs g l2__law_made_v2 env = exs g [(.ife (.band (.cmp .Eq (.ix (.slot 4) (.cst (.int (0)))) (.cst (.str "put"))) (.cmp .Eq (.ix (.slot 4) (.cst (.int (1)))) (.slot 3))) [(.set 2 (.bin .Add (.slot 2) (.tup [(.ix (.slot 4) (.cst (.int (2))))])))] [])] env := rfl
def l1__law_made_v2 : List S := [(.for (.nm 4) (.sq (.slot 1)) l2__law_made_v2), (.ife (.band (.cmp .Lt (.slot 3) (.blt .len [(.slot 0)])) (.cmp .NotIn (.tup [(.cst (.str "drop")), (.slot 3)]) (.slot 1))) [(.set 2 (.bin .Add (.slot 2) (.tup [(.ix (.slot 0) (.slot 3))])))] [])]
theorem u_l1__law_made_v2 (g : G) (env : Env) : exs g l1__law_made_v2 env = exs g [(.for (.nm 4) (.sq (.slot 1)) l2__law_made_v2), (.ife (.band (.cmp .Lt (.slot 3) (.blt .len [(.slot 0)])) (.cmp .NotIn (.tup [(.cst (.str "drop")), (.slot 3)]) (.slot 1))) [(.set 2 (.bin .Add (.slot 2) (.tup [(.ix (.slot 0) (.slot 3))])))] [])] env := rfl
def _law_made_v2 : List S := [(.set 2 (.tup [])), (.for (.nm 3) (.rng (.cst (.int (0))) (.bin .Add (.blt .len [(.slot 0)]) (.cst (.int (1))))) l1__law_made_v2), (.ret (.slot 2))]
theorem u__law_made_v2 (g : G) (env : Env) : exs g _law_made_v2 env = exs g [(.set 2 (.tup [])), (.for (.nm 3) (.rng (.cst (.int (0))) (.bin .Add (.blt .len [(.slot 0)]) (.cst (.int (1))))) l1__law_made_v2), (.ret (.slot 2))] env := rfl
def c1_made : E := (.lc [4] (.nm 4) (.sq (.slot 1)) (.band (.cmp .Eq (.ix (.slot 4) (.cst (.int (0)))) (.glob "PUT")) (.cmp .Eq (.ix (.slot 4) (.cst (.int (1)))) (.slot 3))) (.ix (.slot 4) (.cst (.int (2)))))
def l1_made : List S := [(.set 2 (.bin .Add (.slot 2) (.blt .tuple [c1_made]))), (.ife (.band (.cmp .Lt (.slot 3) (.blt .len [(.slot 0)])) (.cmp .NotIn (.tup [(.glob "DROP"), (.slot 3)]) (.slot 1))) [(.set 2 (.bin .Add (.slot 2) (.tup [(.ix (.slot 0) (.slot 3))])))] [])]
theorem u_l1_made (g : G) (env : Env) : exs g l1_made env = exs g [(.set 2 (.bin .Add (.slot 2) (.blt .tuple [c1_made]))), (.ife (.band (.cmp .Lt (.slot 3) (.blt .len [(.slot 0)])) (.cmp .NotIn (.tup [(.glob "DROP"), (.slot 3)]) (.slot 1))) [(.set 2 (.bin .Add (.slot 2) (.tup [(.ix (.slot 0) (.slot 3))])))] [])] env := rfl
def made : List S := [(.set 2 (.tup [])), (.for (.nm 3) (.rng (.cst (.int (0))) (.bin .Add (.blt .len [(.slot 0)]) (.cst (.int (1))))) l1_made), (.ret (.slot 2))]
theorem u_made (g : G) (env : Env) : exs g made env = exs g [(.set 2 (.tup [])), (.for (.nm 3) (.rng (.cst (.int (0))) (.bin .Add (.blt .len [(.slot 0)]) (.cst (.int (1))))) l1_made), (.ret (.slot 2))] env := rfl
def is_deed : List S := [(.ife (.bor (.bnot (.isi (.slot 1) .tuple)) (.bor (.cmp .Lt (.blt .len [(.slot 1)]) (.cst (.int (2)))) (.bnot (.isi (.ix (.slot 1) (.cst (.int (0)))) .str)))) [(.ret (.cst (.bool false)))] []), (.ife (.bor (.bnot (.isi (.ix (.slot 1) (.cst (.int (1)))) .int)) (.isi (.ix (.slot 1) (.cst (.int (1)))) .bool)) [(.ret (.cst (.bool false)))] []), (.ife (.cmp .Eq (.ix (.slot 1) (.cst (.int (0)))) (.glob "DROP")) [(.ret (.band (.cmp .Eq (.blt .len [(.slot 1)]) (.cst (.int (2)))) (.cmp2 .LtE .Lt (.cst (.int (0))) (.ix (.slot 1) (.cst (.int (1)))) (.blt .len [(.slot 0)]))))] []), (.ret (.band (.cmp .Eq (.ix (.slot 1) (.cst (.int (0)))) (.glob "PUT")) (.band (.cmp .Eq (.blt .len [(.slot 1)]) (.cst (.int (3)))) (.band (.cmp2 .LtE .LtE (.cst (.int (0))) (.ix (.slot 1) (.cst (.int (1)))) (.blt .len [(.slot 0)])) (.call "is_border" [(.ix (.slot 1) (.cst (.int (2))))])))))]
theorem u_is_deed (g : G) (env : Env) : exs g is_deed env = exs g [(.ife (.bor (.bnot (.isi (.slot 1) .tuple)) (.bor (.cmp .Lt (.blt .len [(.slot 1)]) (.cst (.int (2)))) (.bnot (.isi (.ix (.slot 1) (.cst (.int (0)))) .str)))) [(.ret (.cst (.bool false)))] []), (.ife (.bor (.bnot (.isi (.ix (.slot 1) (.cst (.int (1)))) .int)) (.isi (.ix (.slot 1) (.cst (.int (1)))) .bool)) [(.ret (.cst (.bool false)))] []), (.ife (.cmp .Eq (.ix (.slot 1) (.cst (.int (0)))) (.glob "DROP")) [(.ret (.band (.cmp .Eq (.blt .len [(.slot 1)]) (.cst (.int (2)))) (.cmp2 .LtE .Lt (.cst (.int (0))) (.ix (.slot 1) (.cst (.int (1)))) (.blt .len [(.slot 0)]))))] []), (.ret (.band (.cmp .Eq (.ix (.slot 1) (.cst (.int (0)))) (.glob "PUT")) (.band (.cmp .Eq (.blt .len [(.slot 1)]) (.cst (.int (3)))) (.band (.cmp2 .LtE .LtE (.cst (.int (0))) (.ix (.slot 1) (.cst (.int (1)))) (.blt .len [(.slot 0)])) (.call "is_border" [(.ix (.slot 1) (.cst (.int (2))))])))))] env := rfl
def c1_is_mend : E := (.lc [4] (.nm 4) (.sq (.slot 1)) (.cst (.bool true)) (.call "is_deed" [(.slot 0), (.slot 4)]))
def l1_is_mend : List S := [(.ife (.bor (.cmp .Gt (.ix (.slot 2) (.cst (.int (1)))) (.ix (.slot 3) (.cst (.int (1))))) (.band (.cmp .Eq (.ix (.slot 2) (.cst (.int (1)))) (.ix (.slot 3) (.cst (.int (1))))) (.cmp .Eq (.ix (.slot 2) (.cst (.int (0)))) (.glob "DROP")))) [(.ret (.cst (.bool false)))] [])]
theorem u_l1_is_mend (g : G) (env : Env) : exs g l1_is_mend env = exs g [(.ife (.bor (.cmp .Gt (.ix (.slot 2) (.cst (.int (1)))) (.ix (.slot 3) (.cst (.int (1))))) (.band (.cmp .Eq (.ix (.slot 2) (.cst (.int (1)))) (.ix (.slot 3) (.cst (.int (1))))) (.cmp .Eq (.ix (.slot 2) (.cst (.int (0)))) (.glob "DROP")))) [(.ret (.cst (.bool false)))] [])] env := rfl
def is_mend : List S := [(.ife (.bor (.bnot (.isi (.slot 1) .tuple)) (.bnot (.blt .all [c1_is_mend]))) [(.ret (.cst (.bool false)))] []), (.for (.tp [(.nm 2), (.nm 3)]) (.zip (.cut (.slot 1) none (some (.neg (.cst (.int (1)))))) (.cut (.slot 1) (some (.cst (.int (1)))) none)) l1_is_mend), (.ret (.call "is_sheet" [(.call "made" [(.slot 0), (.slot 1)])]))]
theorem u_is_mend (g : G) (env : Env) : exs g is_mend env = exs g [(.ife (.bor (.bnot (.isi (.slot 1) .tuple)) (.bnot (.blt .all [c1_is_mend]))) [(.ret (.cst (.bool false)))] []), (.for (.tp [(.nm 2), (.nm 3)]) (.zip (.cut (.slot 1) none (some (.neg (.cst (.int (1)))))) (.cut (.slot 1) (some (.cst (.int (1)))) none)) l1_is_mend), (.ret (.call "is_sheet" [(.call "made" [(.slot 0), (.slot 1)])]))] env := rfl
def c1__law_is_deed : E := (.lc [3] (.nm 3) (.sq (.ix (.slot 2) (.cst (.int (1))))) (.bnot (.cmp2 .LtE .LtE (.cst (.str "a")) (.slot 3) (.cst (.str "z")))) (.slot 3))
def _law_is_deed : List S := [(.ife (.bor (.bnot (.isi (.slot 1) .tuple)) (.bor (.bnot (.cmp2 .LtE .LtE (.cst (.int (2))) (.blt .len [(.slot 1)]) (.cst (.int (3))))) (.bnot (.isi (.ix (.slot 1) (.cst (.int (0)))) .str)))) [(.ret (.cst (.bool false)))] []), (.ife (.bor (.bnot (.isi (.ix (.slot 1) (.cst (.int (1)))) .int)) (.isi (.ix (.slot 1) (.cst (.int (1)))) .bool)) [(.ret (.cst (.bool false)))] []), (.ife (.cmp .Eq (.ix (.slot 1) (.cst (.int (0)))) (.cst (.str "drop"))) [(.ret (.band (.cmp .Eq (.blt .len [(.slot 1)]) (.cst (.int (2)))) (.cmp2 .LtE .Lt (.cst (.int (0))) (.ix (.slot 1) (.cst (.int (1)))) (.blt .len [(.slot 0)]))))] []), (.ife (.bor (.cmp .NotEq (.ix (.slot 1) (.cst (.int (0)))) (.cst (.str "put"))) (.bor (.cmp .NotEq (.blt .len [(.slot 1)]) (.cst (.int (3)))) (.bnot (.cmp2 .LtE .LtE (.cst (.int (0))) (.ix (.slot 1) (.cst (.int (1)))) (.blt .len [(.slot 0)]))))) [(.ret (.cst (.bool false)))] []), (.set 2 (.ix (.slot 1) (.cst (.int (2))))), (.ife (.bor (.bnot (.isi (.slot 2) .tuple)) (.bor (.cmp .NotEq (.blt .len [(.slot 2)]) (.cst (.int (2)))) (.cmp .NotIn (.ix (.slot 2) (.cst (.int (0)))) (.tup [(.cst (.str "open")), (.cst (.str "next")), (.cst (.str "close"))])))) [(.ret (.cst (.bool false)))] []), (.ife (.bor (.bnot (.isi (.ix (.slot 2) (.cst (.int (1)))) .str)) (.bnot (.cmp2 .LtE .LtE (.cst (.int (1))) (.blt .len [(.ix (.slot 2) (.cst (.int (1))))]) (.cst (.int (4)))))) [(.ret (.cst (.bool false)))] []), (.ret (.cmp .Eq c1__law_is_deed (.lst [])))]
theorem u__law_is_deed (g : G) (env : Env) : exs g _law_is_deed env = exs g [(.ife (.bor (.bnot (.isi (.slot 1) .tuple)) (.bor (.bnot (.cmp2 .LtE .LtE (.cst (.int (2))) (.blt .len [(.slot 1)]) (.cst (.int (3))))) (.bnot (.isi (.ix (.slot 1) (.cst (.int (0)))) .str)))) [(.ret (.cst (.bool false)))] []), (.ife (.bor (.bnot (.isi (.ix (.slot 1) (.cst (.int (1)))) .int)) (.isi (.ix (.slot 1) (.cst (.int (1)))) .bool)) [(.ret (.cst (.bool false)))] []), (.ife (.cmp .Eq (.ix (.slot 1) (.cst (.int (0)))) (.cst (.str "drop"))) [(.ret (.band (.cmp .Eq (.blt .len [(.slot 1)]) (.cst (.int (2)))) (.cmp2 .LtE .Lt (.cst (.int (0))) (.ix (.slot 1) (.cst (.int (1)))) (.blt .len [(.slot 0)]))))] []), (.ife (.bor (.cmp .NotEq (.ix (.slot 1) (.cst (.int (0)))) (.cst (.str "put"))) (.bor (.cmp .NotEq (.blt .len [(.slot 1)]) (.cst (.int (3)))) (.bnot (.cmp2 .LtE .LtE (.cst (.int (0))) (.ix (.slot 1) (.cst (.int (1)))) (.blt .len [(.slot 0)]))))) [(.ret (.cst (.bool false)))] []), (.set 2 (.ix (.slot 1) (.cst (.int (2))))), (.ife (.bor (.bnot (.isi (.slot 2) .tuple)) (.bor (.cmp .NotEq (.blt .len [(.slot 2)]) (.cst (.int (2)))) (.cmp .NotIn (.ix (.slot 2) (.cst (.int (0)))) (.tup [(.cst (.str "open")), (.cst (.str "next")), (.cst (.str "close"))])))) [(.ret (.cst (.bool false)))] []), (.ife (.bor (.bnot (.isi (.ix (.slot 2) (.cst (.int (1)))) .str)) (.bnot (.cmp2 .LtE .LtE (.cst (.int (1))) (.blt .len [(.ix (.slot 2) (.cst (.int (1))))]) (.cst (.int (4)))))) [(.ret (.cst (.bool false)))] []), (.ret (.cmp .Eq c1__law_is_deed (.lst [])))] env := rfl
def c1__law_is_mend : E := (.lc [4] (.nm 4) (.sq (.slot 1)) (.bnot (.call "_law_is_deed" [(.slot 0), (.slot 4)])) (.slot 4))
def l1__law_is_mend : List S := [(.ife (.bor (.cmp .Gt (.ix (.slot 2) (.cst (.int (1)))) (.ix (.slot 3) (.cst (.int (1))))) (.band (.cmp .Eq (.ix (.slot 2) (.cst (.int (1)))) (.ix (.slot 3) (.cst (.int (1))))) (.cmp .Eq (.ix (.slot 2) (.cst (.int (0)))) (.cst (.str "drop"))))) [(.ret (.cst (.bool false)))] [])]
theorem u_l1__law_is_mend (g : G) (env : Env) : exs g l1__law_is_mend env = exs g [(.ife (.bor (.cmp .Gt (.ix (.slot 2) (.cst (.int (1)))) (.ix (.slot 3) (.cst (.int (1))))) (.band (.cmp .Eq (.ix (.slot 2) (.cst (.int (1)))) (.ix (.slot 3) (.cst (.int (1))))) (.cmp .Eq (.ix (.slot 2) (.cst (.int (0)))) (.cst (.str "drop"))))) [(.ret (.cst (.bool false)))] [])] env := rfl
def _law_is_mend : List S := [(.ife (.bor (.bnot (.isi (.slot 1) .tuple)) (.cmp .NotEq c1__law_is_mend (.lst []))) [(.ret (.cst (.bool false)))] []), (.for (.tp [(.nm 2), (.nm 3)]) (.zip (.cut (.slot 1) none (some (.neg (.cst (.int (1)))))) (.cut (.slot 1) (some (.cst (.int (1)))) none)) l1__law_is_mend), (.ret (.cmp .Eq (.call "_law_opened" [(.call "_law_made" [(.slot 0), (.slot 1)])]) (.tup [(.lst []), (.cst .none)])))]
theorem u__law_is_mend (g : G) (env : Env) : exs g _law_is_mend env = exs g [(.ife (.bor (.bnot (.isi (.slot 1) .tuple)) (.cmp .NotEq c1__law_is_mend (.lst []))) [(.ret (.cst (.bool false)))] []), (.for (.tp [(.nm 2), (.nm 3)]) (.zip (.cut (.slot 1) none (some (.neg (.cst (.int (1)))))) (.cut (.slot 1) (some (.cst (.int (1)))) none)) l1__law_is_mend), (.ret (.cmp .Eq (.call "_law_opened" [(.call "_law_made" [(.slot 0), (.slot 1)])]) (.tup [(.lst []), (.cst .none)])))] env := rfl
def l1__law_drew : List S := [(.set 4 (.call "_law_drawn" [(.slot 1), (.bin .Add (.cst (.int (80))) (.slot 3))])), (.ife (.cmp .Eq (.bin .Mod (.bin .FloorDiv (.slot 4) (.cst (.int (16)))) (.cst (.int (4)))) (.cst (.int (0)))) [(.set 5 (.tup [(.ix (.tup [(.cst (.str "open")), (.cst (.str "next")), (.cst (.str "close"))]) (.bin .Mod (.bin .FloorDiv (.slot 4) (.cst (.int (64)))) (.cst (.int (3))))), (.ix (.tup [(.cst (.str "a")), (.cst (.str "b"))]) (.bin .Mod (.bin .FloorDiv (.slot 4) (.cst (.int (256)))) (.cst (.int (2)))))])), (.set 2 (.bin .Add (.slot 2) (.tup [(.tup [(.cst (.str "put")), (.slot 3), (.slot 5)])])))] []), (.ife (.band (.cmp .Eq (.bin .Mod (.bin .FloorDiv (.slot 4) (.cst (.int (1024)))) (.cst (.int (3)))) (.cst (.int (0)))) (.cmp .Lt (.slot 3) (.blt .len [(.slot 0)]))) [(.set 2 (.bin .Add (.slot 2) (.tup [(.tup [(.cst (.str "drop")), (.slot 3)])])))] [])]
theorem u_l1__law_drew (g : G) (env : Env) : exs g l1__law_drew env = exs g [(.set 4 (.call "_law_drawn" [(.slot 1), (.bin .Add (.cst (.int (80))) (.slot 3))])), (.ife (.cmp .Eq (.bin .Mod (.bin .FloorDiv (.slot 4) (.cst (.int (16)))) (.cst (.int (4)))) (.cst (.int (0)))) [(.set 5 (.tup [(.ix (.tup [(.cst (.str "open")), (.cst (.str "next")), (.cst (.str "close"))]) (.bin .Mod (.bin .FloorDiv (.slot 4) (.cst (.int (64)))) (.cst (.int (3))))), (.ix (.tup [(.cst (.str "a")), (.cst (.str "b"))]) (.bin .Mod (.bin .FloorDiv (.slot 4) (.cst (.int (256)))) (.cst (.int (2)))))])), (.set 2 (.bin .Add (.slot 2) (.tup [(.tup [(.cst (.str "put")), (.slot 3), (.slot 5)])])))] []), (.ife (.band (.cmp .Eq (.bin .Mod (.bin .FloorDiv (.slot 4) (.cst (.int (1024)))) (.cst (.int (3)))) (.cst (.int (0)))) (.cmp .Lt (.slot 3) (.blt .len [(.slot 0)]))) [(.set 2 (.bin .Add (.slot 2) (.tup [(.tup [(.cst (.str "drop")), (.slot 3)])])))] [])] env := rfl
def _law_drew : List S := [(.set 2 (.tup [])), (.for (.nm 3) (.rng (.cst (.int (0))) (.bin .Add (.blt .len [(.slot 0)]) (.cst (.int (1))))) l1__law_drew), (.ret (.slot 2))]
theorem u__law_drew (g : G) (env : Env) : exs g _law_drew env = exs g [(.set 2 (.tup [])), (.for (.nm 3) (.rng (.cst (.int (0))) (.bin .Add (.blt .len [(.slot 0)]) (.cst (.int (1))))) l1__law_drew), (.ret (.slot 2))] env := rfl
def cut : List S := [(.ret .bad)]
theorem u_cut (g : G) (env : Env) : exs g cut env = exs g [(.ret .bad)] env := rfl
def cut_cost : List S := [(.ret (.bin .Sub (.blt .len [(.slot 0)]) (.blt .len [(.call "cut" [(.slot 0)])])))]
theorem u_cut_cost (g : G) (env : Env) : exs g cut_cost env = exs g [(.ret (.bin .Sub (.blt .len [(.slot 0)]) (.blt .len [(.call "cut" [(.slot 0)])])))] env := rfl
def without_one : List S := [(.ret (.bin .Add (.cut (.slot 0) none (some (.slot 1))) (.cut (.slot 0) (some (.bin .Add (.slot 1) (.cst (.int (1))))) none)))]
theorem u_without_one (g : G) (env : Env) : exs g without_one env = exs g [(.ret (.bin .Add (.cut (.slot 0) none (some (.slot 1))) (.cut (.slot 0) (some (.bin .Add (.slot 1) (.cst (.int (1))))) none)))] env := rfl
def c1_kept : E := (.lc [2] (.nm 2) (.rng (.cst (.int (0))) (.blt .len [(.slot 0)])) (.cmp .Gt (.bin .Add (.call "cost" [(.call "without_one" [(.slot 0), (.slot 2)])]) (.cst (.int (1)))) (.slot 1)) (.slot 2))
def kept : List S := [(.set 1 (.call "cost" [(.slot 0)])), (.ret (.blt .tuple [c1_kept]))]
theorem u_kept (g : G) (env : Env) : exs g kept env = exs g [(.set 1 (.call "cost" [(.slot 0)])), (.ret (.blt .tuple [c1_kept]))] env := rfl
def l1_gone : List S := [(.set 4 (.call "best_mend" [(.slot 0), (.slot 3)])), (.ife (.bor (.cmp .Is (.slot 4) (.cst .none)) (.cmp .Gt (.blt .len [(.ix (.slot 4) (.cst (.int (0))))]) (.slot 1))) [(.set 2 (.bin .Add (.slot 2) (.tup [(.slot 3)])))] [])]
theorem u_l1_gone (g : G) (env : Env) : exs g l1_gone env = exs g [(.set 4 (.call "best_mend" [(.slot 0), (.slot 3)])), (.ife (.bor (.cmp .Is (.slot 4) (.cst .none)) (.cmp .Gt (.blt .len [(.ix (.slot 4) (.cst (.int (0))))]) (.slot 1))) [(.set 2 (.bin .Add (.slot 2) (.tup [(.slot 3)])))] [])] env := rfl
def gone : List S := [(.set 1 (.call "cost" [(.slot 0)])), (.set 2 (.tup [])), (.for (.nm 3) (.rng (.cst (.int (0))) (.blt .len [(.slot 0)])) l1_gone), (.ret (.slot 2))]
theorem u_gone (g : G) (env : Env) : exs g gone env = exs g [(.set 1 (.call "cost" [(.slot 0)])), (.set 2 (.tup [])), (.for (.nm 3) (.rng (.cst (.int (0))) (.blt .len [(.slot 0)])) l1_gone), (.ret (.slot 2))] env := rfl
def c1_doubtful : E := (.lc [2] (.nm 2) (.rng (.cst (.int (0))) (.blt .len [(.slot 0)])) (.cmp .NotIn (.slot 2) (.slot 1)) (.slot 2))
def doubtful : List S := [(.set 1 (.bin .Add (.call "kept" [(.slot 0)]) (.call "gone" [(.slot 0)]))), (.ret (.blt .tuple [c1_doubtful]))]
theorem u_doubtful (g : G) (env : Env) : exs g doubtful env = exs g [(.set 1 (.bin .Add (.call "kept" [(.slot 0)]) (.call "gone" [(.slot 0)]))), (.ret (.blt .tuple [c1_doubtful]))] env := rfl
def c1__law_mends : E := (.lc [11] (.nm 11) (.sq (.slot 10)) (.cst (.bool true)) (.bin .Add (.tup [(.slot 1)]) (.slot 11)))
def l1__law_mends : List S := [(.fz [5] (.seto 5 (.bin .Add (.slot 5) (.call "_law_mends" [(.slot 0), (.slot 1), (.bin .Add (.slot 2) (.tup [(.slot 6)])), (.bin .Sub (.slot 3) (.cst (.int (1)))), (.slot 4)]))))]
theorem u_l1__law_mends (g : G) (env : Env) : exs g l1__law_mends env = exs g [(.fz [5] (.seto 5 (.bin .Add (.slot 5) (.call "_law_mends" [(.slot 0), (.slot 1), (.bin .Add (.slot 2) (.tup [(.slot 6)])), (.bin .Sub (.slot 3) (.cst (.int (1)))), (.slot 4)]))))] env := rfl
def _law_mends : List S := [(.seto 5 (.lst [])), (.ife (.band (.cmp .Eq (.slot 1) (.blt .len [(.slot 0)])) (.cmp .Eq (.slot 2) (.tup []))) [(.app 5 (.tup []))] []), (.ife (.cmp .Lt (.slot 1) (.blt .len [(.slot 0)])) [(.asg (.tp [(.nm 6), (.nm 7)]) (.ix (.slot 0) (.slot 1))), (.set 8 (.slot 2)), (.set 9 (.bor (.cmp .Eq (.slot 6) (.cst (.str "line"))) (.cmp .Eq (.cut (.slot 2) (some (.neg (.cst (.int (1))))) none) (.tup [(.slot 7)])))), (.ife (.cmp .Eq (.slot 6) (.cst (.str "open"))) [(.set 8 (.bin .Add (.slot 2) (.tup [(.slot 7)]))), (.set 9 (.cst (.bool true)))] []), (.ife (.cmp .Eq (.slot 6) (.cst (.str "close"))) [(.set 8 (.cut (.slot 2) none (some (.neg (.cst (.int (1)))))))] []), (.ife (.slot 9) [(.fz [5] (.seto 5 (.bin .Add (.slot 5) (.call "_law_mends" [(.slot 0), (.bin .Add (.slot 1) (.cst (.int (1)))), (.slot 8), (.slot 3), (.slot 4)]))))] []), (.ife (.cmp .Gt (.slot 3) (.cst (.int (0)))) [(.set 10 (.call "_law_mends" [(.slot 0), (.bin .Add (.slot 1) (.cst (.int (1)))), (.slot 2), (.bin .Sub (.slot 3) (.cst (.int (1)))), (.slot 4)])), (.fz [5] (.seto 5 (.bin .Add (.slot 5) c1__law_mends)))] [])] []), (.ife (.cmp .Gt (.slot 3) (.cst (.int (0)))) [(.for (.nm 6) (.sq (.slot 4)) l1__law_mends), (.ife (.cmp .NotEq (.slot 2) (.tup [])) [(.fz [5] (.seto 5 (.bin .Add (.slot 5) (.call "_law_mends" [(.slot 0), (.slot 1), (.cut (.slot 2) none (some (.neg (.cst (.int (1)))))), (.bin .Sub (.slot 3) (.cst (.int (1)))), (.slot 4)]))))] [])] []), (.ret (.slot 5))]
theorem u__law_mends (g : G) (env : Env) : exs g _law_mends env = exs g [(.seto 5 (.lst [])), (.ife (.band (.cmp .Eq (.slot 1) (.blt .len [(.slot 0)])) (.cmp .Eq (.slot 2) (.tup []))) [(.app 5 (.tup []))] []), (.ife (.cmp .Lt (.slot 1) (.blt .len [(.slot 0)])) [(.asg (.tp [(.nm 6), (.nm 7)]) (.ix (.slot 0) (.slot 1))), (.set 8 (.slot 2)), (.set 9 (.bor (.cmp .Eq (.slot 6) (.cst (.str "line"))) (.cmp .Eq (.cut (.slot 2) (some (.neg (.cst (.int (1))))) none) (.tup [(.slot 7)])))), (.ife (.cmp .Eq (.slot 6) (.cst (.str "open"))) [(.set 8 (.bin .Add (.slot 2) (.tup [(.slot 7)]))), (.set 9 (.cst (.bool true)))] []), (.ife (.cmp .Eq (.slot 6) (.cst (.str "close"))) [(.set 8 (.cut (.slot 2) none (some (.neg (.cst (.int (1)))))))] []), (.ife (.slot 9) [(.fz [5] (.seto 5 (.bin .Add (.slot 5) (.call "_law_mends" [(.slot 0), (.bin .Add (.slot 1) (.cst (.int (1)))), (.slot 8), (.slot 3), (.slot 4)]))))] []), (.ife (.cmp .Gt (.slot 3) (.cst (.int (0)))) [(.set 10 (.call "_law_mends" [(.slot 0), (.bin .Add (.slot 1) (.cst (.int (1)))), (.slot 2), (.bin .Sub (.slot 3) (.cst (.int (1)))), (.slot 4)])), (.fz [5] (.seto 5 (.bin .Add (.slot 5) c1__law_mends)))] [])] []), (.ife (.cmp .Gt (.slot 3) (.cst (.int (0)))) [(.for (.nm 6) (.sq (.slot 4)) l1__law_mends), (.ife (.cmp .NotEq (.slot 2) (.tup [])) [(.fz [5] (.seto 5 (.bin .Add (.slot 5) (.call "_law_mends" [(.slot 0), (.slot 1), (.cut (.slot 2) none (some (.neg (.cst (.int (1)))))), (.bin .Sub (.slot 3) (.cst (.int (1)))), (.slot 4)]))))] [])] []), (.ret (.slot 5))] env := rfl
def c1__law_some : E := (.lc [3] (.nm 3) (.sq (.slot 1)) (.cst (.bool true)) (.bin .Add (.slot 3) (.tup [(.slot 2)])))
def l1__law_some : List S := [(.set 1 (.bin .Add (.slot 1) c1__law_some))]
theorem u_l1__law_some (g : G) (env : Env) : exs g l1__law_some env = exs g [(.set 1 (.bin .Add (.slot 1) c1__law_some))] env := rfl
def _law_some : List S := [(.set 1 (.lst [(.tup [])])), (.for (.nm 2) (.rng (.cst (.int (0))) (.slot 0)) l1__law_some), (.ret (.slot 1))]
theorem u__law_some (g : G) (env : Env) : exs g _law_some env = exs g [(.set 1 (.lst [(.tup [])])), (.for (.nm 2) (.rng (.cst (.int (0))) (.slot 0)) l1__law_some), (.ret (.slot 1))] env := rfl
def c1__law_back : E := (.lc [2, 3] (.tp [(.nm 2), (.nm 3)]) (.sq (.rev (.slot 0))) (.cst (.bool true)) (.tup [(.ix (.slot 1) (.slot 2)), (.slot 3)]))
def _law_back : List S := [(.set 1 .bad), (.ret (.blt .tuple [c1__law_back]))]
theorem u__law_back (g : G) (env : Env) : exs g _law_back env = exs g [(.set 1 .bad), (.ret (.blt .tuple [c1__law_back]))] env := rfl
def c1__law_places : E := (.lc [2] (.nm 2) (.sq (.rev (.slot 0))) (.cst (.bool true)) (.bin .Sub (.bin .Sub (.slot 1) (.cst (.int (1)))) (.slot 2)))
def _law_places : List S := [(.ret (.blt .tuple [c1__law_places]))]
theorem u__law_places (g : G) (env : Env) : exs g _law_places env = exs g [(.ret (.blt .tuple [c1__law_places]))] env := rfl
def c1__law_moved : E := (.lc [2] (.nm 2) (.sq (.slot 0)) (.cst (.bool true)) (.bin .Add (.slot 2) (.blt .int [(.cmp .GtE (.slot 2) (.slot 1))])))
def _law_moved : List S := [(.ret c1__law_moved)]
theorem u__law_moved (g : G) (env : Env) : exs g _law_moved env = exs g [(.ret c1__law_moved)] env := rfl
def c1_without : E := (.lc [2] (.nm 2) (.sq (.slot 0)) (.bor (.cmp .Eq (.ix (.slot 2) (.cst (.int (0)))) (.glob "LINE")) (.cmp .NotEq (.ix (.slot 2) (.cst (.int (1)))) (.slot 1))) (.slot 2))
def without : List S := [(.ret (.blt .tuple [c1_without]))]
theorem u_without (g : G) (env : Env) : exs g without env = exs g [(.ret (.blt .tuple [c1_without]))] env := rfl
def l1_renamed : List S := [(.ife (.band (.cmp .NotEq (.slot 4) (.glob "LINE")) (.cmp .Eq (.slot 5) (.slot 1))) [(.set 5 (.slot 2))] []), (.set 3 (.bin .Add (.slot 3) (.tup [(.tup [(.slot 4), (.slot 5)])])))]
theorem u_l1_renamed (g : G) (env : Env) : exs g l1_renamed env = exs g [(.ife (.band (.cmp .NotEq (.slot 4) (.glob "LINE")) (.cmp .Eq (.slot 5) (.slot 1))) [(.set 5 (.slot 2))] []), (.set 3 (.bin .Add (.slot 3) (.tup [(.tup [(.slot 4), (.slot 5)])])))] env := rfl
def renamed : List S := [(.set 3 (.tup [])), (.for (.tp [(.nm 4), (.nm 5)]) (.sq (.slot 0)) l1_renamed), (.ret (.slot 3))]
theorem u_renamed (g : G) (env : Env) : exs g renamed env = exs g [(.set 3 (.tup [])), (.for (.tp [(.nm 4), (.nm 5)]) (.sq (.slot 0)) l1_renamed), (.ret (.slot 3))] env := rfl
def l1_likely : List S := [(.set 3 (.call "cost" [(.call "without" [(.slot 0), (.slot 2)])])), (.ife (.bor (.cmp .Is (.slot 1) (.cst .none)) (.cmp .Lt (.slot 3) (.ix (.slot 1) (.cst (.int (0)))))) [(.set 1 (.tup [(.slot 3), (.slot 2)]))] [])]
theorem u_l1_likely (g : G) (env : Env) : exs g l1_likely env = exs g [(.set 3 (.call "cost" [(.call "without" [(.slot 0), (.slot 2)])])), (.ife (.bor (.cmp .Is (.slot 1) (.cst .none)) (.cmp .Lt (.slot 3) (.ix (.slot 1) (.cst (.int (0)))))) [(.set 1 (.tup [(.slot 3), (.slot 2)]))] [])] env := rfl
def likely : List S := [(.set 1 (.cst .none)), (.for (.nm 2) (.sq (.call "names" [(.slot 0)])) l1_likely), (.ife (.cmp .Is (.slot 1) (.cst .none)) [(.ret (.cst .none))] []), (.ret (.ix (.slot 1) (.cst (.int (1)))))]
theorem u_likely (g : G) (env : Env) : exs g likely env = exs g [(.set 1 (.cst .none)), (.for (.nm 2) (.sq (.call "names" [(.slot 0)])) l1_likely), (.ife (.cmp .Is (.slot 1) (.cst .none)) [(.ret (.cst .none))] []), (.ret (.ix (.slot 1) (.cst (.int (1)))))] env := rfl
def l1__law_without : List S := [(.set 0 (.call "without" [(.slot 0), (.slot 2)]))]
theorem u_l1__law_without (g : G) (env : Env) : exs g l1__law_without env = exs g [(.set 0 (.call "without" [(.slot 0), (.slot 2)]))] env := rfl
def _law_without : List S := [(.for (.nm 2) (.sq (.slot 1)) l1__law_without), (.ret (.slot 0))]
theorem u__law_without (g : G) (env : Env) : exs g _law_without env = exs g [(.for (.nm 2) (.sq (.slot 1)) l1__law_without), (.ret (.slot 0))] env := rfl
def c1_deep : E := (.lc [1] (.nm 1) (.sq (.ix (.slot 2) (.cst (.int (1))))) (.cst (.bool true)) (.call "deep" [(.slot 1)]))
def c2_deep : E := (.lc [2] (.nm 2) (.sq (.slot 0)) (.bnot (.call "is_text" [(.slot 2)])) (.bin .Add (.cst (.int (1))) (.blt .max1 [c1_deep])))
def deep : List S := [(.ret (.blt .max1 [(.bin .Add (.lst [(.cst (.int (0)))]) c2_deep)]))]
theorem u_deep (g : G) (env : Env) : exs g deep env = exs g [(.ret (.blt .max1 [(.bin .Add (.lst [(.cst (.int (0)))]) c2_deep)]))] env := rfl
def l2_lines : List S := [(.set 1 (.bin .Add (.slot 1) (.call "lines" [(.slot 3)])))]
theorem u_l2_lines (g : G) (env : Env) : exs g l2_lines env = exs g [(.set 1 (.bin .Add (.slot 1) (.call "lines" [(.slot 3)])))] env := rfl
def l1_lines : List S := [(.ife (.call "is_text" [(.slot 2)]) [(.set 1 (.bin .Add (.slot 1) (.tup [(.slot 2)])))] [(.for (.nm 3) (.sq (.ix (.slot 2) (.cst (.int (1))))) l2_lines)])]
theorem u_l1_lines (g : G) (env : Env) : exs g l1_lines env = exs g [(.ife (.call "is_text" [(.slot 2)]) [(.set 1 (.bin .Add (.slot 1) (.tup [(.slot 2)])))] [(.for (.nm 3) (.sq (.ix (.slot 2) (.cst (.int (1))))) l2_lines)])] env := rfl
def lines : List S := [(.set 1 (.tup [])), (.for (.nm 2) (.sq (.slot 0)) l1_lines), (.ret (.slot 1))]
theorem u_lines (g : G) (env : Env) : exs g lines env = exs g [(.set 1 (.tup [])), (.for (.nm 2) (.sq (.slot 0)) l1_lines), (.ret (.slot 1))] env := rfl
def l2_letters : List S := [(.set 1 (.bin .Add (.slot 1) (.call "letters" [(.slot 3)])))]
theorem u_l2_letters (g : G) (env : Env) : exs g l2_letters env = exs g [(.set 1 (.bin .Add (.slot 1) (.call "letters" [(.slot 3)])))] env := rfl
def l1_letters : List S := [(.ife (.bnot (.call "is_text" [(.slot 2)])) [(.set 1 (.bin .Add (.slot 1) (.tup [(.ix (.slot 2) (.cst (.int (0))))]))), (.for (.nm 3) (.sq (.ix (.slot 2) (.cst (.int (1))))) l2_letters)] [])]
theorem u_l1_letters (g : G) (env : Env) : exs g l1_letters env = exs g [(.ife (.bnot (.call "is_text" [(.slot 2)])) [(.set 1 (.bin .Add (.slot 1) (.tup [(.ix (.slot 2) (.cst (.int (0))))]))), (.for (.nm 3) (.sq (.ix (.slot 2) (.cst (.int (1))))) l2_letters)] [])] env := rfl
def letters : List S := [(.set 1 (.tup [])), (.for (.nm 2) (.sq (.slot 0)) l1_letters), (.ret (.slot 1))]
theorem u_letters (g : G) (env : Env) : exs g letters env = exs g [(.set 1 (.tup [])), (.for (.nm 2) (.sq (.slot 0)) l1_letters), (.ret (.slot 1))] env := rfl
def part_at : List S := [(.ife (.cmp .Eq (.blt .len [(.slot 1)]) (.cst (.int (0)))) [(.ret (.slot 0))] []), (.ife (.bor (.cmp .Lt (.blt .len [(.slot 1)]) (.cst (.int (2)))) (.bor (.bnot (.cmp2 .LtE .Lt (.cst (.int (0))) (.ix (.slot 1) (.cst (.int (0)))) (.blt .len [(.slot 0)]))) (.call "is_text" [(.ix (.slot 0) (.ix (.slot 1) (.cst (.int (0)))))]))) [(.raise "NoPart")] []), (.set 2 (.ix (.ix (.slot 0) (.ix (.slot 1) (.cst (.int (0))))) (.cst (.int (1))))), (.ife (.bnot (.cmp2 .LtE .Lt (.cst (.int (0))) (.ix (.slot 1) (.cst (.int (1)))) (.blt .len [(.slot 2)]))) [(.raise "NoPart")] []), (.ret (.call "part_at" [(.ix (.slot 2) (.ix (.slot 1) (.cst (.int (1))))), (.cut (.slot 1) (some (.cst (.int (2)))) none)]))]
theorem u_part_at (g : G) (env : Env) : exs g part_at env = exs g [(.ife (.cmp .Eq (.blt .len [(.slot 1)]) (.cst (.int (0)))) [(.ret (.slot 0))] []), (.ife (.bor (.cmp .Lt (.blt .len [(.slot 1)]) (.cst (.int (2)))) (.bor (.bnot (.cmp2 .LtE .Lt (.cst (.int (0))) (.ix (.slot 1) (.cst (.int (0)))) (.blt .len [(.slot 0)]))) (.call "is_text" [(.ix (.slot 0) (.ix (.slot 1) (.cst (.int (0)))))]))) [(.raise "NoPart")] []), (.set 2 (.ix (.ix (.slot 0) (.ix (.slot 1) (.cst (.int (0))))) (.cst (.int (1))))), (.ife (.bnot (.cmp2 .LtE .Lt (.cst (.int (0))) (.ix (.slot 1) (.cst (.int (1)))) (.blt .len [(.slot 2)]))) [(.raise "NoPart")] []), (.ret (.call "part_at" [(.ix (.slot 2) (.ix (.slot 1) (.cst (.int (1))))), (.cut (.slot 1) (some (.cst (.int (2)))) none)]))] env := rfl
def c1_found : E := (.lc [3] (.nm 3) (.sq (.slot 0)) (.call "is_text" [(.slot 3)]) (.slot 3))
def l2_found : List S := [(.set 6 (.call "found" [(.slot 5), (.slot 1)])), (.ife (.cmp .IsNot (.slot 6) (.cst .none)) [(.ret (.bin .Add (.tup [(.slot 2), (.slot 4)]) (.slot 6)))] [])]
theorem u_l2_found (g : G) (env : Env) : exs g l2_found env = exs g [(.set 6 (.call "found" [(.slot 5), (.slot 1)])), (.ife (.cmp .IsNot (.slot 6) (.cst .none)) [(.ret (.bin .Add (.tup [(.slot 2), (.slot 4)]) (.slot 6)))] [])] env := rfl
def l1_found : List S := [(.ife (.bnot (.call "is_text" [(.slot 3)])) [(.for (.tp [(.nm 4), (.nm 5)]) (.enm (.ix (.slot 3) (.cst (.int (1))))) l2_found)] [])]
theorem u_l1_found (g : G) (env : Env) : exs g l1_found env = exs g [(.ife (.bnot (.call "is_text" [(.slot 3)])) [(.for (.tp [(.nm 4), (.nm 5)]) (.enm (.ix (.slot 3) (.cst (.int (1))))) l2_found)] [])] env := rfl
def found : List S := [(.ife (.cmp .In (.slot 1) c1_found) [(.ret (.tup []))] []), (.for (.tp [(.nm 2), (.nm 3)]) (.enm (.slot 0)) l1_found), (.ret (.cst .none))]
theorem u_found (g : G) (env : Env) : exs g found env = exs g [(.ife (.cmp .In (.slot 1) c1_found) [(.ret (.tup []))] []), (.for (.tp [(.nm 2), (.nm 3)]) (.enm (.slot 0)) l1_found), (.ret (.cst .none))] env := rfl
def flat : List S := [(.ret (.call "lines" [(.slot 0)]))]
theorem u_flat (g : G) (env : Env) : exs g flat env = exs g [(.ret (.call "lines" [(.slot 0)]))] env := rfl
def l2__law_walk : List S := [(.set 2 (.bin .Add (.slot 2) (.call "_law_walk" [(.slot 6), (.bin .Add (.slot 1) (.tup [(.slot 3), (.slot 5)]))])))]
theorem u_l2__law_walk (g : G) (env : Env) : exs g l2__law_walk env = exs g [(.set 2 (.bin .Add (.slot 2) (.call "_law_walk" [(.slot 6), (.bin .Add (.slot 1) (.tup [(.slot 3), (.slot 5)]))])))] env := rfl
def l1__law_walk : List S := [(.ife (.bnot (.isi (.slot 4) .str)) [(.for (.tp [(.nm 5), (.nm 6)]) (.enm (.ix (.slot 4) (.cst (.int (1))))) l2__law_walk)] [])]
theorem u_l1__law_walk (g : G) (env : Env) : exs g l1__law_walk env = exs g [(.ife (.bnot (.isi (.slot 4) .str)) [(.for (.tp [(.nm 5), (.nm 6)]) (.enm (.ix (.slot 4) (.cst (.int (1))))) l2__law_walk)] [])] env := rfl
def _law_walk : List S := [(.set 2 (.lst [(.tup [(.slot 1), (.slot 0)])])), (.for (.tp [(.nm 3), (.nm 4)]) (.enm (.slot 0)) l1__law_walk), (.ret (.slot 2))]
theorem u__law_walk (g : G) (env : Env) : exs g _law_walk env = exs g [(.set 2 (.lst [(.tup [(.slot 1), (.slot 0)])])), (.for (.tp [(.nm 3), (.nm 4)]) (.enm (.slot 0)) l1__law_walk), (.ret (.slot 2))] env := rfl
def l2__law_lines : List S := [(.set 1 (.bin .Add (.slot 1) (.call "_law_lines" [(.slot 3)])))]
theorem u_l2__law_lines (g : G) (env : Env) : exs g l2__law_lines env = exs g [(.set 1 (.bin .Add (.slot 1) (.call "_law_lines" [(.slot 3)])))] env := rfl
def l1__law_lines : List S := [(.ife (.isi (.slot 2) .str) [(.set 1 (.bin .Add (.slot 1) (.tup [(.slot 2)])))] [(.for (.nm 3) (.sq (.ix (.slot 2) (.cst (.int (1))))) l2__law_lines)])]
theorem u_l1__law_lines (g : G) (env : Env) : exs g l1__law_lines env = exs g [(.ife (.isi (.slot 2) .str) [(.set 1 (.bin .Add (.slot 1) (.tup [(.slot 2)])))] [(.for (.nm 3) (.sq (.ix (.slot 2) (.cst (.int (1))))) l2__law_lines)])] env := rfl
def _law_lines : List S := [(.set 1 (.tup [])), (.for (.nm 2) (.sq (.slot 0)) l1__law_lines), (.ret (.slot 1))]
theorem u__law_lines (g : G) (env : Env) : exs g _law_lines env = exs g [(.set 1 (.tup [])), (.for (.nm 2) (.sq (.slot 0)) l1__law_lines), (.ret (.slot 1))] env := rfl
def l2__law_names : List S := [(.set 1 (.bin .Add (.slot 1) (.call "_law_names" [(.slot 3)])))]
theorem u_l2__law_names (g : G) (env : Env) : exs g l2__law_names env = exs g [(.set 1 (.bin .Add (.slot 1) (.call "_law_names" [(.slot 3)])))] env := rfl
def l1__law_names : List S := [(.ife (.bnot (.isi (.slot 2) .str)) [(.set 1 (.bin .Add (.slot 1) (.tup [(.ix (.slot 2) (.cst (.int (0))))]))), (.for (.nm 3) (.sq (.ix (.slot 2) (.cst (.int (1))))) l2__law_names)] [])]
theorem u_l1__law_names (g : G) (env : Env) : exs g l1__law_names env = exs g [(.ife (.bnot (.isi (.slot 2) .str)) [(.set 1 (.bin .Add (.slot 1) (.tup [(.ix (.slot 2) (.cst (.int (0))))]))), (.for (.nm 3) (.sq (.ix (.slot 2) (.cst (.int (1))))) l2__law_names)] [])] env := rfl
def _law_names : List S := [(.set 1 (.tup [])), (.for (.nm 2) (.sq (.slot 0)) l1__law_names), (.ret (.slot 1))]
theorem u__law_names (g : G) (env : Env) : exs g _law_names env = exs g [(.set 1 (.tup [])), (.for (.nm 2) (.sq (.slot 0)) l1__law_names), (.ret (.slot 1))] env := rfl
def c1__law_swapped : E := (.lc [3] (.nm 3) (.sq (.ix (.slot 2) (.cst (.int (1))))) (.cst (.bool true)) (.call "_law_swapped" [(.slot 3)]))
def l1__law_swapped : List S := [(.ife (.bnot (.isi (.slot 2) .str)) [(.set 2 (.tup [(.ix (.slot 2) (.cst (.int (0)))), (.blt .tuple [(.rev c1__law_swapped)])]))] []), (.set 1 (.bin .Add (.slot 1) (.tup [(.slot 2)])))]
theorem u_l1__law_swapped (g : G) (env : Env) : exs g l1__law_swapped env = exs g [(.ife (.bnot (.isi (.slot 2) .str)) [(.set 2 (.tup [(.ix (.slot 2) (.cst (.int (0)))), (.blt .tuple [(.rev c1__law_swapped)])]))] []), (.set 1 (.bin .Add (.slot 1) (.tup [(.slot 2)])))] env := rfl
def _law_swapped : List S := [(.set 1 (.tup [])), (.for (.nm 2) (.sq (.slot 0)) l1__law_swapped), (.ret (.slot 1))]
theorem u__law_swapped (g : G) (env : Env) : exs g _law_swapped env = exs g [(.set 1 (.tup [])), (.for (.nm 2) (.sq (.slot 0)) l1__law_swapped), (.ret (.slot 1))] env := rfl
def c1__law_is_found : E := (.lc [5] (.nm 5) (.sq (.call "part_at" [(.slot 0), (.slot 4)])) (.isi (.slot 5) .str) (.slot 5))
def l1__law_is_found : List S := [(.set 4 (.call "found" [(.slot 0), (.slot 3)])), (.ife (.cmp .NotEq (.cmp .Is (.slot 4) (.cst .none)) (.cmp .NotIn (.slot 3) (.call "lines" [(.slot 0)]))) [(.ret (.cst (.bool false)))] []), (.ife (.cmp .IsNot (.slot 4) (.cst .none)) [(.ife (.cmp .NotIn (.slot 3) c1__law_is_found) [(.ret (.cst (.bool false)))] []), (.ife (.bor (.cmp .NotEq (.call "found" [(.slot 1), (.slot 3)]) (.bin .Add (.tup [(.cst (.int (0))), (.cst (.int (0)))]) (.slot 4))) (.cmp .Is (.call "found" [(.slot 2), (.slot 3)]) (.cst .none))) [(.ret (.cst (.bool false)))] [])] [])]
theorem u_l1__law_is_found (g : G) (env : Env) : exs g l1__law_is_found env = exs g [(.set 4 (.call "found" [(.slot 0), (.slot 3)])), (.ife (.cmp .NotEq (.cmp .Is (.slot 4) (.cst .none)) (.cmp .NotIn (.slot 3) (.call "lines" [(.slot 0)]))) [(.ret (.cst (.bool false)))] []), (.ife (.cmp .IsNot (.slot 4) (.cst .none)) [(.ife (.cmp .NotIn (.slot 3) c1__law_is_found) [(.ret (.cst (.bool false)))] []), (.ife (.bor (.cmp .NotEq (.call "found" [(.slot 1), (.slot 3)]) (.bin .Add (.tup [(.cst (.int (0))), (.cst (.int (0)))]) (.slot 4))) (.cmp .Is (.call "found" [(.slot 2), (.slot 3)]) (.cst .none))) [(.ret (.cst (.bool false)))] [])] [])] env := rfl
def _law_is_found : List S := [(.for (.nm 3) (.sq (.tup [(.cst (.str "")), (.cst (.str "a")), (.cst (.str "x y")), (.cst (.str "hello")), (.cst (.str "none"))])) l1__law_is_found), (.ret (.cst (.bool true)))]
theorem u__law_is_found (g : G) (env : Env) : exs g _law_is_found env = exs g [(.for (.nm 3) (.sq (.tup [(.cst (.str "")), (.cst (.str "a")), (.cst (.str "x y")), (.cst (.str "hello")), (.cst (.str "none"))])) l1__law_is_found), (.ret (.cst (.bool true)))] env := rfl
def c1__law_letters : E := (.lc [4] (.nm 4) (.sq (.slot 3)) (.bnot (.isi (.slot 4) .str)) (.slot 4))
def l1__law_letters : List S := [(.set 1 (.bin .Add (.slot 1) c1__law_letters))]
theorem u_l1__law_letters (g : G) (env : Env) : exs g l1__law_letters env = exs g [(.set 1 (.bin .Add (.slot 1) c1__law_letters))] env := rfl
def _law_letters : List S := [(.set 1 (.lst [])), (.for (.tp [(.nm 2), (.nm 3)]) (.sq (.slot 0)) l1__law_letters), (.ret (.slot 1))]
theorem u__law_letters (g : G) (env : Env) : exs g _law_letters env = exs g [(.set 1 (.lst [])), (.for (.tp [(.nm 2), (.nm 3)]) (.sq (.slot 0)) l1__law_letters), (.ret (.slot 1))] env := rfl
def _law_one_deed : List S := [(.ife (.cmp .Eq (.bin .Mod (.slot 1) (.cst (.int (4)))) (.cst (.int (0)))) [(.ret (.call "_law_twice_told" [.bad]))] []), (.ret (.call "_law_twice_told" [.bad]))]
theorem u__law_one_deed (g : G) (env : Env) : exs g _law_one_deed env = exs g [(.ife (.cmp .Eq (.bin .Mod (.slot 1) (.cst (.int (4)))) (.cst (.int (0)))) [(.ret (.call "_law_twice_told" [.bad]))] []), (.ret (.call "_law_twice_told" [.bad]))] env := rfl
def _law_twice_told : List S := [.bad, (.ret (.slot 1))]
theorem u__law_twice_told (g : G) (env : Env) : exs g _law_twice_told env = exs g [.bad, (.ret (.slot 1))] env := rfl
def _law_all_asked : List S := [(.ret (.tup [.bad, .bad, .bad, .bad, .bad]))]
theorem u__law_all_asked (g : G) (env : Env) : exs g _law_all_asked env = exs g [(.ret (.tup [.bad, .bad, .bad, .bad, .bad]))] env := rfl
def _law_stand : List S := [(.ret (.tup [.bad, .bad, .bad, .bad]))]
theorem u__law_stand (g : G) (env : Env) : exs g _law_stand env = exs g [(.ret (.tup [.bad, .bad, .bad, .bad]))] env := rfl
def row_text : List S := [(.ret (.bin .Add .bad (.ix (.slot 0) (.cst (.int (1))))))]
theorem u_row_text (g : G) (env : Env) : exs g row_text env = exs g [(.ret (.bin .Add .bad (.ix (.slot 0) (.cst (.int (1))))))] env := rfl
def c1_rows_text : E := (.lc [1] (.nm 1) (.sq (.slot 0)) (.cst (.bool true)) (.bin .Add (.call "row_text" [(.slot 1)]) (.glob "ROW_END")))
def rows_text : List S := [(.ret (.meth .join (.cst (.str "")) [c1_rows_text]))]
theorem u_rows_text (g : G) (env : Env) : exs g rows_text env = exs g [(.ret (.meth .join (.cst (.str "")) [c1_rows_text]))] env := rfl
def need : List S := [(.ife (.bnot (.slot 0)) [(.raise "NoText")] [])]
theorem u_need (g : G) (env : Env) : exs g need env = exs g [(.ife (.bnot (.slot 0)) [(.raise "NoText")] [])] env := rfl
def l1_row_of : List S := [(.ife (.cmp .Eq (.cut (.slot 0) none (some (.cst (.int (1))))) (.ix (.glob "SIGNS") (.slot 1))) [(.ret (.tup [(.slot 1), (.cut (.slot 0) (some (.cst (.int (1)))) none)]))] [])]
theorem u_l1_row_of (g : G) (env : Env) : exs g l1_row_of env = exs g [(.ife (.cmp .Eq (.cut (.slot 0) none (some (.cst (.int (1))))) (.ix (.glob "SIGNS") (.slot 1))) [(.ret (.tup [(.slot 1), (.cut (.slot 0) (some (.cst (.int (1)))) none)]))] [])] env := rfl
def row_of : List S := [(.for (.nm 1) (.sq (.tup [(.glob "OPEN"), (.glob "NEXT"), (.glob "CLOSE")])) l1_row_of), (.exp (.call "need" [(.cmp .Eq (.cut (.slot 0) none (some (.cst (.int (1))))) (.glob "BLANK"))])), (.ret (.tup [(.glob "LINE"), (.cut (.slot 0) (some (.cst (.int (1)))) none)]))]
theorem u_row_of (g : G) (env : Env) : exs g row_of env = exs g [(.for (.nm 1) (.sq (.tup [(.glob "OPEN"), (.glob "NEXT"), (.glob "CLOSE")])) l1_row_of), (.exp (.call "need" [(.cmp .Eq (.cut (.slot 0) none (some (.cst (.int (1))))) (.glob "BLANK"))])), (.ret (.tup [(.glob "LINE"), (.cut (.slot 0) (some (.cst (.int (1)))) none)]))] env := rfl
def texts_of : List S := [(.set 1 (.meth .split (.slot 0) [(.glob "ROW_END")])), (.exp (.call "need" [(.cmp .Eq (.ix (.slot 1) (.neg (.cst (.int (1))))) (.cst (.str "")))])), (.ret (.cut (.slot 1) none (some (.neg (.cst (.int (1)))))))]
theorem u_texts_of (g : G) (env : Env) : exs g texts_of env = exs g [(.set 1 (.meth .split (.slot 0) [(.glob "ROW_END")])), (.exp (.call "need" [(.cmp .Eq (.ix (.slot 1) (.neg (.cst (.int (1))))) (.cst (.str "")))])), (.ret (.cut (.slot 1) none (some (.neg (.cst (.int (1)))))))] env := rfl
def c1_read_rows : E := (.lc [2] (.nm 2) (.sq (.call "texts_of" [(.slot 0)])) (.cst (.bool true)) (.call "row_of" [(.slot 2)]))
def read_rows : List S := [(.set 1 (.blt .tuple [c1_read_rows])), (.exp (.call "need" [(.call "are_rows" [(.slot 1)])])), (.ret (.slot 1))]
theorem u_read_rows (g : G) (env : Env) : exs g read_rows env = exs g [(.set 1 (.blt .tuple [c1_read_rows])), (.exp (.call "need" [(.call "are_rows" [(.slot 1)])])), (.ret (.slot 1))] env := rfl
def l1_tree_text : List S := [(.ife (.cmp .Eq (.ix (.slot 3) (.cst (.int (0)))) (.glob "OPEN")) [(.set 2 (.bin .Add (.slot 2) (.cst (.int (1)))))] []), (.set 4 (.slot 2)), (.ife (.cmp .NotEq (.ix (.slot 3) (.cst (.int (0)))) (.glob "LINE")) [(.set 4 (.bin .Sub (.slot 2) (.cst (.int (1)))))] []), (.set 1 (.bin .Add (.bin .Add (.bin .Add (.slot 1) (.bin .Mult (.glob "BLANK") (.slot 4))) (.call "row_text" [(.slot 3)])) (.glob "ROW_END"))), (.ife (.cmp .Eq (.ix (.slot 3) (.cst (.int (0)))) (.glob "CLOSE")) [(.set 2 (.bin .Sub (.slot 2) (.cst (.int (1)))))] [])]
theorem u_l1_tree_text (g : G) (env : Env) : exs g l1_tree_text env = exs g [(.ife (.cmp .Eq (.ix (.slot 3) (.cst (.int (0)))) (.glob "OPEN")) [(.set 2 (.bin .Add (.slot 2) (.cst (.int (1)))))] []), (.set 4 (.slot 2)), (.ife (.cmp .NotEq (.ix (.slot 3) (.cst (.int (0)))) (.glob "LINE")) [(.set 4 (.bin .Sub (.slot 2) (.cst (.int (1)))))] []), (.set 1 (.bin .Add (.bin .Add (.bin .Add (.slot 1) (.bin .Mult (.glob "BLANK") (.slot 4))) (.call "row_text" [(.slot 3)])) (.glob "ROW_END"))), (.ife (.cmp .Eq (.ix (.slot 3) (.cst (.int (0)))) (.glob "CLOSE")) [(.set 2 (.bin .Sub (.slot 2) (.cst (.int (1)))))] [])] env := rfl
def tree_text : List S := [(.set 1 (.cst (.str ""))), (.set 2 (.cst (.int (0)))), (.for (.nm 3) (.sq (.call "rows_of" [(.slot 0)])) l1_tree_text), (.ret (.slot 1))]
theorem u_tree_text (g : G) (env : Env) : exs g tree_text env = exs g [(.set 1 (.cst (.str ""))), (.set 2 (.cst (.int (0)))), (.for (.nm 3) (.sq (.call "rows_of" [(.slot 0)])) l1_tree_text), (.ret (.slot 1))] env := rfl
def c1_read_tree : E := (.lc [5] (.nm 5) (.sq (.slot 1)) (.cst (.bool true)) (.call "is_row" [(.slot 5)]))
def l1_read_tree : List S := [(.set 4 (.meth .lstrip (.slot 3) [(.glob "BLANK")])), (.ife (.band (.cmp .In (.cut (.slot 4) none (some (.cst (.int (1))))) (.tup [(.cst (.str "[")), (.cst (.str "|")), (.cst (.str "]"))])) (.cmp .Eq (.bin .Sub (.blt .len [(.slot 3)]) (.blt .len [(.slot 4)])) (.bin .Sub (.slot 2) (.blt .int [(.cmp .NotEq (.cut (.slot 4) none (some (.cst (.int (1))))) (.cst (.str "[")))])))) [(.set 5 (.call "row_of" [(.slot 4)]))] [(.exp (.call "need" [(.cmp .Eq (.cut (.slot 3) none (some (.slot 2))) (.bin .Mult (.glob "BLANK") (.slot 2)))])), (.set 5 (.call "row_of" [(.cut (.slot 3) (some (.slot 2)) none)]))]), (.set 2 (.blt .max2 [(.cst (.int (0))), (.bin .Sub (.bin .Add (.slot 2) (.blt .int [(.cmp .Eq (.ix (.slot 5) (.cst (.int (0)))) (.glob "OPEN"))])) (.blt .int [(.cmp .Eq (.ix (.slot 5) (.cst (.int (0)))) (.glob "CLOSE"))]))])), (.set 1 (.bin .Add (.slot 1) (.tup [(.slot 5)])))]
theorem u_l1_read_tree (g : G) (env : Env) : exs g l1_read_tree env = exs g [(.set 4 (.meth .lstrip (.slot 3) [(.glob "BLANK")])), (.ife (.band (.cmp .In (.cut (.slot 4) none (some (.cst (.int (1))))) (.tup [(.cst (.str "[")), (.cst (.str "|")), (.cst (.str "]"))])) (.cmp .Eq (.bin .Sub (.blt .len [(.slot 3)]) (.blt .len [(.slot 4)])) (.bin .Sub (.slot 2) (.blt .int [(.cmp .NotEq (.cut (.slot 4) none (some (.cst (.int (1))))) (.cst (.str "[")))])))) [(.set 5 (.call "row_of" [(.slot 4)]))] [(.exp (.call "need" [(.cmp .Eq (.cut (.slot 3) none (some (.slot 2))) (.bin .Mult (.glob "BLANK") (.slot 2)))])), (.set 5 (.call "row_of" [(.cut (.slot 3) (some (.slot 2)) none)]))]), (.set 2 (.blt .max2 [(.cst (.int (0))), (.bin .Sub (.bin .Add (.slot 2) (.blt .int [(.cmp .Eq (.ix (.slot 5) (.cst (.int (0)))) (.glob "OPEN"))])) (.blt .int [(.cmp .Eq (.ix (.slot 5) (.cst (.int (0)))) (.glob "CLOSE"))]))])), (.set 1 (.bin .Add (.slot 1) (.tup [(.slot 5)])))] env := rfl
def read_tree : List S := [(.set 1 (.tup [])), (.set 2 (.cst (.int (0)))), (.for (.nm 3) (.sq (.call "texts_of" [(.slot 0)])) l1_read_tree), (.exp (.call "need" [(.band (.blt .all [c1_read_tree]) (.band (.call "is_sheet" [(.slot 1)]) (.cmp .Eq (.call "tree_text" [(.call "tree_of" [(.slot 1)])]) (.slot 0))))])), (.ret (.call "tree_of" [(.slot 1)]))]
theorem u_read_tree (g : G) (env : Env) : exs g read_tree env = exs g [(.set 1 (.tup [])), (.set 2 (.cst (.int (0)))), (.for (.nm 3) (.sq (.call "texts_of" [(.slot 0)])) l1_read_tree), (.exp (.call "need" [(.band (.blt .all [c1_read_tree]) (.band (.call "is_sheet" [(.slot 1)]) (.cmp .Eq (.call "tree_text" [(.call "tree_of" [(.slot 1)])]) (.slot 0))))])), (.ret (.call "tree_of" [(.slot 1)]))] env := rfl
def _law_text : List S := [(.ret (.bin .Add (.bin .Add .bad (.ix (.slot 0) (.cst (.int (1))))) (.cst (.str "\n"))))]
theorem u__law_text (g : G) (env : Env) : exs g _law_text env = exs g [(.ret (.bin .Add (.bin .Add .bad (.ix (.slot 0) (.cst (.int (1))))) (.cst (.str "\n"))))] env := rfl
def l2__law_tree_text : List S := [(.set 2 (.bin .Add (.bin .Add (.bin .Add (.bin .Add (.slot 2) (.bin .Mult (.cst (.str " ")) (.slot 1))) (.ix (.cst (.str "[|")) (.blt .int [(.cmp .Gt (.slot 6) (.cst (.int (0))))]))) (.slot 4)) (.cst (.str "\n")))), (.set 2 (.bin .Add (.slot 2) (.call "_law_tree_text" [(.slot 7), (.bin .Add (.slot 1) (.cst (.int (1))))])))]
theorem u_l2__law_tree_text (g : G) (env : Env) : exs g l2__law_tree_text env = exs g [(.set 2 (.bin .Add (.bin .Add (.bin .Add (.bin .Add (.slot 2) (.bin .Mult (.cst (.str " ")) (.slot 1))) (.ix (.cst (.str "[|")) (.blt .int [(.cmp .Gt (.slot 6) (.cst (.int (0))))]))) (.slot 4)) (.cst (.str "\n")))), (.set 2 (.bin .Add (.slot 2) (.call "_law_tree_text" [(.slot 7), (.bin .Add (.slot 1) (.cst (.int (1))))])))] env := rfl
def l1__law_tree_text : List S := [(.ife (.isi (.slot 3) .str) [(.set 2 (.bin .Add (.bin .Add (.bin .Add (.bin .Add (.slot 2) (.bin .Mult (.cst (.str " ")) (.slot 1))) (.cst (.str " "))) (.slot 3)) (.cst (.str "\n"))))] [(.asg (.tp [(.nm 4), (.nm 5)]) (.slot 3)), (.for (.tp [(.nm 6), (.nm 7)]) (.enm (.slot 5)) l2__law_tree_text), (.set 2 (.bin .Add (.bin .Add (.bin .Add (.bin .Add (.slot 2) (.bin .Mult (.cst (.str " ")) (.slot 1))) (.cst (.str "]"))) (.slot 4)) (.cst (.str "\n"))))])]
theorem u_l1__law_tree_text (g : G) (env : Env) : exs g l1__law_tree_text env = exs g [(.ife (.isi (.slot 3) .str) [(.set 2 (.bin .Add (.bin .Add (.bin .Add (.bin .Add (.slot 2) (.bin .Mult (.cst (.str " ")) (.slot 1))) (.cst (.str " "))) (.slot 3)) (.cst (.str "\n"))))] [(.asg (.tp [(.nm 4), (.nm 5)]) (.slot 3)), (.for (.tp [(.nm 6), (.nm 7)]) (.enm (.slot 5)) l2__law_tree_text), (.set 2 (.bin .Add (.bin .Add (.bin .Add (.bin .Add (.slot 2) (.bin .Mult (.cst (.str " ")) (.slot 1))) (.cst (.str "]"))) (.slot 4)) (.cst (.str "\n"))))])] env := rfl
def _law_tree_text : List S := [(.set 2 (.cst (.str ""))), (.for (.nm 3) (.sq (.slot 0)) l1__law_tree_text), (.ret (.slot 2))]
theorem u__law_tree_text (g : G) (env : Env) : exs g _law_tree_text env = exs g [(.set 2 (.cst (.str ""))), (.for (.nm 3) (.sq (.slot 0)) l1__law_tree_text), (.ret (.slot 2))] env := rfl
def _law_changed : List S := [(.set 2 (.bin .Mod (.bin .FloorDiv (.slot 1) (.cst (.int (16)))) (.bin .Add (.blt .len [(.slot 0)]) (.cst (.int (1)))))), (.set 3 (.ix (.cst (.str " []|abA1\n~")) (.bin .Mod (.bin .FloorDiv (.slot 1) (.cst (.int (4096)))) (.cst (.int (10)))))), (.ife (.cmp .Eq (.bin .Mod (.slot 1) (.cst (.int (4)))) (.cst (.int (0)))) [(.ret (.bin .Add (.bin .Add (.cut (.slot 0) none (some (.slot 2))) (.slot 3)) (.cut (.slot 0) (some (.slot 2)) none)))] []), (.ife (.cmp .Eq (.bin .Mod (.slot 1) (.cst (.int (4)))) (.cst (.int (1)))) [(.ret (.bin .Add (.cut (.slot 0) none (some (.slot 2))) (.cut (.slot 0) (some (.bin .Add (.slot 2) (.cst (.int (1))))) none)))] []), (.ife (.cmp .Eq (.bin .Mod (.slot 1) (.cst (.int (4)))) (.cst (.int (2)))) [(.ret (.bin .Add (.bin .Add (.cut (.slot 0) none (some (.slot 2))) (.slot 3)) (.cut (.slot 0) (some (.bin .Add (.slot 2) (.cst (.int (1))))) none)))] []), (.ret (.bin .Add (.cut (.slot 0) none (some (.slot 2))) (.cut (.slot 0) (some (.bin .Add (.slot 2) (.bin .Mod (.bin .FloorDiv (.slot 1) (.cst (.int (64)))) (.cst (.int (9)))))) none)))]
theorem u__law_changed (g : G) (env : Env) : exs g _law_changed env = exs g [(.set 2 (.bin .Mod (.bin .FloorDiv (.slot 1) (.cst (.int (16)))) (.bin .Add (.blt .len [(.slot 0)]) (.cst (.int (1)))))), (.set 3 (.ix (.cst (.str " []|abA1\n~")) (.bin .Mod (.bin .FloorDiv (.slot 1) (.cst (.int (4096)))) (.cst (.int (10)))))), (.ife (.cmp .Eq (.bin .Mod (.slot 1) (.cst (.int (4)))) (.cst (.int (0)))) [(.ret (.bin .Add (.bin .Add (.cut (.slot 0) none (some (.slot 2))) (.slot 3)) (.cut (.slot 0) (some (.slot 2)) none)))] []), (.ife (.cmp .Eq (.bin .Mod (.slot 1) (.cst (.int (4)))) (.cst (.int (1)))) [(.ret (.bin .Add (.cut (.slot 0) none (some (.slot 2))) (.cut (.slot 0) (some (.bin .Add (.slot 2) (.cst (.int (1))))) none)))] []), (.ife (.cmp .Eq (.bin .Mod (.slot 1) (.cst (.int (4)))) (.cst (.int (2)))) [(.ret (.bin .Add (.bin .Add (.cut (.slot 0) none (some (.slot 2))) (.slot 3)) (.cut (.slot 0) (some (.bin .Add (.slot 2) (.cst (.int (1))))) none)))] []), (.ret (.bin .Add (.cut (.slot 0) none (some (.slot 2))) (.cut (.slot 0) (some (.bin .Add (.slot 2) (.bin .Mod (.bin .FloorDiv (.slot 1) (.cst (.int (64)))) (.cst (.int (9)))))) none)))] env := rfl
def _law_bent : List S := [(.set 2 (.bin .Mod (.slot 1) (.bin .Add (.blt .len [(.slot 0)]) (.cst (.int (1)))))), (.set 3 (.ix (.cst (.str " []|abz~0\n")) (.bin .Mod (.bin .FloorDiv (.slot 1) (.cst (.int (512)))) (.cst (.int (10)))))), (.set 4 (.meth .split (.slot 0) [(.cst (.str "\n"))])), (.set 5 (.bin .Mod (.bin .FloorDiv (.slot 1) (.cst (.int (16384)))) (.blt .len [(.slot 4)]))), (.par [6, 7] [(.cut (.slot 0) none (some (.slot 2))), (.cut (.slot 0) (some (.bin .Add (.slot 2) (.cst (.int (1))))) none)]), (.seto 8 (.lst [(.bin .Add (.bin .Add (.slot 6) (.slot 3)) (.cut (.slot 0) (some (.slot 2)) none)), (.bin .Add (.slot 6) (.slot 7)), (.bin .Add (.bin .Add (.slot 6) (.slot 3)) (.slot 7))])), (.set 9 (.bin .Add (.bin .Add (.cut (.slot 4) none (some (.slot 5))) (.cut (.slot 4) (some (.slot 5)) (some (.bin .Add (.slot 5) (.cst (.int (1))))))) (.cut (.slot 4) (some (.slot 5)) none))), (.app 8 (.meth .join (.cst (.str "\n")) [(.slot 9)])), (.app 8 (.meth .join (.cst (.str "\n")) [(.bin .Add (.cut (.slot 4) none (some (.slot 5))) (.cut (.slot 4) (some (.bin .Add (.slot 5) (.cst (.int (1))))) none))])), (.ret (.ix (.slot 8) (.bin .Mod (.bin .FloorDiv (.slot 1) (.cst (.int (1048576)))) (.cst (.int (5))))))]
theorem u__law_bent (g : G) (env : Env) : exs g _law_bent env = exs g [(.set 2 (.bin .Mod (.slot 1) (.bin .Add (.blt .len [(.slot 0)]) (.cst (.int (1)))))), (.set 3 (.ix (.cst (.str " []|abz~0\n")) (.bin .Mod (.bin .FloorDiv (.slot 1) (.cst (.int (512)))) (.cst (.int (10)))))), (.set 4 (.meth .split (.slot 0) [(.cst (.str "\n"))])), (.set 5 (.bin .Mod (.bin .FloorDiv (.slot 1) (.cst (.int (16384)))) (.blt .len [(.slot 4)]))), (.par [6, 7] [(.cut (.slot 0) none (some (.slot 2))), (.cut (.slot 0) (some (.bin .Add (.slot 2) (.cst (.int (1))))) none)]), (.seto 8 (.lst [(.bin .Add (.bin .Add (.slot 6) (.slot 3)) (.cut (.slot 0) (some (.slot 2)) none)), (.bin .Add (.slot 6) (.slot 7)), (.bin .Add (.bin .Add (.slot 6) (.slot 3)) (.slot 7))])), (.set 9 (.bin .Add (.bin .Add (.cut (.slot 4) none (some (.slot 5))) (.cut (.slot 4) (some (.slot 5)) (some (.bin .Add (.slot 5) (.cst (.int (1))))))) (.cut (.slot 4) (some (.slot 5)) none))), (.app 8 (.meth .join (.cst (.str "\n")) [(.slot 9)])), (.app 8 (.meth .join (.cst (.str "\n")) [(.bin .Add (.cut (.slot 4) none (some (.slot 5))) (.cut (.slot 4) (some (.bin .Add (.slot 5) (.cst (.int (1))))) none))])), (.ret (.ix (.slot 8) (.bin .Mod (.bin .FloorDiv (.slot 1) (.cst (.int (1048576)))) (.cst (.int (5))))))] env := rfl
def _law_read : List S := [(.ife (.cmp .Eq (.slot 0) (.cst (.int (0)))) [(.ret (.call "read_rows" [(.slot 1)]))] []), (.ret (.call "read_tree" [(.slot 1)]))]
theorem u__law_read (g : G) (env : Env) : exs g _law_read env = exs g [(.ife (.cmp .Eq (.slot 0) (.cst (.int (0)))) [(.ret (.call "read_rows" [(.slot 1)]))] []), (.ret (.call "read_tree" [(.slot 1)]))] env := rfl
def _law_good : List S := [(.ife (.cmp .Eq (.slot 0) (.cst (.int (0)))) [(.ret (.band (.cmp .Is (.call "are_rows" [(.slot 1)]) (.cst (.bool true))) (.cmp .Eq (.call "rows_text" [(.slot 1)]) (.slot 2))))] []), (.ret (.band (.cmp .Is (.call "is_tree" [(.slot 1)]) (.cst (.bool true))) (.cmp .Eq (.call "tree_text" [(.slot 1)]) (.slot 2))))]
theorem u__law_good (g : G) (env : Env) : exs g _law_good env = exs g [(.ife (.cmp .Eq (.slot 0) (.cst (.int (0)))) [(.ret (.band (.cmp .Is (.call "are_rows" [(.slot 1)]) (.cst (.bool true))) (.cmp .Eq (.call "rows_text" [(.slot 1)]) (.slot 2))))] []), (.ret (.band (.cmp .Is (.call "is_tree" [(.slot 1)]) (.cst (.bool true))) (.cmp .Eq (.call "tree_text" [(.slot 1)]) (.slot 2))))] env := rfl
end Ev.B
/-! GK33: the defs of law_k33_whole_all_ways as the reader gives them; the top. Printed by gen2.py. -/
namespace K33
open PySem PySem.Spec PyProof.Rows L2 Ev
def topS (i : Nat) : Stmt := PySem.Challenge.pw_brokenparts_k33_whole_all_ways.main.body.getD i (.Pass ⟨0, 0, 0, 0⟩)
def M : Nm := ⟨["is_text", "deep", "lines", "letters", "part_at", "found", "_law_cell_at", "_law_mixed", "_law_drawn", "_law_tree", "_law_walk", "_law_letters", "law"], ["len", "tuple", "max", "isinstance", "str", "range", "enumerate", "sum", "sorted"], ["NoSheet", "NoPart", "NoRow", "NoText"], ["_law_told"]⟩
def b_is_text : List S := B.is_text
theorem e_is_text : b_is_text = trD M ["leaf"] [] false (topS 7) := by kernel_rfl
theorem s_is_text : fnScB ["leaf"] ["leaf"] (defScope (topS 7)) = true := by decide +kernel
def f_is_text : Fn := ⟨["leaf"], 1, b_is_text⟩
def b_deep : List S := B.deep
theorem e_deep : b_deep = trD M ["tree", "part", "leaf"] [] false (topS 8) := by kernel_rfl
theorem s_deep : fnScB ["tree", "part", "leaf"] ["tree"] (defScope (topS 8)) = true := by decide +kernel
def f_deep : Fn := ⟨["tree"], 3, b_deep⟩
def b_lines : List S := B.lines
theorem e_lines : b_lines = trD M ["tree", "found", "leaf", "part"] [] false (topS 9) := by kernel_rfl
theorem s_lines : fnScB ["tree", "found", "leaf", "part"] ["tree"] (defScope (topS 9)) = true := by decide +kernel
def f_lines : Fn := ⟨["tree"], 4, b_lines⟩
def b_letters : List S := B.letters
theorem e_letters : b_letters = trD M ["tree", "found", "leaf", "part"] [] false (topS 10) := by kernel_rfl
theorem s_letters : fnScB ["tree", "found", "leaf", "part"] ["tree"] (defScope (topS 10)) = true := by decide +kernel
def f_letters : Fn := ⟨["tree"], 4, b_letters⟩
def b_part_at : List S := B.part_at
theorem e_part_at : b_part_at = trD M ["tree", "way", "parts"] [] false (topS 11) := by kernel_rfl
theorem s_part_at : fnScB ["tree", "way", "parts"] ["tree", "way"] (defScope (topS 11)) = true := by decide +kernel
def f_part_at : Fn := ⟨["tree", "way"], 3, b_part_at⟩
def b_found : List S := B.found
theorem e_found : b_found = trD M ["tree", "text", "at", "leaf", "number", "part", "way"] [] false (topS 12) := by kernel_rfl
theorem s_found : fnScB ["tree", "text", "at", "leaf", "number", "part", "way"] ["tree", "text"] (defScope (topS 12)) = true := by decide +kernel
def f_found : Fn := ⟨["tree", "text"], 7, b_found⟩
def b__law_cell_at : List S := B._law_cell_at
theorem e__law_cell_at : b__law_cell_at = trD M ["_law_script", "_law_k"] [] false (topS 14) := by kernel_rfl
theorem s__law_cell_at : fnScB ["_law_script", "_law_k"] ["_law_script", "_law_k"] (defScope (topS 14)) = true := by decide +kernel
def f__law_cell_at : Fn := ⟨["_law_script", "_law_k"], 2, b__law_cell_at⟩
def b__law_mixed : List S := B._law_mixed
theorem e__law_mixed : b__law_mixed = trD M ["_law_script", "_law_k", "_law_drawn_here"] [] false (topS 15) := by kernel_rfl
theorem s__law_mixed : fnScB ["_law_script", "_law_k", "_law_drawn_here"] ["_law_script", "_law_k"] (defScope (topS 15)) = true := by decide +kernel
def f__law_mixed : Fn := ⟨["_law_script", "_law_k"], 3, b__law_mixed⟩
def b__law_drawn : List S := B._law_drawn
theorem e__law_drawn : b__law_drawn = trD M ["_law_number", "_law_k", "_law_drawn_here"] [] false (topS 16) := by kernel_rfl
theorem s__law_drawn : fnScB ["_law_number", "_law_k", "_law_drawn_here"] ["_law_number", "_law_k"] (defScope (topS 16)) = true := by decide +kernel
def f__law_drawn : Fn := ⟨["_law_number", "_law_k"], 3, b__law_drawn⟩
def b__law_tree : List S := B._law_tree
theorem e__law_tree : b__law_tree = trD M ["_law_number", "_law_down", "_law_got_ones", "_law_k", "_law_drawn_here", "_law_parts", "_law_j"] [] false (topS 17) := by kernel_rfl
theorem s__law_tree : fnScB ["_law_number", "_law_down", "_law_got_ones", "_law_k", "_law_drawn_here", "_law_parts", "_law_j"] ["_law_number", "_law_down"] (defScope (topS 17)) = true := by decide +kernel
def f__law_tree : Fn := ⟨["_law_number", "_law_down"], 7, b__law_tree⟩
def b__law_walk : List S := B._law_walk
theorem e__law_walk : b__law_walk = trD M ["_law_tree_here", "_law_way", "_law_found_ones", "_law_at", "_law_leaf", "_law_number", "_law_part"] [] false (topS 19) := by kernel_rfl
theorem s__law_walk : fnScB ["_law_tree_here", "_law_way", "_law_found_ones", "_law_at", "_law_leaf", "_law_number", "_law_part"] ["_law_tree_here", "_law_way"] (defScope (topS 19)) = true := by decide +kernel
def f__law_walk : Fn := ⟨["_law_tree_here", "_law_way"], 7, b__law_walk⟩
def b__law_letters : List S := B._law_letters
theorem e__law_letters : b__law_letters = trD M ["_law_every", "_law_some", "_law_way", "_law_part", "_law_leaf"] [] false (topS 20) := by kernel_rfl
theorem s__law_letters : fnScB ["_law_every", "_law_some", "_law_way", "_law_part", "_law_leaf"] ["_law_every"] (defScope (topS 20)) = true := by decide +kernel
def f__law_letters : Fn := ⟨["_law_every"], 5, b__law_letters⟩
def c1_law : E := (.lc [3, 4] (.tp [(.nm 3), (.nm 4)]) (.sq (.slot 2)) (.cst (.bool true)) (.bin .FloorDiv (.blt .len [(.slot 3)]) (.cst (.int (2)))))
def c2_law : E := (.lc [3, 4] (.tp [(.nm 3), (.nm 4)]) (.sq (.slot 2)) (.cmp .In (.slot 7) (.slot 4)) (.slot 3))
def c3_law : E := (.lc [9] (.nm 9) (.sq (.slot 8)) (.cst (.bool true)) (.blt .len [(.ix (.slot 9) (.cst (.int (1))))]))
def l2_law : List S := [(.ife (.cmp .NotEq (.told (.call "part_at" [(.slot 1), (.bin .Add (.slot 3) (.slot 6))])) (.tup [(.cst (.str "refused")), (.cst (.int (1)))])) [(.ret (.cst (.bool false)))] [])]
theorem u_l2_law (g : G) (env : Ev.Env) : exs g l2_law env = exs g [(.ife (.cmp .NotEq (.told (.call "part_at" [(.slot 1), (.bin .Add (.slot 3) (.slot 6))])) (.tup [(.cst (.str "refused")), (.cst (.int (1)))])) [(.ret (.cst (.bool false)))] [])] env := rfl
def l1_law : List S := [(.ife (.bor (.cmp .NotEq (.call "part_at" [(.slot 1), (.slot 3)]) (.slot 4)) (.cmp .Gt (.bin .Add (.bin .FloorDiv (.blt .len [(.slot 3)]) (.cst (.int (2)))) (.call "deep" [(.slot 4)])) (.call "deep" [(.slot 1)]))) [(.ret (.cst (.bool false)))] []), (.set 5 (.tup [(.tup [(.blt .len [(.slot 4)]), (.cst (.int (0)))]), (.tup [(.neg (.cst (.int (1)))), (.cst (.int (0)))]), (.tup [(.cst (.int (0))), (.cst (.int (99)))]), (.tup [(.cst (.int (0)))]), (.tup [(.cst (.int (99)))]), (.tup [(.cst (.int (0))), (.neg (.cst (.int (1))))])])), (.for (.nm 6) (.sq (.slot 5)) l2_law)]
theorem u_l1_law (g : G) (env : Ev.Env) : exs g l1_law env = exs g [(.ife (.bor (.cmp .NotEq (.call "part_at" [(.slot 1), (.slot 3)]) (.slot 4)) (.cmp .Gt (.bin .Add (.bin .FloorDiv (.blt .len [(.slot 3)]) (.cst (.int (2)))) (.call "deep" [(.slot 4)])) (.call "deep" [(.slot 1)]))) [(.ret (.cst (.bool false)))] []), (.set 5 (.tup [(.tup [(.blt .len [(.slot 4)]), (.cst (.int (0)))]), (.tup [(.neg (.cst (.int (1)))), (.cst (.int (0)))]), (.tup [(.cst (.int (0))), (.cst (.int (99)))]), (.tup [(.cst (.int (0)))]), (.tup [(.cst (.int (99)))]), (.tup [(.cst (.int (0))), (.neg (.cst (.int (1))))])])), (.for (.nm 6) (.sq (.slot 5)) l2_law)] env := rfl
def l3_law : List S := [(.set 8 c2_law), (.ife (.cmp .NotEq (.call "found" [(.slot 1), (.slot 7)]) (.ix (.bin .Add (.blt .sorted [(.slot 8)]) (.lst [(.cst .none)])) (.cst (.int (0))))) [(.ret (.cst (.bool false)))] [])]
theorem u_l3_law (g : G) (env : Ev.Env) : exs g l3_law env = exs g [(.set 8 c2_law), (.ife (.cmp .NotEq (.call "found" [(.slot 1), (.slot 7)]) (.ix (.bin .Add (.blt .sorted [(.slot 8)]) (.lst [(.cst .none)])) (.cst (.int (0))))) [(.ret (.cst (.bool false)))] [])] env := rfl
def b_law : List S := [(.set 1 (.call "_law_tree" [(.call "_law_mixed" [(.slot 0), (.cst (.int (0)))]), (.cst (.int (3)))])), (.set 2 (.call "_law_walk" [(.slot 1), (.tup [])])), (.for (.tp [(.nm 3), (.nm 4)]) (.sq (.slot 2)) l1_law), (.ife (.cmp .NotEq (.blt .max1 [c1_law]) (.call "deep" [(.slot 1)])) [(.ret (.cst (.bool false)))] []), (.for (.nm 7) (.sq (.bin .Add (.call "lines" [(.slot 1)]) (.tup [(.cst (.str "none")), (.cst (.str "a"))]))) l3_law), (.set 8 (.call "_law_letters" [(.slot 2)])), (.ife (.cmp .NotEq (.blt .len [(.call "letters" [(.slot 1)])]) (.blt .len [(.slot 8)])) [(.ret (.cst (.bool false)))] []), (.ret (.cmp .Eq (.blt .len [(.slot 2)]) (.bin .Add (.cst (.int (1))) (.blt .sum [c3_law]))))]
theorem e_law : b_law = trD M ["_law_script", "_law_tree_here", "_law_every", "_law_way", "_law_part", "_law_beyond", "_law_more", "_law_text", "_law_some", "_law_leaf"] [] true (topS 21) := by kernel_rfl
theorem s_law : fnScB ["_law_script", "_law_tree_here", "_law_every", "_law_way", "_law_part", "_law_beyond", "_law_more", "_law_text", "_law_some", "_law_leaf"] ["_law_script"] (defScope (topS 21)) = true := by decide +kernel
def f_law : Fn := ⟨["_law_script"], 10, b_law⟩
def tab : List (Str × Fn) := [("is_text", f_is_text), ("deep", f_deep), ("lines", f_lines), ("letters", f_letters), ("part_at", f_part_at), ("found", f_found), ("_law_cell_at", f__law_cell_at), ("_law_mixed", f__law_mixed), ("_law_drawn", f__law_drawn), ("_law_tree", f__law_tree), ("_law_walk", f__law_walk), ("_law_letters", f__law_letters), ("law", f_law)]
def glt : List (Str × D) := []
def P : Pr := ⟨fun f => List.lookup f tab, fun x => List.lookup x glt, fun _ => none, fun c => List.lookup c [("NoSheet", 0), ("NoPart", 1), ("NoRow", 2), ("NoText", 3)]⟩
theorem t_is_text : P.T "is_text" = some f_is_text := by kernel_rfl
theorem h_is_text : Has P "is_text" 1 1 B.is_text := ⟨rfl, _, rfl, t_is_text⟩
theorem t_deep : P.T "deep" = some f_deep := by kernel_rfl
theorem h_deep : Has P "deep" 1 3 B.deep := ⟨rfl, _, rfl, t_deep⟩
theorem t_lines : P.T "lines" = some f_lines := by kernel_rfl
theorem h_lines : Has P "lines" 1 4 B.lines := ⟨rfl, _, rfl, t_lines⟩
theorem t_letters : P.T "letters" = some f_letters := by kernel_rfl
theorem h_letters : Has P "letters" 1 4 B.letters := ⟨rfl, _, rfl, t_letters⟩
theorem t_part_at : P.T "part_at" = some f_part_at := by kernel_rfl
theorem h_part_at : Has P "part_at" 2 3 B.part_at := ⟨rfl, _, rfl, t_part_at⟩
theorem t_found : P.T "found" = some f_found := by kernel_rfl
theorem h_found : Has P "found" 2 7 B.found := ⟨rfl, _, rfl, t_found⟩
theorem t__law_cell_at : P.T "_law_cell_at" = some f__law_cell_at := by kernel_rfl
theorem h__law_cell_at : Has P "_law_cell_at" 2 2 B._law_cell_at := ⟨rfl, _, rfl, t__law_cell_at⟩
theorem t__law_mixed : P.T "_law_mixed" = some f__law_mixed := by kernel_rfl
theorem h__law_mixed : Has P "_law_mixed" 2 3 B._law_mixed := ⟨rfl, _, rfl, t__law_mixed⟩
theorem t__law_drawn : P.T "_law_drawn" = some f__law_drawn := by kernel_rfl
theorem h__law_drawn : Has P "_law_drawn" 2 3 B._law_drawn := ⟨rfl, _, rfl, t__law_drawn⟩
theorem t__law_tree : P.T "_law_tree" = some f__law_tree := by kernel_rfl
theorem h__law_tree : Has P "_law_tree" 2 7 B._law_tree := ⟨rfl, _, rfl, t__law_tree⟩
theorem t__law_walk : P.T "_law_walk" = some f__law_walk := by kernel_rfl
theorem h__law_walk : Has P "_law_walk" 2 7 B._law_walk := ⟨rfl, _, rfl, t__law_walk⟩
theorem t__law_letters : P.T "_law_letters" = some f__law_letters := by kernel_rfl
theorem h__law_letters : Has P "_law_letters" 1 5 B._law_letters := ⟨rfl, _, rfl, t__law_letters⟩
theorem t_law : P.T "law" = some f_law := by kernel_rfl
theorem h_law : Has P "law" 1 10 b_law := ⟨rfl, _, rfl, t_law⟩
theorem _root_.Ev.tab_in {K : PySem.W.Frag} {x : Str} {f c P : Addr} {oc a : Value} {od b : Option Addr} {fd : FuncData} {sl e : Array (Option Value)} {vs : Array Value} (h1 : PySem.W.nsIn K mainGlobals x = some (some (.ref f))) (h2 : K.lookup f = some ⟨oc, od, .func fd, sl⟩) (h3 : fd.code = .ref c) (h4 : K.lookup c = some ⟨a, b, .fields vs, e⟩) (h5 : vs[11]? = some (.ref P)) : PySem.W.tabIn K x = some (c, P) := by
  unfold PySem.W.tabIn
  rw [h1]; dsimp only; rw [h2]; dsimp only; rw [h3]; dsimp only; rw [h4]; dsimp only; rw [h5]
theorem all_mk {prog : Program} {w : World} {K : PySem.W.Frag} {h : Heap} {mg : Str → Option Value} {fa : Addr} (X : K.In h) (G : h.Ns mainGlobals mg) (hfa : mg "law" = some (.ref fa))
    {f0 : Addr} {od0 an0 : Option Addr} {sl0 : Array (Option Value)} {oc0 kV0 dc0 pm0 cd0 ct0 : Value} {f1 : Addr} {od1 an1 : Option Addr} {sl1 : Array (Option Value)} {oc1 kV1 dc1 pm1 cd1 ct1 : Value} {f2 : Addr} {od2 an2 : Option Addr} {sl2 : Array (Option Value)} {oc2 kV2 dc2 pm2 cd2 ct2 : Value} {f3 : Addr} {od3 an3 : Option Addr} {sl3 : Array (Option Value)} {oc3 kV3 dc3 pm3 cd3 ct3 : Value} {f4 : Addr} {od4 an4 : Option Addr} {sl4 : Array (Option Value)} {oc4 kV4 dc4 pm4 cd4 ct4 : Value} {f5 : Addr} {od5 an5 : Option Addr} {sl5 : Array (Option Value)} {oc5 kV5 dc5 pm5 cd5 ct5 : Value} {f6 : Addr} {od6 an6 : Option Addr} {sl6 : Array (Option Value)} {oc6 kV6 dc6 pm6 cd6 ct6 : Value} {f7 : Addr} {od7 an7 : Option Addr} {sl7 : Array (Option Value)} {oc7 kV7 dc7 pm7 cd7 ct7 : Value} {f8 : Addr} {od8 an8 : Option Addr} {sl8 : Array (Option Value)} {oc8 kV8 dc8 pm8 cd8 ct8 : Value} {f9 : Addr} {od9 an9 : Option Addr} {sl9 : Array (Option Value)} {oc9 kV9 dc9 pm9 cd9 ct9 : Value} {f10 : Addr} {od10 an10 : Option Addr} {sl10 : Array (Option Value)} {oc10 kV10 dc10 pm10 cd10 ct10 : Value} {f11 : Addr} {od11 an11 : Option Addr} {sl11 : Array (Option Value)} {oc11 kV11 dc11 pm11 cd11 ct11 : Value} {f12 : Addr} {od12 an12 : Option Addr} {sl12 : Array (Option Value)} {oc12 kV12 dc12 pm12 ct12 : Value} {C0 : Addr} {C1 : Addr} {C2 : Addr} {C3 : Addr} {Pt cc CP gT : Addr} {odT anT : Option Addr} {slT : Array (Option Value)} {ocT kVT dcT pmT cdT ctT : Value}
    (a0 : PySem.W.nsIn K mainGlobals "is_text" = some (some (.ref f0))) (l0 : K.lookup f0 = some ⟨oc0, od0, .func (PySem.W.fnOf "is_text" "is_text" (defArgs (topS 7)) (defBody (topS 7)) (defScope (topS 7)) .none kV0 dc0 pm0 an0 cd0 ct0), sl0⟩)
    (c0 : PySem.W.codeIn K cd0 "is_text" = true) (k0 : PySem.W.keepIn K (.ref f0) = true)
    (a1 : PySem.W.nsIn K mainGlobals "deep" = some (some (.ref f1))) (l1 : K.lookup f1 = some ⟨oc1, od1, .func (PySem.W.fnOf "deep" "deep" (defArgs (topS 8)) (defBody (topS 8)) (defScope (topS 8)) .none kV1 dc1 pm1 an1 cd1 ct1), sl1⟩)
    (c1 : PySem.W.codeIn K cd1 "deep" = true) (k1 : PySem.W.keepIn K (.ref f1) = true)
    (a2 : PySem.W.nsIn K mainGlobals "lines" = some (some (.ref f2))) (l2 : K.lookup f2 = some ⟨oc2, od2, .func (PySem.W.fnOf "lines" "lines" (defArgs (topS 9)) (defBody (topS 9)) (defScope (topS 9)) .none kV2 dc2 pm2 an2 cd2 ct2), sl2⟩)
    (c2 : PySem.W.codeIn K cd2 "lines" = true) (k2 : PySem.W.keepIn K (.ref f2) = true)
    (a3 : PySem.W.nsIn K mainGlobals "letters" = some (some (.ref f3))) (l3 : K.lookup f3 = some ⟨oc3, od3, .func (PySem.W.fnOf "letters" "letters" (defArgs (topS 10)) (defBody (topS 10)) (defScope (topS 10)) .none kV3 dc3 pm3 an3 cd3 ct3), sl3⟩)
    (c3 : PySem.W.codeIn K cd3 "letters" = true) (k3 : PySem.W.keepIn K (.ref f3) = true)
    (a4 : PySem.W.nsIn K mainGlobals "part_at" = some (some (.ref f4))) (l4 : K.lookup f4 = some ⟨oc4, od4, .func (PySem.W.fnOf "part_at" "part_at" (defArgs (topS 11)) (defBody (topS 11)) (defScope (topS 11)) .none kV4 dc4 pm4 an4 cd4 ct4), sl4⟩)
    (c4 : PySem.W.codeIn K cd4 "part_at" = true) (k4 : PySem.W.keepIn K (.ref f4) = true)
    (a5 : PySem.W.nsIn K mainGlobals "found" = some (some (.ref f5))) (l5 : K.lookup f5 = some ⟨oc5, od5, .func (PySem.W.fnOf "found" "found" (defArgs (topS 12)) (defBody (topS 12)) (defScope (topS 12)) .none kV5 dc5 pm5 an5 cd5 ct5), sl5⟩)
    (c5 : PySem.W.codeIn K cd5 "found" = true) (k5 : PySem.W.keepIn K (.ref f5) = true)
    (a6 : PySem.W.nsIn K mainGlobals "_law_cell_at" = some (some (.ref f6))) (l6 : K.lookup f6 = some ⟨oc6, od6, .func (PySem.W.fnOf "_law_cell_at" "_law_cell_at" (defArgs (topS 14)) (defBody (topS 14)) (defScope (topS 14)) .none kV6 dc6 pm6 an6 cd6 ct6), sl6⟩)
    (c6 : PySem.W.codeIn K cd6 "_law_cell_at" = true) (k6 : PySem.W.keepIn K (.ref f6) = true)
    (a7 : PySem.W.nsIn K mainGlobals "_law_mixed" = some (some (.ref f7))) (l7 : K.lookup f7 = some ⟨oc7, od7, .func (PySem.W.fnOf "_law_mixed" "_law_mixed" (defArgs (topS 15)) (defBody (topS 15)) (defScope (topS 15)) .none kV7 dc7 pm7 an7 cd7 ct7), sl7⟩)
    (c7 : PySem.W.codeIn K cd7 "_law_mixed" = true) (k7 : PySem.W.keepIn K (.ref f7) = true)
    (a8 : PySem.W.nsIn K mainGlobals "_law_drawn" = some (some (.ref f8))) (l8 : K.lookup f8 = some ⟨oc8, od8, .func (PySem.W.fnOf "_law_drawn" "_law_drawn" (defArgs (topS 16)) (defBody (topS 16)) (defScope (topS 16)) .none kV8 dc8 pm8 an8 cd8 ct8), sl8⟩)
    (c8 : PySem.W.codeIn K cd8 "_law_drawn" = true) (k8 : PySem.W.keepIn K (.ref f8) = true)
    (a9 : PySem.W.nsIn K mainGlobals "_law_tree" = some (some (.ref f9))) (l9 : K.lookup f9 = some ⟨oc9, od9, .func (PySem.W.fnOf "_law_tree" "_law_tree" (defArgs (topS 17)) (defBody (topS 17)) (defScope (topS 17)) .none kV9 dc9 pm9 an9 cd9 ct9), sl9⟩)
    (c9 : PySem.W.codeIn K cd9 "_law_tree" = true) (k9 : PySem.W.keepIn K (.ref f9) = true)
    (a10 : PySem.W.nsIn K mainGlobals "_law_walk" = some (some (.ref f10))) (l10 : K.lookup f10 = some ⟨oc10, od10, .func (PySem.W.fnOf "_law_walk" "_law_walk" (defArgs (topS 19)) (defBody (topS 19)) (defScope (topS 19)) .none kV10 dc10 pm10 an10 cd10 ct10), sl10⟩)
    (c10 : PySem.W.codeIn K cd10 "_law_walk" = true) (k10 : PySem.W.keepIn K (.ref f10) = true)
    (a11 : PySem.W.nsIn K mainGlobals "_law_letters" = some (some (.ref f11))) (l11 : K.lookup f11 = some ⟨oc11, od11, .func (PySem.W.fnOf "_law_letters" "_law_letters" (defArgs (topS 20)) (defBody (topS 20)) (defScope (topS 20)) .none kV11 dc11 pm11 an11 cd11 ct11), sl11⟩)
    (c11 : PySem.W.codeIn K cd11 "_law_letters" = true) (k11 : PySem.W.keepIn K (.ref f11) = true)
    (a12 : PySem.W.nsIn K mainGlobals "law" = some (some (.ref f12))) (l12 : K.lookup f12 = some ⟨oc12, od12, .func (PySem.W.fnOf "law" "law" (defArgs (topS 21)) (defBody (topS 21)) (defScope (topS 21)) .none kV12 dc12 pm12 an12 (.ref cc) ct12), sl12⟩)
    (c12 : PySem.W.codeIn K (.ref cc) "law" = true) (k12 : PySem.W.keepIn K (.ref f12) = true)
    (z0 : PySem.W.nsIn K mainGlobals "len" = some none)
    (z1 : PySem.W.nsIn K mainGlobals "tuple" = some none)
    (z2 : PySem.W.nsIn K mainGlobals "max" = some none)
    (z3 : PySem.W.nsIn K mainGlobals "isinstance" = some none)
    (z4 : PySem.W.nsIn K mainGlobals "str" = some none)
    (z5 : PySem.W.nsIn K mainGlobals "range" = some none)
    (z6 : PySem.W.nsIn K mainGlobals "enumerate" = some none)
    (z7 : PySem.W.nsIn K mainGlobals "sum" = some none)
    (z8 : PySem.W.nsIn K mainGlobals "sorted" = some none)
    (x0 : PySem.W.nsIn K mainGlobals "NoSheet" = some (some (.ref C0))) (xe0 : PySem.W.excIn K C0 [.type "ValueError", .type "Exception", .type "BaseException", .type "object"] "ValueError.__new__" = true) (xk0 : PySem.W.keepIn K (.ref C0) = true) (xs0 : PySem.W.subIn K (.ref C0) (.type "BaseException") = some true) (xt0 : PySem.W.typeIn K (.ref C0) = some (.type "type"))
    (x1 : PySem.W.nsIn K mainGlobals "NoPart" = some (some (.ref C1))) (xe1 : PySem.W.excIn K C1 [.type "ValueError", .type "Exception", .type "BaseException", .type "object"] "ValueError.__new__" = true) (xk1 : PySem.W.keepIn K (.ref C1) = true) (xs1 : PySem.W.subIn K (.ref C1) (.type "BaseException") = some true) (xt1 : PySem.W.typeIn K (.ref C1) = some (.type "type"))
    (x2 : PySem.W.nsIn K mainGlobals "NoRow" = some (some (.ref C2))) (xe2 : PySem.W.excIn K C2 [.type "ValueError", .type "Exception", .type "BaseException", .type "object"] "ValueError.__new__" = true) (xk2 : PySem.W.keepIn K (.ref C2) = true) (xs2 : PySem.W.subIn K (.ref C2) (.type "BaseException") = some true) (xt2 : PySem.W.typeIn K (.ref C2) = some (.type "type"))
    (x3 : PySem.W.nsIn K mainGlobals "NoText" = some (some (.ref C3))) (xe3 : PySem.W.excIn K C3 [.type "ValueError", .type "Exception", .type "BaseException", .type "object"] "ValueError.__new__" = true) (xk3 : PySem.W.keepIn K (.ref C3) = true) (xs3 : PySem.W.subIn K (.ref C3) (.type "BaseException") = some true) (xt3 : PySem.W.typeIn K (.ref C3) = some (.type "type"))
    (aT : PySem.W.nsIn K mainGlobals "_law_told" = some (some (.ref gT))) (lT : K.lookup gT = some ⟨ocT, odT, .func (PySem.W.fnOf "_law_told" "_law_told" (defArgs (topS 18)) (defBody (topS 18)) (defScope (topS 18)) .none kVT dcT pmT anT cdT ctT), slT⟩)
    (cT : PySem.W.codeIn K cdT "_law_told" = true) (kT : PySem.W.keepIn K (.ref gT) = true) (xP : PySem.W.nsIn K mainGlobals "PartError" = some (some (.ref CP))) (ziT : PySem.W.nsIn K mainGlobals "isinstance" = some none) (zvT : PySem.W.nsIn K mainGlobals "ValueError" = some none)
    (tg0 : PySem.W.findIn K (.ref C0) "__getattribute__" = some (some (.builtin "BaseException.__getattribute__"))) (tk0 : PySem.W.findIn K (.ref C0) "__getattr__" = some none) (td0 : PySem.W.hasDictIn K C0 = true) (ta0 : PySem.W.findIn K (.ref C0) "__class__" = some (some (.builtin "object.__class__"))) (tn0 : PySem.W.specialIn K (.builtin "object.__class__") "__get__" = some (some (.builtin "getset_descriptor.__get__"))) (tt0 : PySem.W.takesIn K (.builtin "object.__class__") = some true) (tm0 : PySem.W.mroIn K C0 (.type "object") = some true) (ti00 : PySem.W.kitOne K (.ref C0) (.ref C0) = some true) (ti01 : PySem.W.kitOne K (.ref C0) (.ref C1) = some false) (ti02 : PySem.W.kitOne K (.ref C0) (.ref C2) = some false) (ti03 : PySem.W.kitOne K (.ref C0) (.ref C3) = some false) (tv0 : PySem.W.kitOne K (.ref C0) (.type "ValueError") = some true) (te0 : PySem.W.exmOne K (.ref C0) (.ref CP) = some true)
    (tg1 : PySem.W.findIn K (.ref C1) "__getattribute__" = some (some (.builtin "BaseException.__getattribute__"))) (tk1 : PySem.W.findIn K (.ref C1) "__getattr__" = some none) (td1 : PySem.W.hasDictIn K C1 = true) (ta1 : PySem.W.findIn K (.ref C1) "__class__" = some (some (.builtin "object.__class__"))) (tn1 : PySem.W.specialIn K (.builtin "object.__class__") "__get__" = some (some (.builtin "getset_descriptor.__get__"))) (tt1 : PySem.W.takesIn K (.builtin "object.__class__") = some true) (tm1 : PySem.W.mroIn K C1 (.type "object") = some true) (ti10 : PySem.W.kitOne K (.ref C1) (.ref C0) = some false) (ti11 : PySem.W.kitOne K (.ref C1) (.ref C1) = some true) (ti12 : PySem.W.kitOne K (.ref C1) (.ref C2) = some false) (ti13 : PySem.W.kitOne K (.ref C1) (.ref C3) = some false) (tv1 : PySem.W.kitOne K (.ref C1) (.type "ValueError") = some true) (te1 : PySem.W.exmOne K (.ref C1) (.ref CP) = some true)
    (tg2 : PySem.W.findIn K (.ref C2) "__getattribute__" = some (some (.builtin "BaseException.__getattribute__"))) (tk2 : PySem.W.findIn K (.ref C2) "__getattr__" = some none) (td2 : PySem.W.hasDictIn K C2 = true) (ta2 : PySem.W.findIn K (.ref C2) "__class__" = some (some (.builtin "object.__class__"))) (tn2 : PySem.W.specialIn K (.builtin "object.__class__") "__get__" = some (some (.builtin "getset_descriptor.__get__"))) (tt2 : PySem.W.takesIn K (.builtin "object.__class__") = some true) (tm2 : PySem.W.mroIn K C2 (.type "object") = some true) (ti20 : PySem.W.kitOne K (.ref C2) (.ref C0) = some false) (ti21 : PySem.W.kitOne K (.ref C2) (.ref C1) = some false) (ti22 : PySem.W.kitOne K (.ref C2) (.ref C2) = some true) (ti23 : PySem.W.kitOne K (.ref C2) (.ref C3) = some false) (tv2 : PySem.W.kitOne K (.ref C2) (.type "ValueError") = some true) (te2 : PySem.W.exmOne K (.ref C2) (.ref CP) = some true)
    (tg3 : PySem.W.findIn K (.ref C3) "__getattribute__" = some (some (.builtin "BaseException.__getattribute__"))) (tk3 : PySem.W.findIn K (.ref C3) "__getattr__" = some none) (td3 : PySem.W.hasDictIn K C3 = true) (ta3 : PySem.W.findIn K (.ref C3) "__class__" = some (some (.builtin "object.__class__"))) (tn3 : PySem.W.specialIn K (.builtin "object.__class__") "__get__" = some (some (.builtin "getset_descriptor.__get__"))) (tt3 : PySem.W.takesIn K (.builtin "object.__class__") = some true) (tm3 : PySem.W.mroIn K C3 (.type "object") = some true) (ti30 : PySem.W.kitOne K (.ref C3) (.ref C0) = some false) (ti31 : PySem.W.kitOne K (.ref C3) (.ref C1) = some false) (ti32 : PySem.W.kitOne K (.ref C3) (.ref C2) = some false) (ti33 : PySem.W.kitOne K (.ref C3) (.ref C3) = some true) (tv3 : PySem.W.kitOne K (.ref C3) (.type "ValueError") = some true) (te3 : PySem.W.exmOne K (.ref C3) (.ref CP) = some true)
    (law_ok : ∀ ns : List Int, ns.length ≤ 63 → run P (200 + 1) "law" [.list (ns.map PyData.int)] = .ok (.bool true)) :
    ∃ fd : FuncData, (∀ (s : Shared) (u : Value), BindsTo s fd ⟨[u], []⟩ [("_law_script", u)]) ∧ ∀ base : Heap, K.In base → base.Ns mainGlobals mg → LamX.TabB base mg cc Pt → FnOk prog w K mg base (L2.CX prog w) (0 + 200 + 1) fa fd ["_law_script"] (spLawL K Pt) := by
  have e := hfa.symm.trans (PySem.W.mg_of X G a12)
  cases e
  have TS : TellS mg (defScope (topS 18)) CP C0 C1 C2 C3 := ⟨by decide +kernel, by decide +kernel, PySem.W.mg_of X G xP, PySem.W.mg_of X G x0, PySem.W.mg_of X G x1, PySem.W.mg_of X G x2, PySem.W.mg_of X G x3, PySem.W.mg_none_of X G ziT, PySem.W.mg_none_of X G zvT⟩
  have TA : TellAt K mg P.ex "_law_told" CP C0 C1 C2 C3 := ⟨⟨gT, _, _, _, _, _, _, _, _, _, _, _, _, _, ["_law_deed", "_law_got_ones", "e", "_law_kinds"], "_law_deed", PySem.W.mg_of X G aT, kT, lT, cT, (fun_mk (st := topS 18) lT cT kT).binds (ps := ["_law_deed"]) fun _ _ _ _ _ _ us hl => match us, hl with | [_], _ => rfl,
      fnSc_of (by decide +kernel : fnScB ["_law_deed", "_law_got_ones", "e", "_law_kinds"] ["_law_deed"] (defScope (topS 18)) = true), rfl, .inl (by decide +kernel), by decide, by decide, fun Y q eK em hu => by subst eK em; exact told2_gives (q1 := ⟨0, 0, 0, 0⟩) (q2 := ⟨0, 0, 0, 0⟩) TS rfl rfl hu⟩,
    fun c k hk => (show ∀ y ∈ ([("NoSheet", 0), ("NoPart", 1), ("NoRow", 2), ("NoText", 3)] : List (Str × Nat)), ∃ cls, mg y.1 = some cls ∧ TellC K CP C0 C1 C2 C3 cls y.2 from all_cons ⟨.ref C0, PySem.W.mg_of X G x0, ⟨⟨C0, rfl, ⟨tg0, tk0, xs0, td0, ta0, tn0, tt0, tm0⟩, ti00, ti01, ti02, ti03, tv0⟩, te0, by decide⟩⟩ (all_cons ⟨.ref C1, PySem.W.mg_of X G x1, ⟨⟨C1, rfl, ⟨tg1, tk1, xs1, td1, ta1, tn1, tt1, tm1⟩, ti10, ti11, ti12, ti13, tv1⟩, te1, by decide⟩⟩ (all_cons ⟨.ref C2, PySem.W.mg_of X G x2, ⟨⟨C2, rfl, ⟨tg2, tk2, xs2, td2, ta2, tn2, tt2, tm2⟩, ti20, ti21, ti22, ti23, tv2⟩, te2, by decide⟩⟩ (all_cons ⟨.ref C3, PySem.W.mg_of X G x3, ⟨⟨C3, rfl, ⟨tg3, tk3, xs3, td3, ta3, tn3, tt3, tm3⟩, ti30, ti31, ti32, ti33, tv3⟩, te3, by decide⟩⟩ all_nil)))) (c, k) (lookup_mem hk)⟩
  have D0 : ∀ base : Heap, DefAt (WL Pt ("law" ++ ".<locals>." ++ "<lambda>")) K mg base M P.ex "is_text" f_is_text f0 _ := fun base  => ⟨⟨topS 7, ["leaf"], [], false, fun_mk (st := topS 7) l0 c0 k0, s_is_text, rfl, e_is_text, fun h => nomatch h⟩, PySem.W.mg_of X G a0,
    (fun_mk (st := topS 7) l0 c0 k0).binds (ps := ["leaf"]) fun _ _ _ _ _ _ us hl => match us, hl with | [_], _ => rfl⟩
  have D1 : ∀ base : Heap, DefAt (WL Pt ("law" ++ ".<locals>." ++ "<lambda>")) K mg base M P.ex "deep" f_deep f1 _ := fun base  => ⟨⟨topS 8, ["tree", "part", "leaf"], [], false, fun_mk (st := topS 8) l1 c1 k1, s_deep, rfl, e_deep, fun h => nomatch h⟩, PySem.W.mg_of X G a1,
    (fun_mk (st := topS 8) l1 c1 k1).binds (ps := ["tree"]) fun _ _ _ _ _ _ us hl => match us, hl with | [_], _ => rfl⟩
  have D2 : ∀ base : Heap, DefAt (WL Pt ("law" ++ ".<locals>." ++ "<lambda>")) K mg base M P.ex "lines" f_lines f2 _ := fun base  => ⟨⟨topS 9, ["tree", "found", "leaf", "part"], [], false, fun_mk (st := topS 9) l2 c2 k2, s_lines, rfl, e_lines, fun h => nomatch h⟩, PySem.W.mg_of X G a2,
    (fun_mk (st := topS 9) l2 c2 k2).binds (ps := ["tree"]) fun _ _ _ _ _ _ us hl => match us, hl with | [_], _ => rfl⟩
  have D3 : ∀ base : Heap, DefAt (WL Pt ("law" ++ ".<locals>." ++ "<lambda>")) K mg base M P.ex "letters" f_letters f3 _ := fun base  => ⟨⟨topS 10, ["tree", "found", "leaf", "part"], [], false, fun_mk (st := topS 10) l3 c3 k3, s_letters, rfl, e_letters, fun h => nomatch h⟩, PySem.W.mg_of X G a3,
    (fun_mk (st := topS 10) l3 c3 k3).binds (ps := ["tree"]) fun _ _ _ _ _ _ us hl => match us, hl with | [_], _ => rfl⟩
  have D4 : ∀ base : Heap, DefAt (WL Pt ("law" ++ ".<locals>." ++ "<lambda>")) K mg base M P.ex "part_at" f_part_at f4 _ := fun base  => ⟨⟨topS 11, ["tree", "way", "parts"], [], false, fun_mk (st := topS 11) l4 c4 k4, s_part_at, rfl, e_part_at, fun h => nomatch h⟩, PySem.W.mg_of X G a4,
    (fun_mk (st := topS 11) l4 c4 k4).binds (ps := ["tree", "way"]) fun _ _ _ _ _ _ us hl => match us, hl with | [_, _], _ => rfl⟩
  have D5 : ∀ base : Heap, DefAt (WL Pt ("law" ++ ".<locals>." ++ "<lambda>")) K mg base M P.ex "found" f_found f5 _ := fun base  => ⟨⟨topS 12, ["tree", "text", "at", "leaf", "number", "part", "way"], [], false, fun_mk (st := topS 12) l5 c5 k5, s_found, rfl, e_found, fun h => nomatch h⟩, PySem.W.mg_of X G a5,
    (fun_mk (st := topS 12) l5 c5 k5).binds (ps := ["tree", "text"]) fun _ _ _ _ _ _ us hl => match us, hl with | [_, _], _ => rfl⟩
  have D6 : ∀ base : Heap, DefAt (WL Pt ("law" ++ ".<locals>." ++ "<lambda>")) K mg base M P.ex "_law_cell_at" f__law_cell_at f6 _ := fun base  => ⟨⟨topS 14, ["_law_script", "_law_k"], [], false, fun_mk (st := topS 14) l6 c6 k6, s__law_cell_at, rfl, e__law_cell_at, fun h => nomatch h⟩, PySem.W.mg_of X G a6,
    (fun_mk (st := topS 14) l6 c6 k6).binds (ps := ["_law_script", "_law_k"]) fun _ _ _ _ _ _ us hl => match us, hl with | [_, _], _ => rfl⟩
  have D7 : ∀ base : Heap, DefAt (WL Pt ("law" ++ ".<locals>." ++ "<lambda>")) K mg base M P.ex "_law_mixed" f__law_mixed f7 _ := fun base  => ⟨⟨topS 15, ["_law_script", "_law_k", "_law_drawn_here"], [], false, fun_mk (st := topS 15) l7 c7 k7, s__law_mixed, rfl, e__law_mixed, fun h => nomatch h⟩, PySem.W.mg_of X G a7,
    (fun_mk (st := topS 15) l7 c7 k7).binds (ps := ["_law_script", "_law_k"]) fun _ _ _ _ _ _ us hl => match us, hl with | [_, _], _ => rfl⟩
  have D8 : ∀ base : Heap, DefAt (WL Pt ("law" ++ ".<locals>." ++ "<lambda>")) K mg base M P.ex "_law_drawn" f__law_drawn f8 _ := fun base  => ⟨⟨topS 16, ["_law_number", "_law_k", "_law_drawn_here"], [], false, fun_mk (st := topS 16) l8 c8 k8, s__law_drawn, rfl, e__law_drawn, fun h => nomatch h⟩, PySem.W.mg_of X G a8,
    (fun_mk (st := topS 16) l8 c8 k8).binds (ps := ["_law_number", "_law_k"]) fun _ _ _ _ _ _ us hl => match us, hl with | [_, _], _ => rfl⟩
  have D9 : ∀ base : Heap, DefAt (WL Pt ("law" ++ ".<locals>." ++ "<lambda>")) K mg base M P.ex "_law_tree" f__law_tree f9 _ := fun base  => ⟨⟨topS 17, ["_law_number", "_law_down", "_law_got_ones", "_law_k", "_law_drawn_here", "_law_parts", "_law_j"], [], false, fun_mk (st := topS 17) l9 c9 k9, s__law_tree, rfl, e__law_tree, fun h => nomatch h⟩, PySem.W.mg_of X G a9,
    (fun_mk (st := topS 17) l9 c9 k9).binds (ps := ["_law_number", "_law_down"]) fun _ _ _ _ _ _ us hl => match us, hl with | [_, _], _ => rfl⟩
  have D10 : ∀ base : Heap, DefAt (WL Pt ("law" ++ ".<locals>." ++ "<lambda>")) K mg base M P.ex "_law_walk" f__law_walk f10 _ := fun base  => ⟨⟨topS 19, ["_law_tree_here", "_law_way", "_law_found_ones", "_law_at", "_law_leaf", "_law_number", "_law_part"], [], false, fun_mk (st := topS 19) l10 c10 k10, s__law_walk, rfl, e__law_walk, fun h => nomatch h⟩, PySem.W.mg_of X G a10,
    (fun_mk (st := topS 19) l10 c10 k10).binds (ps := ["_law_tree_here", "_law_way"]) fun _ _ _ _ _ _ us hl => match us, hl with | [_, _], _ => rfl⟩
  have D11 : ∀ base : Heap, DefAt (WL Pt ("law" ++ ".<locals>." ++ "<lambda>")) K mg base M P.ex "_law_letters" f__law_letters f11 _ := fun base  => ⟨⟨topS 20, ["_law_every", "_law_some", "_law_way", "_law_part", "_law_leaf"], [], false, fun_mk (st := topS 20) l11 c11 k11, s__law_letters, rfl, e__law_letters, fun h => nomatch h⟩, PySem.W.mg_of X G a11,
    (fun_mk (st := topS 20) l11 c11 k11).binds (ps := ["_law_every"]) fun _ _ _ _ _ _ us hl => match us, hl with | [_], _ => rfl⟩
  have D12 : ∀ base : Heap, LamX.TabB base mg cc Pt → DefAt (WL Pt ("law" ++ ".<locals>." ++ "<lambda>")) K mg base M P.ex "law" f_law fa _ := fun base TB => ⟨⟨topS 21, ["_law_script", "_law_tree_here", "_law_every", "_law_way", "_law_part", "_law_beyond", "_law_more", "_law_text", "_law_some", "_law_leaf"], [], true, fun_mk (st := topS 21) l12 c12 k12, s_law, rfl, e_law, fun _ => ⟨Pt, cc, _, CP, C0, C1, C2, C3, rfl, rfl, by decide, TA, TB, rfl⟩⟩, PySem.W.mg_of X G a12,
    (fun_mk (st := topS 21) l12 c12 k12).binds (ps := ["_law_script"]) fun _ _ _ _ _ _ us hl => match us, hl with | [_], _ => rfl⟩
  have tab : ∀ base : Heap, K.In base → base.Ns mainGlobals mg → LamX.TabB base mg cc Pt → TabOk (WL Pt ("law" ++ ".<locals>." ++ "<lambda>")) P M prog w K mg base 0 := fun base _ _ TB =>
    { T := fun f F hf => (show ∀ y ∈ tab, ∃ a fd, DefAt (WL Pt ("law" ++ ".<locals>." ++ "<lambda>")) K mg base M P.ex y.1 y.2 a fd from all_cons ⟨_, _, D0 base⟩ (all_cons ⟨_, _, D1 base⟩ (all_cons ⟨_, _, D2 base⟩ (all_cons ⟨_, _, D3 base⟩ (all_cons ⟨_, _, D4 base⟩ (all_cons ⟨_, _, D5 base⟩ (all_cons ⟨_, _, D6 base⟩ (all_cons ⟨_, _, D7 base⟩ (all_cons ⟨_, _, D8 base⟩ (all_cons ⟨_, _, D9 base⟩ (all_cons ⟨_, _, D10 base⟩ (all_cons ⟨_, _, D11 base⟩ (all_cons ⟨_, _, D12 base TB⟩ (all_nil)))))))))))))) (f, F) (lookup_mem hf)
      X := fun f q hq => nomatch hq
      fk := fun f hf => some_of_isSome ((show ∀ f ∈ M.fns, (P.fn f).isSome = true by decide +kernel) f (by simpa using hf))
      bl := fun x hx => (show ∀ x ∈ M.bl, mg x = none from all_cons (PySem.W.mg_none_of X G z0) (all_cons (PySem.W.mg_none_of X G z1) (all_cons (PySem.W.mg_none_of X G z2) (all_cons (PySem.W.mg_none_of X G z3) (all_cons (PySem.W.mg_none_of X G z4) (all_cons (PySem.W.mg_none_of X G z5) (all_cons (PySem.W.mg_none_of X G z6) (all_cons (PySem.W.mg_none_of X G z7) (all_cons (PySem.W.mg_none_of X G z8) (all_nil)))))))))) x (by simpa using hx)
      exc := fun c hc => (show ∀ c ∈ M.excs, ∃ C, mg c = some (.ref C) ∧ PySem.W.excIn K C [.type "ValueError", .type "Exception", .type "BaseException", .type "object"] "ValueError.__new__" = true ∧ PySem.W.keepIn K (.ref C) = true ∧
        PySem.W.subIn K (.ref C) (.type "BaseException") = some true ∧ PySem.W.typeIn K (.ref C) = some (.type "type") from all_cons ⟨C0, PySem.W.mg_of X G x0, xe0, xk0, xs0, xt0⟩ (all_cons ⟨C1, PySem.W.mg_of X G x1, xe1, xk1, xs1, xt1⟩ (all_cons ⟨C2, PySem.W.mg_of X G x2, xe2, xk2, xs2, xt2⟩ (all_cons ⟨C3, PySem.W.mg_of X G x3, xe3, xk3, xs3, xt3⟩ (all_nil))))) c (by simpa using hc)
      gl := fun x d hx => (show ∀ y ∈ glt, ∃ v u, mg y.1 = some u ∧ L2.RelV v u ∧ ∀ B, Rp K B v y.2 from all_nil) (x, d) (lookup_mem hx) }
  exact ⟨_, fun s u => .of_eq rfl, fun base h1 h2 TB => law_FL (L := 0) (tab base h1 h2 TB) (D12 base TB) rfl t_law rfl law_ok⟩
end K33
/-! EvP: reckoning with the evaluator. -/
namespace Ev
open PySem PySem.Spec PyProof.Rows L2
section
variable {g : G} {env : Env}
theorem md_false (r : R D) : md false r = r := rfl
theorem md_true (r : R D) : md true r = (r >>= truth) := rfl
theorem getS0 {d : D} {r : Env} : getS (some (.dat d) :: r) 0 = .ok d := rfl
theorem getS1 {a : Option Sl} {d : D} {r : Env} : getS (a :: some (.dat d) :: r) 1 = .ok d := rfl
theorem getSs {a : Option Sl} {r : Env} (i : Nat) : getS (a :: r) (i + 1) = getS r i := rfl
theorem setE0 {a b : Option Sl} {r : Env} : List.set (a :: r) 0 b = b :: r := rfl
theorem setEs {a b : Option Sl} {r : Env} (i : Nat) : List.set (a :: r) (i + 1) b = a :: List.set r i b := rfl
theorem getE0 {a : Option Sl} {r : Env} : (a :: r)[0]? = some a := rfl
theorem getEs {a : Option Sl} {r : Env} (i : Nat) : (a :: r)[i + 1]? = r[i]? := rfl
theorem rel_nil : rel [] = [] := rfl
theorem rel_none {r : Env} : rel (none :: r) = none :: rel r := rfl
theorem rel_dat {d : D} {r : Env} : rel (some (.dat d) :: r) = some (.dat d) :: rel r := rfl
theorem rel_own {d : List D} {r : Env} : rel (some (.own d) :: r) = some (.dat (.list d)) :: rel r := rfl
/-- a slot that holds data, or nothing -/
def o2 (x : Option D) : Option Sl := x.map Sl.dat
theorem rel_o2 {x : Option D} {r : Env} : rel (o2 x :: r) = o2 x :: rel r := by cases x <;> rfl
theorem o2_some (d : D) : some (Sl.dat d) = o2 (some d) := rfl
theorem o2_none : (none : Option Sl) = o2 none := rfl
theorem toS_ok (d : D) (f : D → RS) : (R.ok d).toS f = f d := rfl
theorem toS_exc (c : Str) (f : D → RS) : (R.exc c).toS f = .exc c := rfl
theorem seq_nx (e : Env) (f : Env → RS) : (RS.nx e).seq f = f e := rfl
theorem seq_rt (d : D) (f : Env → RS) : (RS.rt d).seq f = .rt d := rfl
theorem seq_bk (d : Env) (f : Env → RS) : (RS.bk d).seq f = .bk d := rfl
theorem seq_ct (d : Env) (f : Env → RS) : (RS.ct d).seq f = .ct d := rfl
theorem seq_exc (d : Str) (f : Env → RS) : (RS.exc d).seq f = .exc d := rfl
theorem out_rt (d : D) : (RS.rt d).out = .ok d := rfl
theorem out_nx (d : Env) : (RS.nx d).out = .ok .none := rfl
theorem out_exc (d : Str) : (RS.exc d).out = .exc d := rfl
theorem toE_ok (d : Env) : (R.ok d : R Env).toE = .nx d := rfl
theorem bindT_nm (i : Nat) (d : D) (e : Env) : bindT (.nm i) d e = .ok (e.set i (some (.dat d))) := rfl
theorem bindT_tp (ts : List Tg) (ds : List D) (e : Env) : bindT (.tp ts) (.tuple ds) e = bindTs ts ds e := rfl
theorem bindTs_nil (e : Env) : bindTs [] [] e = .ok e := rfl
theorem bindTs_cons (t : Tg) (ts : List Tg) (d : D) (ds : List D) (e : Env) : bindTs (t :: ts) (d :: ds) e = (bindT t d e >>= bindTs ts ds) := rfl
/-! ### the evaluator, piece by piece -/
def andR (r s : R D) : R D := match r with | .ok (.bool true) => s | .ok (.bool false) => .ok (.bool false) | .exc c => .exc c | _ => .bad
def orR (r s : R D) : R D := match r with | .ok (.bool true) => .ok (.bool true) | .ok (.bool false) => s | .exc c => .exc c | _ => .bad
def notR (r : R D) : R D := match r with | .ok (.bool b) => .ok (.bool (!b)) | .exc c => .exc c | _ => .bad
def negR (r : R D) : R D := match r with | .ok (.int b) => .ok (.int (-b)) | .exc c => .exc c | _ => .bad
def iteR (r s t : R D) : R D := match r with | .ok (.bool true) => s | .ok (.bool false) => t | .exc c => .exc c | _ => .bad
def consR (r : R D) (s : R (List D)) : R (List D) := r >>= fun d => s >>= fun ds => .ok (d :: ds)
def intR (r : R D) : R (Option Int) := match r with | .ok (.int i) => .ok (some i) | .exc c => .exc c | _ => .bad
def callR (g : G) (f : Str) (ds : List D) : R D := match g.fn f with | some ps => if ds.length = ps.length then g.run f ds else .bad | none => .bad
def globR (g : G) (x : Str) : R D := match g.gl x with | some d => .ok d | none => .bad
def tupR (ds : List D) : R D := if ds.length ≤ lim then .ok (.tuple ds) else .bad
def lstR (ds : List D) : R D := if ds.length ≤ lim then .ok (.list ds) else .bad
def seqR (d : D) : R (List D) := match d with | .tuple ds => .ok ds | .list ds => .ok ds | .str z => .ok (strL z) | _ => .bad
def enmR (d : D) : R (List D) := match d with | .tuple ds => .ok (enumFrom 0 ds) | .list ds => .ok (enumFrom 0 ds) | _ => .bad
def rngR (x y : D) : R (List D) := match x, y with | .int i, .int j => if ord62 i && ord62 j then .ok (rngL i j) else .bad | _, _ => .bad
def zipR (x y : D) : R (List D) := match x, y with
  | .tuple ds, .tuple es => .ok (List.zipWith (fun d e => PyData.tuple [d, e]) ds es)
  | .list ds, .list es => .ok (List.zipWith (fun d e => PyData.tuple [d, e]) ds es)
  | _, _ => .bad
def ifS (r : R D) (s t : RS) : RS := match r with | .ok (.bool true) => s | .ok (.bool false) => t | .exc c => .exc c | _ => .bad
def forS' (r : R (List D)) (f : List D → RS) : RS := match r with | .ok ds => f ds | .exc c => .exc c | .bad => .bad
section
variable {m : Bool}
theorem ev_cst (d : D) : ev g m (.cst d) env = md m (.ok d) := rfl
theorem ev_slot (i : Nat) : ev g m (.slot i) env = md m (getS env i) := rfl
theorem ev_glob (x : Str) : ev g m (.glob x) env = md m (globR g x) := rfl
theorem ev_tup (es : List E) : ev g m (.tup es) env = md m (evL g es env >>= tupR) := rfl
theorem ev_lst (es : List E) : ev g m (.lst es) env = md m (evL g es env >>= lstR) := rfl
theorem ev_bin (op : Operator) (a b : E) : ev g m (.bin op a b) env = md m (ev g false a env >>= fun x => ev g false b env >>= fun y => binD op x y) := rfl
theorem ev_neg (a : E) : ev g m (.neg a) env = md m (negR (ev g false a env)) := by
  show md m _ = _
  congr 1
  cases ev g false a env with
  | ok d => cases d <;> rfl
  | exc c => rfl
  | bad => rfl
theorem ev_cmp (op : CmpOp) (a b : E) : ev g m (.cmp op a b) env = (ev g false a env >>= fun x => ev g false b env >>= fun y => cmpD op x y) := rfl
theorem ev_cmp2 (op op2 : CmpOp) (a b c : E) : ev g m (.cmp2 op op2 a b c) env = (ev g false a env >>= fun x => ev g false b env >>= fun y => andR (cmpD op x y) (ev g false c env >>= fun z => cmpD op2 y z)) := by
  rw [ev]
  congr 1
  funext x
  congr 1
  funext y
  cases cmpD op x y with
  | ok d => cases d <;> first | rfl | (rename_i b; cases b <;> rfl)
  | exc c => rfl
  | bad => rfl
theorem ev_band (a b : E) : ev g m (.band a b) env = andR (ev g m a env) (ev g m b env) := by
  rw [ev]
  cases ev g m a env with
  | ok d => cases d <;> first | rfl | (rename_i b; cases b <;> rfl)
  | exc c => rfl
  | bad => rfl
theorem ev_bor (a b : E) : ev g m (.bor a b) env = orR (ev g m a env) (ev g m b env) := by
  rw [ev]
  cases ev g m a env with
  | ok d => cases d <;> first | rfl | (rename_i b; cases b <;> rfl)
  | exc c => rfl
  | bad => rfl
theorem ev_bnot (a : E) : ev g m (.bnot a) env = notR (ev g m a env) := by
  rw [ev]
  cases ev g m a env with
  | ok d => cases d <;> rfl
  | exc c => rfl
  | bad => rfl
theorem ev_ite (c a b : E) : ev g false (.ite c a b) env = iteR (ev g true c env) (ev g false a env) (ev g false b env) := by
  rw [ev]
  show (ev g true c env >>= _) = _
  cases ev g true c env with
  | ok d => cases d <;> first | rfl | (rename_i b; cases b <;> rfl)
  | exc c => rfl
  | bad => rfl
theorem ev_ix (a b : E) : ev g m (.ix a b) env = md m (ev g false a env >>= fun x => ev g false b env >>= fun y => ixD x y) := rfl
theorem ev_cut (a : E) (lo hi : Option E) : ev g m (.cut a lo hi) env = md m (ev g false a env >>= fun x => evO g lo env >>= fun l => evO g hi env >>= fun h => cutD x l h) := rfl
theorem ev_rev (a : E) : ev g m (.rev a) env = md m (ev g false a env >>= revD) := rfl
theorem ev_call (f : Str) (es : List E) : ev g m (.call f es) env = md m (evL g es env >>= callR g f) := rfl
theorem ev_blt (f : Bf) (es : List E) : ev g m (.blt f es) env = md m (evL g es env >>= bltD f) := rfl
theorem ev_meth (f : Mf) (o : E) (es : List E) : ev g m (.meth f o es) env = md m (ev g false o env >>= fun x => strR x >>= fun x => evL g es env >>= methD f x) := rfl
theorem strR_s (z : Str) : strR (.str z) = .ok (.str z) := rfl
theorem ev_isi (a : E) (t : Ty) : ev g m (.isi a t) env = md m (ev g false a env >>= fun x => isiD x t) := rfl
theorem ev_lc (ws : List Nat) (tg : Tg) (it : Wk) (c e : E) : ev g m (.lc ws tg it c e) env = md m (evI g it env >>= fun ds => lcLoop tg (fun env' => noExc (ev g true c env')) (fun env' => noExc (ev g false e env')) ws env ds []) := rfl
theorem evL_nil : evL g [] env = .ok [] := rfl
theorem evL_cons (e : E) (es : List E) : evL g (e :: es) env = consR (ev g false e env) (evL g es env) := rfl
theorem evO_none : evO g none env = .ok none := rfl
theorem evO_some (e : E) : evO g (some e) env = intR (ev g false e env) := by
  rw [evO]
  cases ev g false e env with
  | ok d => cases d <;> rfl
  | exc c => rfl
  | bad => rfl
theorem evI_sq (e : E) : evI g (.sq e) env = (ev g false e env >>= seqR) := rfl
theorem evI_enm (e : E) : evI g (.enm e) env = (ev g false e env >>= enmR) := rfl
theorem evI_rng (a b : E) : evI g (.rng a b) env = (ev g false a env >>= fun x => ev g false b env >>= fun y => rngR x y) := rfl
theorem evI_zip (a b : E) : evI g (.zip a b) env = (ev g false a env >>= fun x => ev g false b env >>= fun y => zipR x y) := rfl
theorem ex_set (i : Nat) (e : E) : ex1 g (.set i e) env = (ev g false e env).toS fun d => .nx (env.set i (some (.dat d))) := rfl
theorem ex_asg (t : Tg) (e : E) : ex1 g (.asg t e) env = (ev g false e env).toS fun d => (bindT t d env).toE := rfl
theorem ex_exp (e : E) : ex1 g (.exp e) env = (ev g false e env).toS fun _ => .nx env := rfl
theorem ex_ret (e : E) : ex1 g (.ret e) env = (ev g false e (rel env)).toS fun d => .rt d := rfl
theorem ex_ret0 : ex1 g .ret0 env = .rt .none := rfl
theorem ex_ife (c : E) (a b : List S) : ex1 g (.ife c a b) env = ifS (ev g true c (rel env)) (exs g a env) (exs g b env) := by
  rw [ex1]
  cases ev g true c (rel env) with
  | ok d => cases d <;> first | rfl | (rename_i b; cases b <;> rfl)
  | exc c => rfl
  | bad => rfl
theorem ex_for (t : Tg) (it : Wk) (b : List S) : ex1 g (.for t it b) env = forS' (evI g it env) fun ds => forLoop t (fun e => exs g b e) ds env := by
  rw [ex1]
  cases evI g it env <;> rfl
theorem ex_fz (js : List Nat) (s : S) : ex1 g (.fz js s) env = ex1 g s (frz env js) := rfl
theorem ex_raise (c : Str) : ex1 g (.raise c) env = .exc c := rfl
theorem ex_cont : ex1 g .cont env = .ct env := rfl
theorem ex_brk : ex1 g .brk env = .bk env := rfl
theorem ex_pass : ex1 g .pass env = .nx env := rfl
theorem exs_nil : exs g [] env = .nx env := rfl
theorem exs_cons (s : S) (r : List S) : exs g (s :: r) env = (ex1 g s env).seq (exs g r) := rfl
end
theorem and_b (x y : Bool) : andR (.ok (.bool x)) (.ok (.bool y)) = .ok (.bool (x && y)) := by cases x <;> rfl
theorem and_t (r : R D) : andR (.ok (.bool true)) r = r := rfl
theorem and_f (r : R D) : andR (.ok (.bool false)) r = .ok (.bool false) := rfl
theorem or_b (x y : Bool) : orR (.ok (.bool x)) (.ok (.bool y)) = .ok (.bool (x || y)) := by cases x <;> rfl
theorem or_t (r : R D) : orR (.ok (.bool true)) r = .ok (.bool true) := rfl
theorem or_f (r : R D) : orR (.ok (.bool false)) r = r := rfl
theorem not_b (x : Bool) : notR (.ok (.bool x)) = .ok (.bool (!x)) := rfl
theorem neg_i (x : Int) : negR (.ok (.int x)) = .ok (.int (-x)) := rfl
theorem ite_t (r s : R D) : iteR (.ok (.bool true)) r s = r := rfl
theorem ite_f (r s : R D) : iteR (.ok (.bool false)) r s = s := rfl
theorem ite_b (x : Bool) (r s : R D) : iteR (.ok (.bool x)) r s = if x then r else s := by cases x <;> rfl
theorem if_t (s t : RS) : ifS (.ok (.bool true)) s t = s := rfl
theorem if_f (s t : RS) : ifS (.ok (.bool false)) s t = t := rfl
theorem if_b (x : Bool) (s t : RS) : ifS (.ok (.bool x)) s t = if x then s else t := by cases x <;> rfl
theorem cons_ok (d : D) (ds : List D) : consR (.ok d) (.ok ds) = .ok (d :: ds) := rfl
theorem int_ok (i : Int) : intR (.ok (.int i)) = .ok (some i) := rfl
theorem for_ok (ds : List D) (f : List D → RS) : forS' (.ok ds) f = f ds := rfl
theorem seq_t (ds : List D) : seqR (.tuple ds) = .ok ds := rfl
theorem seq_l (ds : List D) : seqR (.list ds) = .ok ds := rfl
theorem seq_s (z : Str) : seqR (.str z) = .ok (strL z) := rfl
theorem enm_t (ds : List D) : enmR (.tuple ds) = .ok (enumFrom 0 ds) := rfl
theorem enm_l (ds : List D) : enmR (.list ds) = .ok (enumFrom 0 ds) := rfl
theorem rng_ii {i j : Int} (h : -4611686018427387904 ≤ i ∧ i < 4611686018427387904) (h2 : -4611686018427387904 ≤ j ∧ j < 4611686018427387904) : rngR (.int i) (.int j) = .ok (rngL i j) := by
  refine if_pos ?_
  unfold ord62
  simp only [Bool.and_eq_true, decide_eq_true_eq]
  exact ⟨⟨h.1, h.2⟩, ⟨h2.1, h2.2⟩⟩
theorem tup_ok {ds : List D} (h : ds.length ≤ lim) : tupR ds = .ok (.tuple ds) := if_pos h
theorem lst_ok {ds : List D} (h : ds.length ≤ lim) : lstR ds = .ok (.list ds) := if_pos h
theorem lim2 {n : Nat} (h : n ≤ 1000) : n ≤ lim := Nat.le_trans h (by decide)
theorem tup_0 : tupR [] = .ok (.tuple []) := rfl
theorem tup_1 (a : D) : tupR [a] = .ok (.tuple [a]) := rfl
theorem tup_2 (a b : D) : tupR [a, b] = .ok (.tuple [a, b]) := rfl
theorem tup_3 (a b c : D) : tupR [a, b, c] = .ok (.tuple [a, b, c]) := rfl
theorem tup_4 (a b c d : D) : tupR [a, b, c, d] = .ok (.tuple [a, b, c, d]) := rfl
theorem tup_5 (a b c d e : D) : tupR [a, b, c, d, e] = .ok (.tuple [a, b, c, d, e]) := rfl
theorem tup_6 (a b c d e f : D) : tupR [a, b, c, d, e, f] = .ok (.tuple [a, b, c, d, e, f]) := rfl
theorem tup_7 (a b c d e f h : D) : tupR [a, b, c, d, e, f, h] = .ok (.tuple [a, b, c, d, e, f, h]) := rfl
theorem lst_0 : lstR [] = .ok (.list []) := rfl
theorem lst_1 (a : D) : lstR [a] = .ok (.list [a]) := rfl
theorem lst_2 (a b : D) : lstR [a, b] = .ok (.list [a, b]) := rfl
theorem lst_3 (a b c : D) : lstR [a, b, c] = .ok (.list [a, b, c]) := rfl
theorem call_ok {f : Str} {ps : List Str} {ds : List D} (h : g.fn f = some ps) (hl : ds.length = ps.length) : callR g f ds = g.run f ds := by
  unfold callR
  rw [h]
  exact if_pos hl
theorem glob_ok {x : Str} {d : D} (h : g.gl x = some d) : globR g x = .ok d := by unfold globR; rw [h]
theorem isi_ss (z : Str) : isiD (.str z) .str = .ok (.bool true) := rfl
theorem isi_st (z : Str) : isiD (.str z) .tuple = .ok (.bool false) := rfl
theorem isi_tt (z : List D) : isiD (.tuple z) .tuple = .ok (.bool true) := rfl
theorem isi_ts (z : List D) : isiD (.tuple z) .str = .ok (.bool false) := rfl
theorem isi_bb (z : Bool) : isiD (.bool z) .bool = .ok (.bool true) := rfl
theorem is_nn : cmpD .Is .none .none = .ok (.bool true) := rfl
theorem isnot_nn : cmpD .IsNot .none .none = .ok (.bool false) := rfl
theorem is_in (i : Int) : cmpD .Is (.int i) .none = .ok (.bool false) := rfl
theorem isnot_in (i : Int) : cmpD .IsNot (.int i) .none = .ok (.bool true) := rfl
theorem is_tn (i : List D) : cmpD .Is (.tuple i) .none = .ok (.bool false) := rfl
theorem isnot_tn (i : List D) : cmpD .IsNot (.tuple i) .none = .ok (.bool true) := rfl
theorem isnot_bb (a b : Bool) : cmpD .IsNot (.bool a) (.bool b) = .ok (.bool (!decide (a = b))) := rfl
theorem is_bb (a b : Bool) : cmpD .Is (.bool a) (.bool b) = .ok (.bool (decide (a = b))) := rfl
/-! ### operators on known kinds -/
theorem add_ii (i j : Int) : binD .Add (.int i) (.int j) = .ok (.int (i + j)) := rfl
theorem sub_ii (i j : Int) : binD .Sub (.int i) (.int j) = .ok (.int (i - j)) := rfl
theorem mul_ii {i j : Int} (h : (big i || big j) = true) : binD .Mult (.int i) (.int j) = .ok (.int (i * j)) := if_pos h
theorem mul_li {i j : Int} (h : big i = true) : binD .Mult (.int i) (.int j) = .ok (.int (i * j)) := if_pos (by rw [h]; rfl)
theorem mul_il {i j : Int} (h : big j = true) : binD .Mult (.int i) (.int j) = .ok (.int (i * j)) := if_pos (by rw [h, Bool.or_true])
theorem fdiv_ii {i j : Int} (h : 0 < j) (h2 : j < 1073741824) : binD .FloorDiv (.int i) (.int j) = .ok (.int (i / j)) := if_pos ⟨h, h2⟩
theorem mod_ii {i j : Int} (h : 0 < j) : binD .Mod (.int i) (.int j) = .ok (.int (i % j)) := if_pos h
theorem add_tt {xs ys : List D} (h : xs.length + ys.length ≤ lim) : binD .Add (.tuple xs) (.tuple ys) = .ok (.tuple (xs ++ ys)) := if_pos h
theorem add_ll {xs ys : List D} (h : xs.length + ys.length ≤ lim) : binD .Add (.list xs) (.list ys) = .ok (.list (xs ++ ys)) := if_pos h
theorem add_ss {x y : Str} (h : x.length + y.length ≤ lim) : binD .Add (.str x) (.str y) = .ok (.str (x ++ y)) := if_pos h
theorem eq_cmp {a b : D} (h : shp a = true) (h2 : shp b = true) : cmpD .Eq a b = .ok (.bool (PyData.eqv a b)) := if_pos (by rw [h, h2]; rfl)
theorem ne_cmp {a b : D} (h : shp a = true) (h2 : shp b = true) : cmpD .NotEq a b = .ok (.bool (!PyData.eqv a b)) := if_pos (by rw [h, h2]; rfl)
theorem lt_ii (i j : Int) : cmpD .Lt (.int i) (.int j) = .ok (.bool (decide (i < j))) := rfl
theorem le_ii (i j : Int) : cmpD .LtE (.int i) (.int j) = .ok (.bool (decide (i ≤ j))) := rfl
theorem gt_ii (i j : Int) : cmpD .Gt (.int i) (.int j) = .ok (.bool (decide (j < i))) := rfl
theorem ge_ii (i j : Int) : cmpD .GtE (.int i) (.int j) = .ok (.bool (decide (j ≤ i))) := rfl
theorem shp_int (i : Int) : shp (.int i) = true := rfl
theorem shp_bool (i : Bool) : shp (.bool i) = true := rfl
theorem shp_none : shp .none = true := rfl
theorem eq_ii (i j : Int) : cmpD .Eq (.int i) (.int j) = .ok (.bool (i == j)) := eq_cmp rfl rfl
theorem ne_ii (i j : Int) : cmpD .NotEq (.int i) (.int j) = .ok (.bool (!(i == j))) := ne_cmp rfl rfl
theorem ne_bb (i j : Bool) : cmpD .NotEq (.bool i) (.bool j) = .ok (.bool (!(i == j))) := ne_cmp rfl rfl
theorem eq_bb (i j : Bool) : cmpD .Eq (.bool i) (.bool j) = .ok (.bool (i == j)) := eq_cmp rfl rfl
theorem len_s {z : Str} (h : z.length ≤ lim) : bltD .len [.str z] = .ok (.int z.length) := if_pos h
theorem len_t (xs : List D) : bltD .len [.tuple xs] = .ok (.int xs.length) := rfl
theorem len_l (xs : List D) : bltD .len [.list xs] = .ok (.int xs.length) := rfl
theorem tup_l (xs : List D) : bltD .tuple [.list xs] = .ok (.tuple xs) := rfl
theorem tup_t (xs : List D) : bltD .tuple [.tuple xs] = .ok (.tuple xs) := rfl
theorem int_b (b : Bool) : bltD .int [.bool b] = .ok (.int (if b then 1 else 0)) := rfl
theorem bools_map (bs : List Bool) : boolsOf (bs.map PyData.bool) = some bs := by
  induction bs with
  | nil => rfl
  | cons b bs ih => show (boolsOf (bs.map PyData.bool)).map (b :: ·) = _; rw [ih]; rfl
theorem all_l (bs : List Bool) : bltD .all [.list (bs.map PyData.bool)] = .ok (.bool (bs.all id)) := by
  show (match boolsOf (bs.map PyData.bool) with | some bs => R.ok (PyData.bool (bs.all id)) | none => R.bad) = _
  rw [bools_map]
theorem truth_b (b : Bool) : truth (.bool b) = .ok (.bool b) := rfl
theorem truth_l (xs : List D) : truth (.list xs) = .ok (.bool (!xs.isEmpty)) := rfl
theorem truth_t (xs : List D) : truth (.tuple xs) = .ok (.bool (!xs.isEmpty)) := rfl
theorem st_1_1 (a0 : D) : startE 1 [a0] = [some (.dat a0)] := rfl
theorem st_2_1 (a0 : D) : startE 2 [a0] = [some (.dat a0), none] := rfl
theorem st_2_2 (a0 a1 : D) : startE 2 [a0, a1] = [some (.dat a0), some (.dat a1)] := rfl
theorem st_3_1 (a0 : D) : startE 3 [a0] = [some (.dat a0), none, none] := rfl
theorem st_3_2 (a0 a1 : D) : startE 3 [a0, a1] = [some (.dat a0), some (.dat a1), none] := rfl
theorem st_3_3 (a0 a1 a2 : D) : startE 3 [a0, a1, a2] = [some (.dat a0), some (.dat a1), some (.dat a2)] := rfl
theorem st_4_1 (a0 : D) : startE 4 [a0] = [some (.dat a0), none, none, none] := rfl
theorem st_4_2 (a0 a1 : D) : startE 4 [a0, a1] = [some (.dat a0), some (.dat a1), none, none] := rfl
theorem st_4_3 (a0 a1 a2 : D) : startE 4 [a0, a1, a2] = [some (.dat a0), some (.dat a1), some (.dat a2), none] := rfl
theorem st_4_4 (a0 a1 a2 a3 : D) : startE 4 [a0, a1, a2, a3] = [some (.dat a0), some (.dat a1), some (.dat a2), some (.dat a3)] := rfl
theorem st_5_1 (a0 : D) : startE 5 [a0] = [some (.dat a0), none, none, none, none] := rfl
theorem st_5_2 (a0 a1 : D) : startE 5 [a0, a1] = [some (.dat a0), some (.dat a1), none, none, none] := rfl
theorem st_5_3 (a0 a1 a2 : D) : startE 5 [a0, a1, a2] = [some (.dat a0), some (.dat a1), some (.dat a2), none, none] := rfl
theorem st_5_4 (a0 a1 a2 a3 : D) : startE 5 [a0, a1, a2, a3] = [some (.dat a0), some (.dat a1), some (.dat a2), some (.dat a3), none] := rfl
theorem st_5_5 (a0 a1 a2 a3 a4 : D) : startE 5 [a0, a1, a2, a3, a4] = [some (.dat a0), some (.dat a1), some (.dat a2), some (.dat a3), some (.dat a4)] := rfl
theorem st_6_1 (a0 : D) : startE 6 [a0] = [some (.dat a0), none, none, none, none, none] := rfl
theorem st_6_2 (a0 a1 : D) : startE 6 [a0, a1] = [some (.dat a0), some (.dat a1), none, none, none, none] := rfl
theorem st_6_3 (a0 a1 a2 : D) : startE 6 [a0, a1, a2] = [some (.dat a0), some (.dat a1), some (.dat a2), none, none, none] := rfl
theorem st_6_4 (a0 a1 a2 a3 : D) : startE 6 [a0, a1, a2, a3] = [some (.dat a0), some (.dat a1), some (.dat a2), some (.dat a3), none, none] := rfl
theorem st_6_5 (a0 a1 a2 a3 a4 : D) : startE 6 [a0, a1, a2, a3, a4] = [some (.dat a0), some (.dat a1), some (.dat a2), some (.dat a3), some (.dat a4), none] := rfl
theorem st_7_1 (a0 : D) : startE 7 [a0] = [some (.dat a0), none, none, none, none, none, none] := rfl
theorem st_7_2 (a0 a1 : D) : startE 7 [a0, a1] = [some (.dat a0), some (.dat a1), none, none, none, none, none] := rfl
theorem st_7_3 (a0 a1 a2 : D) : startE 7 [a0, a1, a2] = [some (.dat a0), some (.dat a1), some (.dat a2), none, none, none, none] := rfl
theorem st_7_4 (a0 a1 a2 a3 : D) : startE 7 [a0, a1, a2, a3] = [some (.dat a0), some (.dat a1), some (.dat a2), some (.dat a3), none, none, none] := rfl
theorem st_7_5 (a0 a1 a2 a3 a4 : D) : startE 7 [a0, a1, a2, a3, a4] = [some (.dat a0), some (.dat a1), some (.dat a2), some (.dat a3), some (.dat a4), none, none] := rfl
theorem st_8_1 (a0 : D) : startE 8 [a0] = [some (.dat a0), none, none, none, none, none, none, none] := rfl
theorem st_8_2 (a0 a1 : D) : startE 8 [a0, a1] = [some (.dat a0), some (.dat a1), none, none, none, none, none, none] := rfl
theorem st_8_3 (a0 a1 a2 : D) : startE 8 [a0, a1, a2] = [some (.dat a0), some (.dat a1), some (.dat a2), none, none, none, none, none] := rfl
theorem st_8_4 (a0 a1 a2 a3 : D) : startE 8 [a0, a1, a2, a3] = [some (.dat a0), some (.dat a1), some (.dat a2), some (.dat a3), none, none, none, none] := rfl
theorem st_8_5 (a0 a1 a2 a3 a4 : D) : startE 8 [a0, a1, a2, a3, a4] = [some (.dat a0), some (.dat a1), some (.dat a2), some (.dat a3), some (.dat a4), none, none, none] := rfl
theorem st_9_1 (a0 : D) : startE 9 [a0] = [some (.dat a0), none, none, none, none, none, none, none, none] := rfl
theorem st_9_2 (a0 a1 : D) : startE 9 [a0, a1] = [some (.dat a0), some (.dat a1), none, none, none, none, none, none, none] := rfl
theorem st_9_3 (a0 a1 a2 : D) : startE 9 [a0, a1, a2] = [some (.dat a0), some (.dat a1), some (.dat a2), none, none, none, none, none, none] := rfl
theorem st_9_4 (a0 a1 a2 a3 : D) : startE 9 [a0, a1, a2, a3] = [some (.dat a0), some (.dat a1), some (.dat a2), some (.dat a3), none, none, none, none, none] := rfl
theorem st_9_5 (a0 a1 a2 a3 a4 : D) : startE 9 [a0, a1, a2, a3, a4] = [some (.dat a0), some (.dat a1), some (.dat a2), some (.dat a3), some (.dat a4), none, none, none, none] := rfl
theorem st_10_1 (a0 : D) : startE 10 [a0] = [some (.dat a0), none, none, none, none, none, none, none, none, none] := rfl
theorem st_10_2 (a0 a1 : D) : startE 10 [a0, a1] = [some (.dat a0), some (.dat a1), none, none, none, none, none, none, none, none] := rfl
theorem st_10_3 (a0 a1 a2 : D) : startE 10 [a0, a1, a2] = [some (.dat a0), some (.dat a1), some (.dat a2), none, none, none, none, none, none, none] := rfl
theorem st_10_4 (a0 a1 a2 a3 : D) : startE 10 [a0, a1, a2, a3] = [some (.dat a0), some (.dat a1), some (.dat a2), some (.dat a3), none, none, none, none, none, none] := rfl
theorem st_10_5 (a0 a1 a2 a3 a4 : D) : startE 10 [a0, a1, a2, a3, a4] = [some (.dat a0), some (.dat a1), some (.dat a2), some (.dat a3), some (.dat a4), none, none, none, none, none] := rfl
theorem st_11_1 (a0 : D) : startE 11 [a0] = [some (.dat a0), none, none, none, none, none, none, none, none, none, none] := rfl
theorem st_11_2 (a0 a1 : D) : startE 11 [a0, a1] = [some (.dat a0), some (.dat a1), none, none, none, none, none, none, none, none, none] := rfl
theorem st_11_3 (a0 a1 a2 : D) : startE 11 [a0, a1, a2] = [some (.dat a0), some (.dat a1), some (.dat a2), none, none, none, none, none, none, none, none] := rfl
theorem st_11_4 (a0 a1 a2 a3 : D) : startE 11 [a0, a1, a2, a3] = [some (.dat a0), some (.dat a1), some (.dat a2), some (.dat a3), none, none, none, none, none, none, none] := rfl
theorem st_11_5 (a0 a1 a2 a3 a4 : D) : startE 11 [a0, a1, a2, a3, a4] = [some (.dat a0), some (.dat a1), some (.dat a2), some (.dat a3), some (.dat a4), none, none, none, none, none, none] := rfl
theorem st_12_1 (a0 : D) : startE 12 [a0] = [some (.dat a0), none, none, none, none, none, none, none, none, none, none, none] := rfl
theorem st_12_2 (a0 a1 : D) : startE 12 [a0, a1] = [some (.dat a0), some (.dat a1), none, none, none, none, none, none, none, none, none, none] := rfl
theorem st_12_3 (a0 a1 a2 : D) : startE 12 [a0, a1, a2] = [some (.dat a0), some (.dat a1), some (.dat a2), none, none, none, none, none, none, none, none, none] := rfl
theorem st_12_4 (a0 a1 a2 a3 : D) : startE 12 [a0, a1, a2, a3] = [some (.dat a0), some (.dat a1), some (.dat a2), some (.dat a3), none, none, none, none, none, none, none, none] := rfl
theorem st_12_5 (a0 a1 a2 a3 a4 : D) : startE 12 [a0, a1, a2, a3, a4] = [some (.dat a0), some (.dat a1), some (.dat a2), some (.dat a3), some (.dat a4), none, none, none, none, none, none, none] := rfl
theorem st_13_1 (a0 : D) : startE 13 [a0] = [some (.dat a0), none, none, none, none, none, none, none, none, none, none, none, none] := rfl
theorem st_13_2 (a0 a1 : D) : startE 13 [a0, a1] = [some (.dat a0), some (.dat a1), none, none, none, none, none, none, none, none, none, none, none] := rfl
theorem st_13_3 (a0 a1 a2 : D) : startE 13 [a0, a1, a2] = [some (.dat a0), some (.dat a1), some (.dat a2), none, none, none, none, none, none, none, none, none, none] := rfl
theorem st_13_4 (a0 a1 a2 a3 : D) : startE 13 [a0, a1, a2, a3] = [some (.dat a0), some (.dat a1), some (.dat a2), some (.dat a3), none, none, none, none, none, none, none, none, none] := rfl
theorem st_13_5 (a0 a1 a2 a3 a4 : D) : startE 13 [a0, a1, a2, a3, a4] = [some (.dat a0), some (.dat a1), some (.dat a2), some (.dat a3), some (.dat a4), none, none, none, none, none, none, none, none] := rfl
theorem st_14_1 (a0 : D) : startE 14 [a0] = [some (.dat a0), none, none, none, none, none, none, none, none, none, none, none, none, none] := rfl
theorem st_14_2 (a0 a1 : D) : startE 14 [a0, a1] = [some (.dat a0), some (.dat a1), none, none, none, none, none, none, none, none, none, none, none, none] := rfl
theorem st_14_3 (a0 a1 a2 : D) : startE 14 [a0, a1, a2] = [some (.dat a0), some (.dat a1), some (.dat a2), none, none, none, none, none, none, none, none, none, none, none] := rfl
theorem st_14_4 (a0 a1 a2 a3 : D) : startE 14 [a0, a1, a2, a3] = [some (.dat a0), some (.dat a1), some (.dat a2), some (.dat a3), none, none, none, none, none, none, none, none, none, none] := rfl
theorem st_14_5 (a0 a1 a2 a3 a4 : D) : startE 14 [a0, a1, a2, a3, a4] = [some (.dat a0), some (.dat a1), some (.dat a2), some (.dat a3), some (.dat a4), none, none, none, none, none, none, none, none, none] := rfl
theorem st_15_1 (a0 : D) : startE 15 [a0] = [some (.dat a0), none, none, none, none, none, none, none, none, none, none, none, none, none, none] := rfl
theorem st_15_2 (a0 a1 : D) : startE 15 [a0, a1] = [some (.dat a0), some (.dat a1), none, none, none, none, none, none, none, none, none, none, none, none, none] := rfl
theorem st_15_3 (a0 a1 a2 : D) : startE 15 [a0, a1, a2] = [some (.dat a0), some (.dat a1), some (.dat a2), none, none, none, none, none, none, none, none, none, none, none, none] := rfl
theorem st_15_4 (a0 a1 a2 a3 : D) : startE 15 [a0, a1, a2, a3] = [some (.dat a0), some (.dat a1), some (.dat a2), some (.dat a3), none, none, none, none, none, none, none, none, none, none, none] := rfl
theorem st_15_5 (a0 a1 a2 a3 a4 : D) : startE 15 [a0, a1, a2, a3, a4] = [some (.dat a0), some (.dat a1), some (.dat a2), some (.dat a3), some (.dat a4), none, none, none, none, none, none, none, none, none, none] := rfl
theorem st_16_1 (a0 : D) : startE 16 [a0] = [some (.dat a0), none, none, none, none, none, none, none, none, none, none, none, none, none, none, none] := rfl
theorem st_16_2 (a0 a1 : D) : startE 16 [a0, a1] = [some (.dat a0), some (.dat a1), none, none, none, none, none, none, none, none, none, none, none, none, none, none] := rfl
theorem st_16_3 (a0 a1 a2 : D) : startE 16 [a0, a1, a2] = [some (.dat a0), some (.dat a1), some (.dat a2), none, none, none, none, none, none, none, none, none, none, none, none, none] := rfl
theorem st_16_4 (a0 a1 a2 a3 : D) : startE 16 [a0, a1, a2, a3] = [some (.dat a0), some (.dat a1), some (.dat a2), some (.dat a3), none, none, none, none, none, none, none, none, none, none, none, none] := rfl
theorem st_16_5 (a0 a1 a2 a3 a4 : D) : startE 16 [a0, a1, a2, a3, a4] = [some (.dat a0), some (.dat a1), some (.dat a2), some (.dat a3), some (.dat a4), none, none, none, none, none, none, none, none, none, none, none] := rfl
theorem st_17_1 (a0 : D) : startE 17 [a0] = [some (.dat a0), none, none, none, none, none, none, none, none, none, none, none, none, none, none, none, none] := rfl
theorem st_17_2 (a0 a1 : D) : startE 17 [a0, a1] = [some (.dat a0), some (.dat a1), none, none, none, none, none, none, none, none, none, none, none, none, none, none, none] := rfl
theorem st_17_3 (a0 a1 a2 : D) : startE 17 [a0, a1, a2] = [some (.dat a0), some (.dat a1), some (.dat a2), none, none, none, none, none, none, none, none, none, none, none, none, none, none] := rfl
theorem st_17_4 (a0 a1 a2 a3 : D) : startE 17 [a0, a1, a2, a3] = [some (.dat a0), some (.dat a1), some (.dat a2), some (.dat a3), none, none, none, none, none, none, none, none, none, none, none, none, none] := rfl
theorem st_17_5 (a0 a1 a2 a3 a4 : D) : startE 17 [a0, a1, a2, a3, a4] = [some (.dat a0), some (.dat a1), some (.dat a2), some (.dat a3), some (.dat a4), none, none, none, none, none, none, none, none, none, none, none, none] := rfl
theorem st_18_1 (a0 : D) : startE 18 [a0] = [some (.dat a0), none, none, none, none, none, none, none, none, none, none, none, none, none, none, none, none, none] := rfl
theorem st_18_2 (a0 a1 : D) : startE 18 [a0, a1] = [some (.dat a0), some (.dat a1), none, none, none, none, none, none, none, none, none, none, none, none, none, none, none, none] := rfl
theorem st_18_3 (a0 a1 a2 : D) : startE 18 [a0, a1, a2] = [some (.dat a0), some (.dat a1), some (.dat a2), none, none, none, none, none, none, none, none, none, none, none, none, none, none, none] := rfl
theorem st_18_4 (a0 a1 a2 a3 : D) : startE 18 [a0, a1, a2, a3] = [some (.dat a0), some (.dat a1), some (.dat a2), some (.dat a3), none, none, none, none, none, none, none, none, none, none, none, none, none, none] := rfl
theorem st_18_5 (a0 a1 a2 a3 a4 : D) : startE 18 [a0, a1, a2, a3, a4] = [some (.dat a0), some (.dat a1), some (.dat a2), some (.dat a3), some (.dat a4), none, none, none, none, none, none, none, none, none, none, none, none, none] := rfl
theorem fd_1 (i : Int) : binD .FloorDiv (.int i) (.int 1) = .ok (.int (i / 1)) := fdiv_ii (by decide) (by decide)
theorem mo_1 (i : Int) : binD .Mod (.int i) (.int 1) = .ok (.int (i % 1)) := mod_ii (by decide)
theorem ml_1 (j : Int) : binD .Mult (.int 1) (.int j) = .ok (.int (1 * j)) := mul_li (by decide)
theorem mr_1 (i : Int) : binD .Mult (.int i) (.int 1) = .ok (.int (i * 1)) := mul_il (by decide)
theorem fd_2 (i : Int) : binD .FloorDiv (.int i) (.int 2) = .ok (.int (i / 2)) := fdiv_ii (by decide) (by decide)
theorem mo_2 (i : Int) : binD .Mod (.int i) (.int 2) = .ok (.int (i % 2)) := mod_ii (by decide)
theorem ml_2 (j : Int) : binD .Mult (.int 2) (.int j) = .ok (.int (2 * j)) := mul_li (by decide)
theorem mr_2 (i : Int) : binD .Mult (.int i) (.int 2) = .ok (.int (i * 2)) := mul_il (by decide)
theorem fd_3 (i : Int) : binD .FloorDiv (.int i) (.int 3) = .ok (.int (i / 3)) := fdiv_ii (by decide) (by decide)
theorem mo_3 (i : Int) : binD .Mod (.int i) (.int 3) = .ok (.int (i % 3)) := mod_ii (by decide)
theorem ml_3 (j : Int) : binD .Mult (.int 3) (.int j) = .ok (.int (3 * j)) := mul_li (by decide)
theorem mr_3 (i : Int) : binD .Mult (.int i) (.int 3) = .ok (.int (i * 3)) := mul_il (by decide)
theorem fd_4 (i : Int) : binD .FloorDiv (.int i) (.int 4) = .ok (.int (i / 4)) := fdiv_ii (by decide) (by decide)
theorem mo_4 (i : Int) : binD .Mod (.int i) (.int 4) = .ok (.int (i % 4)) := mod_ii (by decide)
theorem ml_4 (j : Int) : binD .Mult (.int 4) (.int j) = .ok (.int (4 * j)) := mul_li (by decide)
theorem mr_4 (i : Int) : binD .Mult (.int i) (.int 4) = .ok (.int (i * 4)) := mul_il (by decide)
theorem fd_5 (i : Int) : binD .FloorDiv (.int i) (.int 5) = .ok (.int (i / 5)) := fdiv_ii (by decide) (by decide)
theorem mo_5 (i : Int) : binD .Mod (.int i) (.int 5) = .ok (.int (i % 5)) := mod_ii (by decide)
theorem ml_5 (j : Int) : binD .Mult (.int 5) (.int j) = .ok (.int (5 * j)) := mul_li (by decide)
theorem mr_5 (i : Int) : binD .Mult (.int i) (.int 5) = .ok (.int (i * 5)) := mul_il (by decide)
theorem fd_6 (i : Int) : binD .FloorDiv (.int i) (.int 6) = .ok (.int (i / 6)) := fdiv_ii (by decide) (by decide)
theorem mo_6 (i : Int) : binD .Mod (.int i) (.int 6) = .ok (.int (i % 6)) := mod_ii (by decide)
theorem ml_6 (j : Int) : binD .Mult (.int 6) (.int j) = .ok (.int (6 * j)) := mul_li (by decide)
theorem mr_6 (i : Int) : binD .Mult (.int i) (.int 6) = .ok (.int (i * 6)) := mul_il (by decide)
theorem fd_7 (i : Int) : binD .FloorDiv (.int i) (.int 7) = .ok (.int (i / 7)) := fdiv_ii (by decide) (by decide)
theorem mo_7 (i : Int) : binD .Mod (.int i) (.int 7) = .ok (.int (i % 7)) := mod_ii (by decide)
theorem ml_7 (j : Int) : binD .Mult (.int 7) (.int j) = .ok (.int (7 * j)) := mul_li (by decide)
theorem mr_7 (i : Int) : binD .Mult (.int i) (.int 7) = .ok (.int (i * 7)) := mul_il (by decide)
theorem fd_8 (i : Int) : binD .FloorDiv (.int i) (.int 8) = .ok (.int (i / 8)) := fdiv_ii (by decide) (by decide)
theorem mo_8 (i : Int) : binD .Mod (.int i) (.int 8) = .ok (.int (i % 8)) := mod_ii (by decide)
theorem ml_8 (j : Int) : binD .Mult (.int 8) (.int j) = .ok (.int (8 * j)) := mul_li (by decide)
theorem mr_8 (i : Int) : binD .Mult (.int i) (.int 8) = .ok (.int (i * 8)) := mul_il (by decide)
theorem fd_9 (i : Int) : binD .FloorDiv (.int i) (.int 9) = .ok (.int (i / 9)) := fdiv_ii (by decide) (by decide)
theorem mo_9 (i : Int) : binD .Mod (.int i) (.int 9) = .ok (.int (i % 9)) := mod_ii (by decide)
theorem ml_9 (j : Int) : binD .Mult (.int 9) (.int j) = .ok (.int (9 * j)) := mul_li (by decide)
theorem mr_9 (i : Int) : binD .Mult (.int i) (.int 9) = .ok (.int (i * 9)) := mul_il (by decide)
theorem fd_10 (i : Int) : binD .FloorDiv (.int i) (.int 10) = .ok (.int (i / 10)) := fdiv_ii (by decide) (by decide)
theorem mo_10 (i : Int) : binD .Mod (.int i) (.int 10) = .ok (.int (i % 10)) := mod_ii (by decide)
theorem ml_10 (j : Int) : binD .Mult (.int 10) (.int j) = .ok (.int (10 * j)) := mul_li (by decide)
theorem mr_10 (i : Int) : binD .Mult (.int i) (.int 10) = .ok (.int (i * 10)) := mul_il (by decide)
theorem fd_11 (i : Int) : binD .FloorDiv (.int i) (.int 11) = .ok (.int (i / 11)) := fdiv_ii (by decide) (by decide)
theorem mo_11 (i : Int) : binD .Mod (.int i) (.int 11) = .ok (.int (i % 11)) := mod_ii (by decide)
theorem ml_11 (j : Int) : binD .Mult (.int 11) (.int j) = .ok (.int (11 * j)) := mul_li (by decide)
theorem mr_11 (i : Int) : binD .Mult (.int i) (.int 11) = .ok (.int (i * 11)) := mul_il (by decide)
theorem fd_12 (i : Int) : binD .FloorDiv (.int i) (.int 12) = .ok (.int (i / 12)) := fdiv_ii (by decide) (by decide)
theorem mo_12 (i : Int) : binD .Mod (.int i) (.int 12) = .ok (.int (i % 12)) := mod_ii (by decide)
theorem ml_12 (j : Int) : binD .Mult (.int 12) (.int j) = .ok (.int (12 * j)) := mul_li (by decide)
theorem mr_12 (i : Int) : binD .Mult (.int i) (.int 12) = .ok (.int (i * 12)) := mul_il (by decide)
theorem fd_13 (i : Int) : binD .FloorDiv (.int i) (.int 13) = .ok (.int (i / 13)) := fdiv_ii (by decide) (by decide)
theorem mo_13 (i : Int) : binD .Mod (.int i) (.int 13) = .ok (.int (i % 13)) := mod_ii (by decide)
theorem ml_13 (j : Int) : binD .Mult (.int 13) (.int j) = .ok (.int (13 * j)) := mul_li (by decide)
theorem mr_13 (i : Int) : binD .Mult (.int i) (.int 13) = .ok (.int (i * 13)) := mul_il (by decide)
theorem fd_14 (i : Int) : binD .FloorDiv (.int i) (.int 14) = .ok (.int (i / 14)) := fdiv_ii (by decide) (by decide)
theorem mo_14 (i : Int) : binD .Mod (.int i) (.int 14) = .ok (.int (i % 14)) := mod_ii (by decide)
theorem ml_14 (j : Int) : binD .Mult (.int 14) (.int j) = .ok (.int (14 * j)) := mul_li (by decide)
theorem mr_14 (i : Int) : binD .Mult (.int i) (.int 14) = .ok (.int (i * 14)) := mul_il (by decide)
theorem fd_15 (i : Int) : binD .FloorDiv (.int i) (.int 15) = .ok (.int (i / 15)) := fdiv_ii (by decide) (by decide)
theorem mo_15 (i : Int) : binD .Mod (.int i) (.int 15) = .ok (.int (i % 15)) := mod_ii (by decide)
theorem ml_15 (j : Int) : binD .Mult (.int 15) (.int j) = .ok (.int (15 * j)) := mul_li (by decide)
theorem mr_15 (i : Int) : binD .Mult (.int i) (.int 15) = .ok (.int (i * 15)) := mul_il (by decide)
theorem fd_16 (i : Int) : binD .FloorDiv (.int i) (.int 16) = .ok (.int (i / 16)) := fdiv_ii (by decide) (by decide)
theorem mo_16 (i : Int) : binD .Mod (.int i) (.int 16) = .ok (.int (i % 16)) := mod_ii (by decide)
theorem ml_16 (j : Int) : binD .Mult (.int 16) (.int j) = .ok (.int (16 * j)) := mul_li (by decide)
theorem mr_16 (i : Int) : binD .Mult (.int i) (.int 16) = .ok (.int (i * 16)) := mul_il (by decide)
theorem fd_17 (i : Int) : binD .FloorDiv (.int i) (.int 17) = .ok (.int (i / 17)) := fdiv_ii (by decide) (by decide)
theorem mo_17 (i : Int) : binD .Mod (.int i) (.int 17) = .ok (.int (i % 17)) := mod_ii (by decide)
theorem ml_17 (j : Int) : binD .Mult (.int 17) (.int j) = .ok (.int (17 * j)) := mul_li (by decide)
theorem mr_17 (i : Int) : binD .Mult (.int i) (.int 17) = .ok (.int (i * 17)) := mul_il (by decide)
theorem fd_18 (i : Int) : binD .FloorDiv (.int i) (.int 18) = .ok (.int (i / 18)) := fdiv_ii (by decide) (by decide)
theorem mo_18 (i : Int) : binD .Mod (.int i) (.int 18) = .ok (.int (i % 18)) := mod_ii (by decide)
theorem ml_18 (j : Int) : binD .Mult (.int 18) (.int j) = .ok (.int (18 * j)) := mul_li (by decide)
theorem mr_18 (i : Int) : binD .Mult (.int i) (.int 18) = .ok (.int (i * 18)) := mul_il (by decide)
theorem fd_19 (i : Int) : binD .FloorDiv (.int i) (.int 19) = .ok (.int (i / 19)) := fdiv_ii (by decide) (by decide)
theorem mo_19 (i : Int) : binD .Mod (.int i) (.int 19) = .ok (.int (i % 19)) := mod_ii (by decide)
theorem ml_19 (j : Int) : binD .Mult (.int 19) (.int j) = .ok (.int (19 * j)) := mul_li (by decide)
theorem mr_19 (i : Int) : binD .Mult (.int i) (.int 19) = .ok (.int (i * 19)) := mul_il (by decide)
theorem fd_20 (i : Int) : binD .FloorDiv (.int i) (.int 20) = .ok (.int (i / 20)) := fdiv_ii (by decide) (by decide)
theorem mo_20 (i : Int) : binD .Mod (.int i) (.int 20) = .ok (.int (i % 20)) := mod_ii (by decide)
theorem ml_20 (j : Int) : binD .Mult (.int 20) (.int j) = .ok (.int (20 * j)) := mul_li (by decide)
theorem mr_20 (i : Int) : binD .Mult (.int i) (.int 20) = .ok (.int (i * 20)) := mul_il (by decide)
theorem fd_30 (i : Int) : binD .FloorDiv (.int i) (.int 30) = .ok (.int (i / 30)) := fdiv_ii (by decide) (by decide)
theorem mo_30 (i : Int) : binD .Mod (.int i) (.int 30) = .ok (.int (i % 30)) := mod_ii (by decide)
theorem ml_30 (j : Int) : binD .Mult (.int 30) (.int j) = .ok (.int (30 * j)) := mul_li (by decide)
theorem mr_30 (i : Int) : binD .Mult (.int i) (.int 30) = .ok (.int (i * 30)) := mul_il (by decide)
theorem fd_32 (i : Int) : binD .FloorDiv (.int i) (.int 32) = .ok (.int (i / 32)) := fdiv_ii (by decide) (by decide)
theorem mo_32 (i : Int) : binD .Mod (.int i) (.int 32) = .ok (.int (i % 32)) := mod_ii (by decide)
theorem ml_32 (j : Int) : binD .Mult (.int 32) (.int j) = .ok (.int (32 * j)) := mul_li (by decide)
theorem mr_32 (i : Int) : binD .Mult (.int i) (.int 32) = .ok (.int (i * 32)) := mul_il (by decide)
theorem fd_60 (i : Int) : binD .FloorDiv (.int i) (.int 60) = .ok (.int (i / 60)) := fdiv_ii (by decide) (by decide)
theorem mo_60 (i : Int) : binD .Mod (.int i) (.int 60) = .ok (.int (i % 60)) := mod_ii (by decide)
theorem ml_60 (j : Int) : binD .Mult (.int 60) (.int j) = .ok (.int (60 * j)) := mul_li (by decide)
theorem mr_60 (i : Int) : binD .Mult (.int i) (.int 60) = .ok (.int (i * 60)) := mul_il (by decide)
theorem fd_64 (i : Int) : binD .FloorDiv (.int i) (.int 64) = .ok (.int (i / 64)) := fdiv_ii (by decide) (by decide)
theorem mo_64 (i : Int) : binD .Mod (.int i) (.int 64) = .ok (.int (i % 64)) := mod_ii (by decide)
theorem ml_64 (j : Int) : binD .Mult (.int 64) (.int j) = .ok (.int (64 * j)) := mul_li (by decide)
theorem mr_64 (i : Int) : binD .Mult (.int i) (.int 64) = .ok (.int (i * 64)) := mul_il (by decide)
theorem fd_80 (i : Int) : binD .FloorDiv (.int i) (.int 80) = .ok (.int (i / 80)) := fdiv_ii (by decide) (by decide)
theorem mo_80 (i : Int) : binD .Mod (.int i) (.int 80) = .ok (.int (i % 80)) := mod_ii (by decide)
theorem ml_80 (j : Int) : binD .Mult (.int 80) (.int j) = .ok (.int (80 * j)) := mul_li (by decide)
theorem mr_80 (i : Int) : binD .Mult (.int i) (.int 80) = .ok (.int (i * 80)) := mul_il (by decide)
theorem fd_99 (i : Int) : binD .FloorDiv (.int i) (.int 99) = .ok (.int (i / 99)) := fdiv_ii (by decide) (by decide)
theorem mo_99 (i : Int) : binD .Mod (.int i) (.int 99) = .ok (.int (i % 99)) := mod_ii (by decide)
theorem ml_99 (j : Int) : binD .Mult (.int 99) (.int j) = .ok (.int (99 * j)) := mul_li (by decide)
theorem mr_99 (i : Int) : binD .Mult (.int i) (.int 99) = .ok (.int (i * 99)) := mul_il (by decide)
theorem fd_128 (i : Int) : binD .FloorDiv (.int i) (.int 128) = .ok (.int (i / 128)) := fdiv_ii (by decide) (by decide)
theorem mo_128 (i : Int) : binD .Mod (.int i) (.int 128) = .ok (.int (i % 128)) := mod_ii (by decide)
theorem ml_128 (j : Int) : binD .Mult (.int 128) (.int j) = .ok (.int (128 * j)) := mul_li (by decide)
theorem mr_128 (i : Int) : binD .Mult (.int i) (.int 128) = .ok (.int (i * 128)) := mul_il (by decide)
theorem fd_256 (i : Int) : binD .FloorDiv (.int i) (.int 256) = .ok (.int (i / 256)) := fdiv_ii (by decide) (by decide)
theorem mo_256 (i : Int) : binD .Mod (.int i) (.int 256) = .ok (.int (i % 256)) := mod_ii (by decide)
theorem ml_256 (j : Int) : binD .Mult (.int 256) (.int j) = .ok (.int (256 * j)) := mul_li (by decide)
theorem mr_256 (i : Int) : binD .Mult (.int i) (.int 256) = .ok (.int (i * 256)) := mul_il (by decide)
theorem fd_512 (i : Int) : binD .FloorDiv (.int i) (.int 512) = .ok (.int (i / 512)) := fdiv_ii (by decide) (by decide)
theorem mo_512 (i : Int) : binD .Mod (.int i) (.int 512) = .ok (.int (i % 512)) := mod_ii (by decide)
theorem ml_512 (j : Int) : binD .Mult (.int 512) (.int j) = .ok (.int (512 * j)) := mul_li (by decide)
theorem mr_512 (i : Int) : binD .Mult (.int i) (.int 512) = .ok (.int (i * 512)) := mul_il (by decide)
theorem fd_1024 (i : Int) : binD .FloorDiv (.int i) (.int 1024) = .ok (.int (i / 1024)) := fdiv_ii (by decide) (by decide)
theorem mo_1024 (i : Int) : binD .Mod (.int i) (.int 1024) = .ok (.int (i % 1024)) := mod_ii (by decide)
theorem ml_1024 (j : Int) : binD .Mult (.int 1024) (.int j) = .ok (.int (1024 * j)) := mul_li (by decide)
theorem mr_1024 (i : Int) : binD .Mult (.int i) (.int 1024) = .ok (.int (i * 1024)) := mul_il (by decide)
theorem fd_2048 (i : Int) : binD .FloorDiv (.int i) (.int 2048) = .ok (.int (i / 2048)) := fdiv_ii (by decide) (by decide)
theorem mo_2048 (i : Int) : binD .Mod (.int i) (.int 2048) = .ok (.int (i % 2048)) := mod_ii (by decide)
theorem ml_2048 (j : Int) : binD .Mult (.int 2048) (.int j) = .ok (.int (2048 * j)) := mul_li (by decide)
theorem mr_2048 (i : Int) : binD .Mult (.int i) (.int 2048) = .ok (.int (i * 2048)) := mul_il (by decide)
theorem fd_4096 (i : Int) : binD .FloorDiv (.int i) (.int 4096) = .ok (.int (i / 4096)) := fdiv_ii (by decide) (by decide)
theorem mo_4096 (i : Int) : binD .Mod (.int i) (.int 4096) = .ok (.int (i % 4096)) := mod_ii (by decide)
theorem ml_4096 (j : Int) : binD .Mult (.int 4096) (.int j) = .ok (.int (4096 * j)) := mul_li (by decide)
theorem mr_4096 (i : Int) : binD .Mult (.int i) (.int 4096) = .ok (.int (i * 4096)) := mul_il (by decide)
theorem fd_7919 (i : Int) : binD .FloorDiv (.int i) (.int 7919) = .ok (.int (i / 7919)) := fdiv_ii (by decide) (by decide)
theorem mo_7919 (i : Int) : binD .Mod (.int i) (.int 7919) = .ok (.int (i % 7919)) := mod_ii (by decide)
theorem ml_7919 (j : Int) : binD .Mult (.int 7919) (.int j) = .ok (.int (7919 * j)) := mul_li (by decide)
theorem mr_7919 (i : Int) : binD .Mult (.int i) (.int 7919) = .ok (.int (i * 7919)) := mul_il (by decide)
theorem fd_16384 (i : Int) : binD .FloorDiv (.int i) (.int 16384) = .ok (.int (i / 16384)) := fdiv_ii (by decide) (by decide)
theorem mo_16384 (i : Int) : binD .Mod (.int i) (.int 16384) = .ok (.int (i % 16384)) := mod_ii (by decide)
theorem ml_16384 (j : Int) : binD .Mult (.int 16384) (.int j) = .ok (.int (16384 * j)) := mul_li (by decide)
theorem mr_16384 (i : Int) : binD .Mult (.int i) (.int 16384) = .ok (.int (i * 16384)) := mul_il (by decide)
theorem fd_48271 (i : Int) : binD .FloorDiv (.int i) (.int 48271) = .ok (.int (i / 48271)) := fdiv_ii (by decide) (by decide)
theorem mo_48271 (i : Int) : binD .Mod (.int i) (.int 48271) = .ok (.int (i % 48271)) := mod_ii (by decide)
theorem ml_48271 (j : Int) : binD .Mult (.int 48271) (.int j) = .ok (.int (48271 * j)) := mul_li (by decide)
theorem mr_48271 (i : Int) : binD .Mult (.int i) (.int 48271) = .ok (.int (i * 48271)) := mul_il (by decide)
theorem fd_65536 (i : Int) : binD .FloorDiv (.int i) (.int 65536) = .ok (.int (i / 65536)) := fdiv_ii (by decide) (by decide)
theorem mo_65536 (i : Int) : binD .Mod (.int i) (.int 65536) = .ok (.int (i % 65536)) := mod_ii (by decide)
theorem ml_65536 (j : Int) : binD .Mult (.int 65536) (.int j) = .ok (.int (65536 * j)) := mul_li (by decide)
theorem mr_65536 (i : Int) : binD .Mult (.int i) (.int 65536) = .ok (.int (i * 65536)) := mul_il (by decide)
theorem fd_69621 (i : Int) : binD .FloorDiv (.int i) (.int 69621) = .ok (.int (i / 69621)) := fdiv_ii (by decide) (by decide)
theorem mo_69621 (i : Int) : binD .Mod (.int i) (.int 69621) = .ok (.int (i % 69621)) := mod_ii (by decide)
theorem ml_69621 (j : Int) : binD .Mult (.int 69621) (.int j) = .ok (.int (69621 * j)) := mul_li (by decide)
theorem mr_69621 (i : Int) : binD .Mult (.int i) (.int 69621) = .ok (.int (i * 69621)) := mul_il (by decide)
theorem fd_104729 (i : Int) : binD .FloorDiv (.int i) (.int 104729) = .ok (.int (i / 104729)) := fdiv_ii (by decide) (by decide)
theorem mo_104729 (i : Int) : binD .Mod (.int i) (.int 104729) = .ok (.int (i % 104729)) := mod_ii (by decide)
theorem ml_104729 (j : Int) : binD .Mult (.int 104729) (.int j) = .ok (.int (104729 * j)) := mul_li (by decide)
theorem mr_104729 (i : Int) : binD .Mult (.int i) (.int 104729) = .ok (.int (i * 104729)) := mul_il (by decide)
theorem fd_1048576 (i : Int) : binD .FloorDiv (.int i) (.int 1048576) = .ok (.int (i / 1048576)) := fdiv_ii (by decide) (by decide)
theorem mo_1048576 (i : Int) : binD .Mod (.int i) (.int 1048576) = .ok (.int (i % 1048576)) := mod_ii (by decide)
theorem ml_1048576 (j : Int) : binD .Mult (.int 1048576) (.int j) = .ok (.int (1048576 * j)) := mul_li (by decide)
theorem mr_1048576 (i : Int) : binD .Mult (.int i) (.int 1048576) = .ok (.int (i * 1048576)) := mul_il (by decide)
theorem mo_2147483629 (i : Int) : binD .Mod (.int i) (.int 2147483629) = .ok (.int (i % 2147483629)) := mod_ii (by decide)
theorem ml_2147483629 (j : Int) : binD .Mult (.int 2147483629) (.int j) = .ok (.int (2147483629 * j)) := mul_li (by decide)
theorem mr_2147483629 (i : Int) : binD .Mult (.int i) (.int 2147483629) = .ok (.int (i * 2147483629)) := mul_il (by decide)
theorem mo_2147483647 (i : Int) : binD .Mod (.int i) (.int 2147483647) = .ok (.int (i % 2147483647)) := mod_ii (by decide)
theorem ml_2147483647 (j : Int) : binD .Mult (.int 2147483647) (.int j) = .ok (.int (2147483647 * j)) := mul_li (by decide)
theorem mr_2147483647 (i : Int) : binD .Mult (.int i) (.int 2147483647) = .ok (.int (i * 2147483647)) := mul_il (by decide)
/-! ### comprehensions -/
theorem lc_gen {tg : Tg} {c e : Env → R D} {ws : List Nat} {b : D → Env} {p : D → Bool} {f : D → D} : ∀ (ds acc : List D), (∀ d ∈ ds, bindT tg d (wipeE env ws) = .ok (b d)) → (∀ d ∈ ds, c (b d) = .ok (.bool (p d))) → (∀ d ∈ ds, p d = true → e (b d) = .ok (f d)) → acc.length + ds.length ≤ lim →
    lcLoop tg c e ws env ds acc = .ok (.list (acc ++ (ds.filter p).map f))
  | [], acc, _, _, _, _ => by rw [lcLoop, List.filter_nil, List.map_nil, List.append_nil]
  | d :: ds, acc, hb, hc, he, hl => by
    have hlen : acc.length + (ds.length + 1) ≤ lim := hl
    rw [lcLoop, hb d List.mem_cons_self, bind_ok, hc d List.mem_cons_self, bind_ok]
    cases hp : p d with
    | true =>
      dsimp only
      rw [he d List.mem_cons_self hp, bind_ok, if_pos (by omega), lc_gen ds _ (fun x h => hb x (List.mem_cons_of_mem _ h)) (fun x h => hc x (List.mem_cons_of_mem _ h)) (fun x h => he x (List.mem_cons_of_mem _ h)) (by rw [List.length_append, List.length_singleton]; omega)]
      rw [List.filter_cons, if_pos hp, List.map_cons, List.append_assoc]
      rfl
    | false =>
      dsimp only
      rw [lc_gen ds _ (fun x h => hb x (List.mem_cons_of_mem _ h)) (fun x h => hc x (List.mem_cons_of_mem _ h)) (fun x h => he x (List.mem_cons_of_mem _ h)) (by omega)]
      rw [List.filter_cons, if_neg (by rw [hp]; exact Bool.false_ne_true)]
/-- without a condition -/
theorem lc_all {tg : Tg} {c e : Env → R D} {ws : List Nat} {b : D → Env} {f : D → D} (ds : List D) (hb : ∀ d ∈ ds, bindT tg d (wipeE env ws) = .ok (b d)) (hc : ∀ env, c env = .ok (.bool true)) (he : ∀ d ∈ ds, e (b d) = .ok (f d)) (hl : ds.length ≤ lim) :
    lcLoop tg c e ws env ds [] = .ok (.list (ds.map f)) := by
  rw [lc_gen (p := fun _ => true) ds [] hb (fun d _ => hc _) (fun d h _ => he d h) (by simpa using hl)]
  rw [List.filter_eq_self.mpr (fun _ _ => rfl)]
  rfl
theorem noExc_ok (d : D) : noExc (.ok d) = .ok d := rfl
/-! ### for -/
/-- an accumulator a, told by I; step gives the next, or what is given back -/
theorem for_gen {α : Type} {tg : Tg} {body : Env → RS} (I : α → Env → Prop) (step : α → D → α ⊕ D) : ∀ (ds : List D) (a : α) (env : Env), I a env →
    (∀ d ∈ ds, ∀ a env, I a env → ∃ env1, bindT tg d env = .ok env1 ∧ match step a d with
      | .inl a' => ∃ env2, (body env1 = .nx env2 ∨ body env1 = .ct env2) ∧ I a' env2
      | .inr r => body env1 = .rt r) →
    match ds.foldl (fun s d => match s with | .inl a => step a d | .inr r => .inr r) (Sum.inl a) with
      | .inl a' => ∃ env', forLoop tg body ds env = .nx env' ∧ I a' env'
      | .inr r => forLoop tg body ds env = .rt r
  | [], a, env, h, _ => ⟨env, rfl, h⟩
  | d :: ds, a, env, h, hs => by
    obtain ⟨env1, e1, h1⟩ := hs d List.mem_cons_self a env h
    have stay : ∀ (r : D) (ds : List D), ds.foldl (fun (s : α ⊕ D) d => match s with | .inl a => step a d | .inr r => .inr r) (Sum.inr r) = Sum.inr r := fun r ds => by
      induction ds with
      | nil => rfl
      | cons _ _ ih => exact ih
    rw [List.foldl_cons]
    cases e : step a d with
    | inr r =>
      rw [e] at h1
      dsimp only
      rw [e, stay]
      show forLoop tg body (d :: ds) env = .rt r
      rw [forLoop, e1]
      dsimp only
      rw [h1]
    | inl a' =>
      rw [e] at h1
      obtain ⟨env2, h2, h3⟩ := h1
      have ih := for_gen I step ds a' env2 h3 fun x hx => hs x (List.mem_cons_of_mem _ hx)
      have ef : forLoop tg body (d :: ds) env = forLoop tg body ds env2 := by
        rw [forLoop, e1]
        dsimp only
        rcases h2 with h2 | h2 <;> rw [h2]
      dsimp only
      rw [e, ef]
      exact ih
/-- no giving back -/
theorem for_fold {α : Type} {tg : Tg} {body : Env → RS} (I : α → Env → Prop) (step : α → D → α) : ∀ (ds : List D) (a : α) (env : Env), I a env →
    (∀ d ∈ ds, ∀ a env, I a env → ∃ env1, bindT tg d env = .ok env1 ∧ ∃ env2, (body env1 = .nx env2 ∨ body env1 = .ct env2) ∧ I (step a d) env2) →
    ∃ env', forLoop tg body ds env = .nx env' ∧ I (ds.foldl step a) env'
  | [], a, env, h, _ => ⟨env, rfl, h⟩
  | d :: ds, a, env, h, hs => by
    obtain ⟨env1, e1, env2, h2, h3⟩ := hs d List.mem_cons_self a env h
    obtain ⟨env', h4, h5⟩ := for_fold I step ds (step a d) env2 h3 fun x hx => hs x (List.mem_cons_of_mem _ hx)
    refine ⟨env', ?_, h5⟩
    rw [forLoop, e1]
    dsimp only
    rcases h2 with h2 | h2 <;> rw [h2] <;> exact h4
/-- a test of all, r given back at the first that is not so -/
theorem for_all {tg : Tg} {body : Env → RS} {r : D} (I : Env → Prop) (p : D → Bool) : ∀ (ds : List D) (env : Env), I env →
    (∀ d ∈ ds, ∀ env, I env → ∃ env1, bindT tg d env = .ok env1 ∧ if p d then ∃ env2, (body env1 = .nx env2 ∨ body env1 = .ct env2) ∧ I env2 else body env1 = .rt r) →
    if ds.all p then ∃ env', forLoop tg body ds env = .nx env' ∧ I env' else forLoop tg body ds env = .rt r
  | [], env, h, _ => ⟨env, rfl, h⟩
  | d :: ds, env, h, hs => by
    obtain ⟨env1, e1, h1⟩ := hs d List.mem_cons_self env h
    rw [List.all_cons, forLoop, e1]
    cases hp : p d with
    | true =>
      rw [hp, if_pos rfl] at h1
      obtain ⟨env2, h2, h3⟩ := h1
      have ih := for_all I p ds env2 h3 fun x hx => hs x (List.mem_cons_of_mem _ hx)
      rw [Bool.true_and]
      dsimp only
      rcases h2 with h2 | h2 <;> rw [h2] <;> exact ih
    | false =>
      rw [hp, if_neg Bool.false_ne_true] at h1
      rw [Bool.false_and, if_neg Bool.false_ne_true]
      dsimp only
      rw [h1]
end
end Ev
/-! EvV: the rules of the evaluator as one. -/
namespace Ev
open PySem PySem.Spec PyProof.Rows L2
theorem evs : type_of% (And.intro @ev_cst (And.intro @ev_slot (And.intro @ev_glob (And.intro @ev_tup (And.intro @ev_lst (And.intro @ev_bin (And.intro @ev_neg (And.intro @ev_cmp (And.intro @ev_cmp2 (And.intro @ev_band (And.intro @ev_bor (And.intro @ev_bnot (And.intro @ev_ite (And.intro @ev_ix (And.intro @ev_cut (And.intro @ev_rev (And.intro @ev_call (And.intro @ev_blt (And.intro @ev_meth (And.intro @ev_isi (And.intro @evL_nil (And.intro @evL_cons (And.intro @evO_none (And.intro @evO_some (And.intro @evI_sq (And.intro @evI_enm (And.intro @evI_rng (And.intro @evI_zip (And.intro @ex_set (And.intro @ex_asg (And.intro @ex_exp (And.intro @ex_ret (And.intro @ex_ret0 (And.intro @ex_ife (And.intro @ex_fz (And.intro @ex_raise (And.intro @ex_cont (And.intro @ex_brk (And.intro @ex_pass (And.intro @exs_nil (And.intro @exs_cons (And.intro @md_false (And.intro @bind_ok (And.intro @bind_exc (And.intro @getS0 (And.intro @getSs (And.intro @getE0 (And.intro @getEs (And.intro @setE0 (And.intro @setEs (And.intro @rel_nil (And.intro @rel_none (And.intro @rel_dat (And.intro @rel_own (And.intro @toS_ok (And.intro @toS_exc (And.intro @seq_nx (And.intro @seq_rt (And.intro @seq_bk (And.intro @seq_ct (And.intro @seq_exc (And.intro @out_rt (And.intro @out_nx (And.intro @out_exc (And.intro @toE_ok (And.intro @bindT_nm (And.intro @bindT_tp (And.intro @bindTs_nil (And.intro @bindTs_cons (And.intro @add_ii (And.intro @sub_ii (And.intro @lt_ii (And.intro @le_ii (And.intro @gt_ii (And.intro @ge_ii (And.intro @eq_ii (And.intro @ne_ii (And.intro @eq_bb (And.intro @ne_bb (And.intro @len_t (And.intro @len_l (And.intro @tup_l (And.intro @tup_t (And.intro @int_b (And.intro @truth_b (And.intro @truth_l (And.intro @truth_t (And.intro @md_true (And.intro @and_b (And.intro @and_t (And.intro @and_f (And.intro @or_b (And.intro @or_t (And.intro @or_f (And.intro @not_b (And.intro @neg_i (And.intro @ite_t (And.intro @ite_f (And.intro @ite_b (And.intro @if_t (And.intro @if_f (And.intro @cons_ok (And.intro @int_ok (And.intro @for_ok (And.intro @seq_t (And.intro @seq_l (And.intro @seq_s (And.intro @enm_t (And.intro @enm_l (And.intro @tup_0 (And.intro @tup_1 (And.intro @tup_2 (And.intro @tup_3 (And.intro @tup_4 (And.intro @tup_5 (And.intro @tup_6 (And.intro @tup_7 (And.intro @lst_0 (And.intro @lst_1 (And.intro @lst_2 (And.intro @lst_3 (And.intro @isi_ss (And.intro @isi_st (And.intro @isi_tt (And.intro @isi_ts (And.intro @isi_bb (And.intro @is_nn (And.intro @isnot_nn (And.intro @is_in (And.intro @isnot_in (And.intro @is_tn (And.intro @isnot_tn (And.intro @isnot_bb (And.intro @is_bb (And.intro @st_1_1 (And.intro @st_2_1 (And.intro @st_2_2 (And.intro @st_3_1 (And.intro @st_3_2 (And.intro @st_3_3 (And.intro @st_4_1 (And.intro @st_4_2 (And.intro @st_4_3 (And.intro @st_4_4 (And.intro @st_5_1 (And.intro @st_5_2 (And.intro @st_5_3 (And.intro @st_5_4 (And.intro @st_5_5 (And.intro @st_6_1 (And.intro @st_6_2 (And.intro @st_6_3 (And.intro @st_6_4 (And.intro @st_6_5 (And.intro @st_7_1 (And.intro @st_7_2 (And.intro @st_7_3 (And.intro @st_7_4 (And.intro @st_7_5 (And.intro @st_8_1 (And.intro @st_8_2 (And.intro @st_8_3 (And.intro @st_8_4 (And.intro @st_8_5 (And.intro @st_9_1 (And.intro @st_9_2 (And.intro @st_9_3 (And.intro @st_9_4 (And.intro @st_9_5 (And.intro @st_10_1 (And.intro @st_10_2 (And.intro @st_10_3 (And.intro @st_10_4 (And.intro @st_10_5 (And.intro @st_11_1 (And.intro @st_11_2 (And.intro @st_11_3 (And.intro @st_11_4 (And.intro @st_11_5 (And.intro @st_12_1 (And.intro @st_12_2 (And.intro @st_12_3 (And.intro @st_12_4 (And.intro @st_12_5 (And.intro @st_13_1 (And.intro @st_13_2 (And.intro @st_13_3 (And.intro @st_13_4 (And.intro @st_13_5 (And.intro @st_14_1 (And.intro @st_14_2 (And.intro @st_14_3 (And.intro @st_14_4 (And.intro @st_14_5 (And.intro @st_15_1 (And.intro @st_15_2 (And.intro @st_15_3 (And.intro @st_15_4 (And.intro @st_15_5 (And.intro @st_16_1 (And.intro @st_16_2 (And.intro @st_16_3 (And.intro @st_16_4 (And.intro @st_16_5 (And.intro @st_17_1 (And.intro @st_17_2 (And.intro @st_17_3 (And.intro @st_17_4 (And.intro @st_17_5 (And.intro @st_18_1 (And.intro @st_18_2 (And.intro @st_18_3 (And.intro @st_18_4 (And.intro @st_18_5 (And.intro @fd_1 (And.intro @mo_1 (And.intro @ml_1 (And.intro @mr_1 (And.intro @fd_2 (And.intro @mo_2 (And.intro @ml_2 (And.intro @mr_2 (And.intro @fd_3 (And.intro @mo_3 (And.intro @ml_3 (And.intro @mr_3 (And.intro @fd_4 (And.intro @mo_4 (And.intro @ml_4 (And.intro @mr_4 (And.intro @fd_5 (And.intro @mo_5 (And.intro @ml_5 (And.intro @mr_5 (And.intro @fd_6 (And.intro @mo_6 (And.intro @ml_6 (And.intro @mr_6 (And.intro @fd_7 (And.intro @mo_7 (And.intro @ml_7 (And.intro @mr_7 (And.intro @fd_8 (And.intro @mo_8 (And.intro @ml_8 (And.intro @mr_8 (And.intro @fd_9 (And.intro @mo_9 (And.intro @ml_9 (And.intro @mr_9 (And.intro @fd_10 (And.intro @mo_10 (And.intro @ml_10 (And.intro @mr_10 (And.intro @fd_11 (And.intro @mo_11 (And.intro @ml_11 (And.intro @mr_11 (And.intro @fd_12 (And.intro @mo_12 (And.intro @ml_12 (And.intro @mr_12 (And.intro @fd_13 (And.intro @mo_13 (And.intro @ml_13 (And.intro @mr_13 (And.intro @fd_14 (And.intro @mo_14 (And.intro @ml_14 (And.intro @mr_14 (And.intro @fd_15 (And.intro @mo_15 (And.intro @ml_15 (And.intro @mr_15 (And.intro @fd_16 (And.intro @mo_16 (And.intro @ml_16 (And.intro @mr_16 (And.intro @fd_17 (And.intro @mo_17 (And.intro @ml_17 (And.intro @mr_17 (And.intro @fd_18 (And.intro @mo_18 (And.intro @ml_18 (And.intro @mr_18 (And.intro @fd_19 (And.intro @mo_19 (And.intro @ml_19 (And.intro @mr_19 (And.intro @fd_20 (And.intro @mo_20 (And.intro @ml_20 (And.intro @mr_20 (And.intro @fd_30 (And.intro @mo_30 (And.intro @ml_30 (And.intro @mr_30 (And.intro @fd_32 (And.intro @mo_32 (And.intro @ml_32 (And.intro @mr_32 (And.intro @fd_60 (And.intro @mo_60 (And.intro @ml_60 (And.intro @mr_60 (And.intro @fd_64 (And.intro @mo_64 (And.intro @ml_64 (And.intro @mr_64 (And.intro @fd_80 (And.intro @mo_80 (And.intro @ml_80 (And.intro @mr_80 (And.intro @fd_99 (And.intro @mo_99 (And.intro @ml_99 (And.intro @mr_99 (And.intro @fd_128 (And.intro @mo_128 (And.intro @ml_128 (And.intro @mr_128 (And.intro @fd_256 (And.intro @mo_256 (And.intro @ml_256 (And.intro @mr_256 (And.intro @fd_512 (And.intro @mo_512 (And.intro @ml_512 (And.intro @mr_512 (And.intro @fd_1024 (And.intro @mo_1024 (And.intro @ml_1024 (And.intro @mr_1024 (And.intro @fd_2048 (And.intro @mo_2048 (And.intro @ml_2048 (And.intro @mr_2048 (And.intro @fd_4096 (And.intro @mo_4096 (And.intro @ml_4096 (And.intro @mr_4096 (And.intro @fd_7919 (And.intro @mo_7919 (And.intro @ml_7919 (And.intro @mr_7919 (And.intro @fd_16384 (And.intro @mo_16384 (And.intro @ml_16384 (And.intro @mr_16384 (And.intro @fd_48271 (And.intro @mo_48271 (And.intro @ml_48271 (And.intro @mr_48271 (And.intro @fd_65536 (And.intro @mo_65536 (And.intro @ml_65536 (And.intro @mr_65536 (And.intro @fd_69621 (And.intro @mo_69621 (And.intro @ml_69621 (And.intro @mr_69621 (And.intro @fd_104729 (And.intro @mo_104729 (And.intro @ml_104729 (And.intro @mr_104729 (And.intro @fd_1048576 (And.intro @mo_1048576 (And.intro @ml_1048576 (And.intro @mr_1048576 (And.intro @mo_2147483629 (And.intro @ml_2147483629 (And.intro @mr_2147483629 (And.intro @mo_2147483647 (And.intro @ml_2147483647 (And.intro @mr_2147483647 @rel_o2)))))))))))))))))))))))))))))))))))))))))))))))))))))))))))))))))))))))))))))))))))))))))))))))))))))))))))))))))))))))))))))))))))))))))))))))))))))))))))))))))))))))))))))))))))))))))))))))))))))))))))))))))))))))))))))))))))))))))))))))))))))))))))))))))))))))))))))))))))))))))))))))))))))))))))))))))))))))))))))))))))))))))))))))))))))))))))))))))))))))))))))))))))))))) := And.intro @ev_cst (And.intro @ev_slot (And.intro @ev_glob (And.intro @ev_tup (And.intro @ev_lst (And.intro @ev_bin (And.intro @ev_neg (And.intro @ev_cmp (And.intro @ev_cmp2 (And.intro @ev_band (And.intro @ev_bor (And.intro @ev_bnot (And.intro @ev_ite (And.intro @ev_ix (And.intro @ev_cut (And.intro @ev_rev (And.intro @ev_call (And.intro @ev_blt (And.intro @ev_meth (And.intro @ev_isi (And.intro @evL_nil (And.intro @evL_cons (And.intro @evO_none (And.intro @evO_some (And.intro @evI_sq (And.intro @evI_enm (And.intro @evI_rng (And.intro @evI_zip (And.intro @ex_set (And.intro @ex_asg (And.intro @ex_exp (And.intro @ex_ret (And.intro @ex_ret0 (And.intro @ex_ife (And.intro @ex_fz (And.intro @ex_raise (And.intro @ex_cont (And.intro @ex_brk (And.intro @ex_pass (And.intro @exs_nil (And.intro @exs_cons (And.intro @md_false (And.intro @bind_ok (And.intro @bind_exc (And.intro @getS0 (And.intro @getSs (And.intro @getE0 (And.intro @getEs (And.intro @setE0 (And.intro @setEs (And.intro @rel_nil (And.intro @rel_none (And.intro @rel_dat (And.intro @rel_own (And.intro @toS_ok (And.intro @toS_exc (And.intro @seq_nx (And.intro @seq_rt (And.intro @seq_bk (And.intro @seq_ct (And.intro @seq_exc (And.intro @out_rt (And.intro @out_nx (And.intro @out_exc (And.intro @toE_ok (And.intro @bindT_nm (And.intro @bindT_tp (And.intro @bindTs_nil (And.intro @bindTs_cons (And.intro @add_ii (And.intro @sub_ii (And.intro @lt_ii (And.intro @le_ii (And.intro @gt_ii (And.intro @ge_ii (And.intro @eq_ii (And.intro @ne_ii (And.intro @eq_bb (And.intro @ne_bb (And.intro @len_t (And.intro @len_l (And.intro @tup_l (And.intro @tup_t (And.intro @int_b (And.intro @truth_b (And.intro @truth_l (And.intro @truth_t (And.intro @md_true (And.intro @and_b (And.intro @and_t (And.intro @and_f (And.intro @or_b (And.intro @or_t (And.intro @or_f (And.intro @not_b (And.intro @neg_i (And.intro @ite_t (And.intro @ite_f (And.intro @ite_b (And.intro @if_t (And.intro @if_f (And.intro @cons_ok (And.intro @int_ok (And.intro @for_ok (And.intro @seq_t (And.intro @seq_l (And.intro @seq_s (And.intro @enm_t (And.intro @enm_l (And.intro @tup_0 (And.intro @tup_1 (And.intro @tup_2 (And.intro @tup_3 (And.intro @tup_4 (And.intro @tup_5 (And.intro @tup_6 (And.intro @tup_7 (And.intro @lst_0 (And.intro @lst_1 (And.intro @lst_2 (And.intro @lst_3 (And.intro @isi_ss (And.intro @isi_st (And.intro @isi_tt (And.intro @isi_ts (And.intro @isi_bb (And.intro @is_nn (And.intro @isnot_nn (And.intro @is_in (And.intro @isnot_in (And.intro @is_tn (And.intro @isnot_tn (And.intro @isnot_bb (And.intro @is_bb (And.intro @st_1_1 (And.intro @st_2_1 (And.intro @st_2_2 (And.intro @st_3_1 (And.intro @st_3_2 (And.intro @st_3_3 (And.intro @st_4_1 (And.intro @st_4_2 (And.intro @st_4_3 (And.intro @st_4_4 (And.intro @st_5_1 (And.intro @st_5_2 (And.intro @st_5_3 (And.intro @st_5_4 (And.intro @st_5_5 (And.intro @st_6_1 (And.intro @st_6_2 (And.intro @st_6_3 (And.intro @st_6_4 (And.intro @st_6_5 (And.intro @st_7_1 (And.intro @st_7_2 (And.intro @st_7_3 (And.intro @st_7_4 (And.intro @st_7_5 (And.intro @st_8_1 (And.intro @st_8_2 (And.intro @st_8_3 (And.intro @st_8_4 (And.intro @st_8_5 (And.intro @st_9_1 (And.intro @st_9_2 (And.intro @st_9_3 (And.intro @st_9_4 (And.intro @st_9_5 (And.intro @st_10_1 (And.intro @st_10_2 (And.intro @st_10_3 (And.intro @st_10_4 (And.intro @st_10_5 (And.intro @st_11_1 (And.intro @st_11_2 (And.intro @st_11_3 (And.intro @st_11_4 (And.intro @st_11_5 (And.intro @st_12_1 (And.intro @st_12_2 (And.intro @st_12_3 (And.intro @st_12_4 (And.intro @st_12_5 (And.intro @st_13_1 (And.intro @st_13_2 (And.intro @st_13_3 (And.intro @st_13_4 (And.intro @st_13_5 (And.intro @st_14_1 (And.intro @st_14_2 (And.intro @st_14_3 (And.intro @st_14_4 (And.intro @st_14_5 (And.intro @st_15_1 (And.intro @st_15_2 (And.intro @st_15_3 (And.intro @st_15_4 (And.intro @st_15_5 (And.intro @st_16_1 (And.intro @st_16_2 (And.intro @st_16_3 (And.intro @st_16_4 (And.intro @st_16_5 (And.intro @st_17_1 (And.intro @st_17_2 (And.intro @st_17_3 (And.intro @st_17_4 (And.intro @st_17_5 (And.intro @st_18_1 (And.intro @st_18_2 (And.intro @st_18_3 (And.intro @st_18_4 (And.intro @st_18_5 (And.intro @fd_1 (And.intro @mo_1 (And.intro @ml_1 (And.intro @mr_1 (And.intro @fd_2 (And.intro @mo_2 (And.intro @ml_2 (And.intro @mr_2 (And.intro @fd_3 (And.intro @mo_3 (And.intro @ml_3 (And.intro @mr_3 (And.intro @fd_4 (And.intro @mo_4 (And.intro @ml_4 (And.intro @mr_4 (And.intro @fd_5 (And.intro @mo_5 (And.intro @ml_5 (And.intro @mr_5 (And.intro @fd_6 (And.intro @mo_6 (And.intro @ml_6 (And.intro @mr_6 (And.intro @fd_7 (And.intro @mo_7 (And.intro @ml_7 (And.intro @mr_7 (And.intro @fd_8 (And.intro @mo_8 (And.intro @ml_8 (And.intro @mr_8 (And.intro @fd_9 (And.intro @mo_9 (And.intro @ml_9 (And.intro @mr_9 (And.intro @fd_10 (And.intro @mo_10 (And.intro @ml_10 (And.intro @mr_10 (And.intro @fd_11 (And.intro @mo_11 (And.intro @ml_11 (And.intro @mr_11 (And.intro @fd_12 (And.intro @mo_12 (And.intro @ml_12 (And.intro @mr_12 (And.intro @fd_13 (And.intro @mo_13 (And.intro @ml_13 (And.intro @mr_13 (And.intro @fd_14 (And.intro @mo_14 (And.intro @ml_14 (And.intro @mr_14 (And.intro @fd_15 (And.intro @mo_15 (And.intro @ml_15 (And.intro @mr_15 (And.intro @fd_16 (And.intro @mo_16 (And.intro @ml_16 (And.intro @mr_16 (And.intro @fd_17 (And.intro @mo_17 (And.intro @ml_17 (And.intro @mr_17 (And.intro @fd_18 (And.intro @mo_18 (And.intro @ml_18 (And.intro @mr_18 (And.intro @fd_19 (And.intro @mo_19 (And.intro @ml_19 (And.intro @mr_19 (And.intro @fd_20 (And.intro @mo_20 (And.intro @ml_20 (And.intro @mr_20 (And.intro @fd_30 (And.intro @mo_30 (And.intro @ml_30 (And.intro @mr_30 (And.intro @fd_32 (And.intro @mo_32 (And.intro @ml_32 (And.intro @mr_32 (And.intro @fd_60 (And.intro @mo_60 (And.intro @ml_60 (And.intro @mr_60 (And.intro @fd_64 (And.intro @mo_64 (And.intro @ml_64 (And.intro @mr_64 (And.intro @fd_80 (And.intro @mo_80 (And.intro @ml_80 (And.intro @mr_80 (And.intro @fd_99 (And.intro @mo_99 (And.intro @ml_99 (And.intro @mr_99 (And.intro @fd_128 (And.intro @mo_128 (And.intro @ml_128 (And.intro @mr_128 (And.intro @fd_256 (And.intro @mo_256 (And.intro @ml_256 (And.intro @mr_256 (And.intro @fd_512 (And.intro @mo_512 (And.intro @ml_512 (And.intro @mr_512 (And.intro @fd_1024 (And.intro @mo_1024 (And.intro @ml_1024 (And.intro @mr_1024 (And.intro @fd_2048 (And.intro @mo_2048 (And.intro @ml_2048 (And.intro @mr_2048 (And.intro @fd_4096 (And.intro @mo_4096 (And.intro @ml_4096 (And.intro @mr_4096 (And.intro @fd_7919 (And.intro @mo_7919 (And.intro @ml_7919 (And.intro @mr_7919 (And.intro @fd_16384 (And.intro @mo_16384 (And.intro @ml_16384 (And.intro @mr_16384 (And.intro @fd_48271 (And.intro @mo_48271 (And.intro @ml_48271 (And.intro @mr_48271 (And.intro @fd_65536 (And.intro @mo_65536 (And.intro @ml_65536 (And.intro @mr_65536 (And.intro @fd_69621 (And.intro @mo_69621 (And.intro @ml_69621 (And.intro @mr_69621 (And.intro @fd_104729 (And.intro @mo_104729 (And.intro @ml_104729 (And.intro @mr_104729 (And.intro @fd_1048576 (And.intro @mo_1048576 (And.intro @ml_1048576 (And.intro @mr_1048576 (And.intro @mo_2147483629 (And.intro @ml_2147483629 (And.intro @mr_2147483629 (And.intro @mo_2147483647 (And.intro @ml_2147483647 (And.intro @mr_2147483647 @rel_o2)))))))))))))))))))))))))))))))))))))))))))))))))))))))))))))))))))))))))))))))))))))))))))))))))))))))))))))))))))))))))))))))))))))))))))))))))))))))))))))))))))))))))))))))))))))))))))))))))))))))))))))))))))))))))))))))))))))))))))))))))))))))))))))))))))))))))))))))))))))))))))))))))))))))))))))))))))))))))))))))))))))))))))))))))))))))))))))))))))))))))))))))))))))))
end Ev
/-! EvP2: names, lines, trees told. -/
namespace Ev
open PySem PySem.Spec PyProof.Rows L2
def isNameS (z : Str) : Bool := decide (1 ≤ z.length) && (decide (z.length ≤ 4) && z.cps.toList.all fun c => decide (97 ≤ c) && decide (c ≤ 122))
def isLineS (z : Str) : Bool := decide (z.length ≤ 12) && z.cps.toList.all fun c => decide (32 ≤ c) && decide (c ≤ 126)
def isNameD : D → Bool
  | .str z => isNameS z
  | _ => false
def isLineD : D → Bool
  | .str z => isLineS z
  | _ => false
def lets : Str := "abcdefghijklmnopqrstuvwxyz"
theorem lets_is : lets.cps.toList = (List.range 26).map (97 + ·) := by decide +kernel
theorem mem_lets (c : Nat) : decide (c ∈ lets.cps.toList) = (decide (97 ≤ c) && decide (c ≤ 122)) := by
  rw [lets_is, Bool.eq_iff_iff, decide_eq_true_eq, Bool.and_eq_true, decide_eq_true_eq, decide_eq_true_eq, List.mem_map]
  constructor
  · rintro ⟨a, h, rfl⟩
    have := List.mem_range.mp h
    omega
  · rintro ⟨h1, h2⟩
    exact ⟨c - 97, List.mem_range.mpr (by omega), by omega⟩
/-- a text that is short enough to be looked at -/
def sOk : D → Prop
  | .str z => z.length ≤ lim
  | .dict _ => False
  | _ => True
theorem lt1 (a b : Nat) : decide ([a] < [b]) = decide (a < b) := by
  rw [Bool.eq_iff_iff, decide_eq_true_eq, decide_eq_true_eq]
  constructor
  · intro h
    cases h with
    | rel h => exact h
    | cons h => cases h
  · exact fun h => .rel h
theorem le_chr (a b : Nat) (x y : Str) (hx : x = ⟨#[a]⟩) (hy : y = ⟨#[b]⟩) : cmpD .LtE (.str x) (.str y) = .ok (.bool (decide (a ≤ b))) := by
  subst hx hy
  show R.ok (PyData.bool (!decide ([b] < [a]))) = _
  rw [lt1]
  congr 2
  rw [Bool.eq_iff_iff, Bool.not_eq_true', decide_eq_false_iff_not, decide_eq_true_eq]
  omega
theorem strL_len (z : Str) : (strL z).length = z.length := by unfold strL; rw [List.length_map, Array.length_toList]; rfl
theorem strL_bools (z : Str) (f : Nat → Bool) (h : D → D) (hf : ∀ c, h (.str ⟨#[c]⟩) = .bool (f c)) : (strL z).map h = (z.cps.toList.map f).map PyData.bool := by
  unfold strL
  rw [List.map_map, List.map_map]
  exact List.map_congr_left fun c _ => hf c
theorem strL_mem {z : Str} {d : D} (h : d ∈ strL z) : ∃ c, d = .str ⟨#[c]⟩ := by
  unfold strL at h
  obtain ⟨c, _, e⟩ := List.mem_map.mp h
  exact ⟨c, e.symm⟩
theorem all_id {α : Type} (l : List α) (f : α → Bool) : (l.map f).all id = l.all f := by
  rw [List.all_map]; rfl
section
variable {g : G}
/-- what is looked at sign by sign -/
theorem all_signs {env : Env} {i : Nat} {elt : E} {z : Str} {f : Nat → Bool} (he : ∀ c, ev g false elt (List.set (wipeE env [i]) i (some (.dat (.str ⟨#[c]⟩)))) = .ok (.bool (f c))) (hz : z.length ≤ lim) :
    lcLoop (.nm i) (fun e => noExc (ev g true (.cst (.bool true)) e)) (fun e => noExc (ev g false elt e)) [i] env (strL z) [] = .ok (.list ((z.cps.toList.map f).map PyData.bool)) := by
  let h : D → D := fun d => match d with | .str w => .bool (f (w.cps.toList.headD 0)) | _ => .none
  have h1 : ∀ c, h (.str ⟨#[c]⟩) = .bool (f c) := fun c => rfl
  have q := lc_all (tg := .nm i) (c := fun e => noExc (ev g true (.cst (.bool true)) e)) (e := fun e => noExc (ev g false elt e)) (ws := [i]) (env := env) (b := fun d => List.set (wipeE env [i]) i (some (.dat d))) (f := h) (strL z) (fun _ _ => rfl) (fun _ => rfl) (fun d hd => by
    obtain ⟨c, rfl⟩ := strL_mem hd
    show noExc (ev g false elt (List.set (wipeE env [i]) i (some (.dat (.str ⟨#[c]⟩))))) = _
    rw [he c, h1]
    rfl) (by rw [strL_len]; exact hz)
  rw [q, strL_bools z f h h1]
/-- a walk over the signs of a text, as a test of all -/
theorem lc_signs {env : Env} {i : Nat} {it elt : E} {z : Str} {f : Nat → Bool} (hi : ev g false it env = .ok (.str z)) (he : ∀ c, ev g false elt (List.set (wipeE env [i]) i (some (.dat (.str ⟨#[c]⟩)))) = .ok (.bool (f c))) (hz : z.length ≤ lim) :
    ev g false (.blt .all [.lc [i] (.nm i) (.sq it) (.cst (.bool true)) elt]) env = .ok (.bool (z.cps.toList.all f)) := by
  simp only [ev_blt, evL_cons, evL_nil, ev_lc, md_false, evI_sq, hi, bind_ok, seq_s]
  rw [all_signs he hz]
  show bltD .all [.list ((z.cps.toList.map f).map PyData.bool)] = _
  rw [all_l, all_id]
theorem int_le_nat (a b : Nat) : decide ((a : Int) ≤ (b : Int)) = decide (a ≤ b) := by
  rw [Bool.eq_iff_iff, decide_eq_true_eq, decide_eq_true_eq]; omega
theorem is_name_ok (h1 : g.gl "MOST_NAME" = some (.int 4)) (h2 : g.gl "LETTERS" = some (.str lets)) (d : D) (hd : sOk d) : (exs g B.is_name (startE 2 [d])).out = .ok (.bool (isNameD d)) := by
  cases d with
  | str z =>
    have hz : z.length ≤ lim := hd
    have e := lc_signs (g := g) (env := [some (.dat (.str z)), none]) (i := 1) (it := .slot 0) (elt := .cmp .In (.slot 1) (.glob "LETTERS")) (z := z) (f := fun c => decide (97 ≤ c) && decide (c ≤ 122)) rfl (fun c => by
      simp only [evs, List.cons_append, List.nil_append, glob_ok h2, wipeE]
      show R.ok (PyData.bool (decide (c ∈ lets.cps.toList))) = _
      rw [mem_lets]) hz
    simp only [B.is_name, exs_cons, ex_ret, ev_band, st_2_1, rel_dat, rel_none, rel_nil]
    rw [e]
    simp only [ev_isi, ev_cmp2, ev_blt, ev_cst, ev_slot, ev_glob, evL_cons, evL_nil, getS0, md_false, bind_ok, cons_ok, len_s hz, glob_ok h1, isi_ss, le_ii, and_t, and_b, toS_ok, seq_rt, out_rt]
    congr 2
    unfold isNameD isNameS
    have a1 : decide ((1 : Int) ≤ (z.length : Int)) = decide (1 ≤ z.length) := int_le_nat 1 _
    have a2 : decide ((z.length : Int) ≤ 4) = decide (z.length ≤ 4) := int_le_nat _ 4
    rw [a1, a2, Bool.and_assoc]
    rfl
  | dict _ => exact hd.elim
  | _ => rfl
theorem is_line_ok (h1 : g.gl "MOST_LINE" = some (.int 12)) (d : D) (hd : sOk d) : (exs g B.is_line (startE 2 [d])).out = .ok (.bool (isLineD d)) := by
  cases d with
  | str z =>
    have hz : z.length ≤ lim := hd
    have e := lc_signs (g := g) (env := [some (.dat (.str z)), none]) (i := 1) (it := .slot 0) (elt := .cmp2 .LtE .LtE (.cst (.str " ")) (.slot 1) (.cst (.str "~"))) (z := z) (f := fun c => decide (32 ≤ c) && decide (c ≤ 126)) rfl (fun c => by
      simp only [evs, List.cons_append, List.nil_append, wipeE]
      rw [le_chr 32 c " " ⟨#[c]⟩ (by decide +kernel) rfl, le_chr c 126 ⟨#[c]⟩ "~" rfl (by decide +kernel), and_b]) hz
    simp only [B.is_line, exs_cons, ex_ret, ev_band, st_2_1, rel_dat, rel_none, rel_nil]
    rw [e]
    simp only [ev_isi, ev_cmp, ev_blt, ev_cst, ev_slot, ev_glob, evL_cons, evL_nil, getS0, md_false, bind_ok, cons_ok, len_s hz, glob_ok h1, isi_ss, le_ii, and_t, and_b, toS_ok, seq_rt, out_rt]
    congr 2
    unfold isLineD isLineS
    have a2 : decide ((z.length : Int) ≤ 12) = decide (z.length ≤ 12) := int_le_nat _ 12
    rw [a2]
    rfl
  | dict _ => exact hd.elim
  | _ => rfl
/-- a walk over items, as a test of all -/
theorem lc_bools {env : Env} {i : Nat} {it elt : E} {ds : List D} {f : D → Bool} (hi : evI g (.sq it) env = .ok ds) (he : ∀ d ∈ ds, ev g false elt (List.set (wipeE env [i]) i (some (.dat d))) = .ok (.bool (f d))) (hz : ds.length ≤ lim) :
    ev g false (.blt .all [.lc [i] (.nm i) (.sq it) (.cst (.bool true)) elt]) env = .ok (.bool (ds.all f)) := by
  simp only [ev_blt, evL_cons, evL_nil, ev_lc, md_false, hi, bind_ok]
  have q := lc_all (tg := .nm i) (c := fun e => noExc (ev g true (.cst (.bool true)) e)) (e := fun e => noExc (ev g false elt e)) (ws := [i]) (env := env) (b := fun d => List.set (wipeE env [i]) i (some (.dat d))) (f := fun d => .bool (f d)) ds (fun _ _ => rfl) (fun _ => rfl) (fun d hd => by
    show noExc (ev g false elt (List.set (wipeE env [i]) i (some (.dat d)))) = _
    rw [he d hd]
    rfl) hz
  rw [q]
  show bltD .all [.list (ds.map fun d => .bool (f d))] = _
  rw [show (ds.map fun d => PyData.bool (f d)) = (ds.map f).map PyData.bool by rw [List.map_map]; rfl, all_l, all_id]
end
/-! ### things that may be looked at -/
def Tm : Nat → D → Prop
  | _, .none => True
  | _, .bool _ => True
  | _, .int _ => True
  | _, .str z => z.length ≤ lim ∧ PyData.strOk z = true
  | n + 1, .tuple xs => xs.length ≤ lim ∧ ∀ x ∈ xs, Tm n x
  | n + 1, .list xs => xs.length ≤ lim ∧ ∀ x ∈ xs, Tm n x
  | 0, .tuple _ => False
  | 0, .list _ => False
  | _, .dict _ => False
theorem layAll_of : ∀ (xs : List D), (∀ x ∈ xs, PyData.canLay0 x = true) → PyData.canLayAll0 xs = true
  | [], _ => rfl
  | x :: xs, h => by
    show (PyData.canLay0 x && PyData.canLayAll0 xs) = true
    rw [h x List.mem_cons_self, layAll_of xs fun y hy => h y (List.mem_cons_of_mem _ hy)]
    rfl
theorem depthAll_of (n : Nat) : ∀ (xs : List D), (∀ x ∈ xs, PyData.depth x ≤ n) → PyData.depthAll xs ≤ n
  | [], _ => Nat.zero_le _
  | x :: xs, h => by
    show max (PyData.depth x) (PyData.depthAll xs) ≤ n
    exact Nat.max_le.mpr ⟨h x List.mem_cons_self, depthAll_of n xs fun y hy => h y (List.mem_cons_of_mem _ hy)⟩
theorem Tm.lay : ∀ (n : Nat) (d : D), Tm n d → PyData.canLay0 d = true ∧ PyData.depth d ≤ n
  | n, .none, _ => ⟨rfl, Nat.zero_le _⟩
  | n, .bool _, _ => ⟨rfl, Nat.zero_le _⟩
  | n, .int _, _ => ⟨rfl, Nat.zero_le _⟩
  | 0, .str z, h => ⟨h.2, Nat.zero_le _⟩
  | n + 1, .str z, h => ⟨h.2, Nat.zero_le _⟩
  | n + 1, .tuple xs, h => ⟨layAll_of xs fun x hx => (Tm.lay n x (h.2 x hx)).1, Nat.succ_le_succ (depthAll_of n xs fun x hx => (Tm.lay n x (h.2 x hx)).2)⟩
  | n + 1, .list xs, h => ⟨layAll_of xs fun x hx => (Tm.lay n x (h.2 x hx)).1, Nat.succ_le_succ (depthAll_of n xs fun x hx => (Tm.lay n x (h.2 x hx)).2)⟩
  | 0, .tuple _, h => h.elim
  | 0, .list _, h => h.elim
  | 0, .dict _, h => h.elim
  | _ + 1, .dict _, h => h.elim
theorem Tm.shp {n : Nat} {d : D} (h : Tm n d) (hn : n ≤ 64) : shp d = true := by
  obtain ⟨h1, h2⟩ := Tm.lay n d h
  show (PyData.canLay0 d && decide (PyData.depth d ≤ 64)) = true
  rw [h1, decide_eq_true (by omega)]
  rfl
theorem Tm.sOk {n : Nat} {d : D} (h : Tm n d) : sOk d := by
  cases d with
  | str z => cases n <;> exact h.1
  | dict _ => cases n <;> exact h.elim
  | _ => trivial
theorem Tm.up : ∀ {n m : Nat} {d : D}, Tm n d → n ≤ m → Tm m d
  | n, m, .none, _, _ => by cases m <;> trivial
  | n, m, .bool _, _, _ => by cases m <;> trivial
  | n, m, .int _, _, _ => by cases m <;> trivial
  | n, m, .str z, h, _ => by cases m <;> cases n <;> exact h
  | n + 1, m + 1, .tuple xs, h, hn => ⟨h.1, fun x hx => Tm.up (h.2 x hx) (Nat.le_of_succ_le_succ hn)⟩
  | n + 1, m + 1, .list xs, h, hn => ⟨h.1, fun x hx => Tm.up (h.2 x hx) (Nat.le_of_succ_le_succ hn)⟩
  | 0, _, .tuple _, h, _ => h.elim
  | 0, _, .list _, h, _ => h.elim
  | 0, _, .dict _, h, _ => h.elim
  | _ + 1, _, .dict _, h, _ => h.elim
  | n + 1, 0, .tuple _, _, h => absurd h (by omega)
  | n + 1, 0, .list _, _, h => absurd h (by omega)
/-! ### trees -/
def isLetterD (t : D → Bool) : D → Bool
  | .tuple [a, .tuple ps] => isNameD a && (decide (0 < ps.length) && ps.all t)
  | _ => false
def isTreeN : Nat → D → Bool
  | n + 1, .tuple ls => ls.all fun l => isLineD l || isLetterD (isTreeN n) l
  | _, _ => false
theorem fn_of {P : Pr} {f : Str} {F : Fn} (hx : P.X f = none) (h : P.T f = some F) : P.fn f = some F.ps := by
  unfold Pr.fn
  rw [hx, h]
  rfl
theorem call_run {P : Pr} {n : Nat} {f : Str} {F : Fn} {ds : List D} (hx : P.X f = none) (h : P.T f = some F) (hl : ds.length = F.ps.length) : callR (gOf P n) f ds = run P n f ds := call_ok (g := gOf P n) (fn_of hx h) hl
theorem Has.call {P : Pr} {f : Str} {k n : Nat} {b : List S} (h : Has P f k n b) {m : Nat} {ds : List D} (hl : ds.length = k) : callR (gOf P m) f ds = Ev.run P m f ds := by
  obtain ⟨hx, ps, hp, ht⟩ := h
  exact call_run hx ht (hl.trans hp.symm)
structure HasTree (P : Pr) : Prop where
  n : Has P "is_name" 1 2 B.is_name
  l : Has P "is_line" 1 2 B.is_line
  t : Has P "is_tree" 1 2 B.is_tree
  b : Has P "is_letter" 1 2 B.is_letter
  g1 : P.gl "MOST_NAME" = some (.int 4)
  g2 : P.gl "MOST_LINE" = some (.int 12)
  g3 : P.gl "LETTERS" = some (.str lets)
section
variable {P : Pr}
theorem run_is_name (H : HasTree P) (n : Nat) (d : D) (hd : sOk d) : run P (n + 1) "is_name" [d] = .ok (.bool (isNameD d)) := by
  rw [H.n.run]
  exact is_name_ok (g := gOf P n) H.g1 H.g3 d hd
theorem run_is_line (H : HasTree P) (n : Nat) (d : D) (hd : sOk d) : run P (n + 1) "is_line" [d] = .ok (.bool (isLineD d)) := by
  rw [H.l.run]
  exact is_line_ok (g := gOf P n) H.g2 d hd
theorem atI_0 (a : D) (r : List D) : ixD (.tuple (a :: r)) (.int 0) = .ok a := by
  show (match L2.atI (a :: r) 0 with | some d => R.ok d | none => .bad) = _
  have : L2.atI (a :: r) 0 = some a := L2.atI_nat (j := 0) rfl
  rw [this]
theorem atI_1 (a b : D) (r : List D) : ixD (.tuple (a :: b :: r)) (.int 1) = .ok b := by
  show (match L2.atI (a :: b :: r) 1 with | some d => R.ok d | none => .bad) = _
  have : L2.atI (a :: b :: r) 1 = some b := L2.atI_nat (j := 1) rfl
  rw [this]
theorem len_ne2 (r : List D) (a b c : D) : (((a :: b :: c :: r).length : Int) == 2) = false := by
  rw [beq_eq_false_iff_ne]
  show ((r.length + 1 + 1 + 1 : Nat) : Int) ≠ 2
  omega
theorem run_is_letter (H : HasTree P) (m n : Nat) (t : D → Bool) (d : D) (hd : Tm (m + 2) d) (ht : ∀ p, Tm m p → run P (n + 1) "is_tree" [p] = .ok (.bool (t p))) : run P (n + 2) "is_letter" [d] = .ok (.bool (isLetterD t d)) := by
  rw [H.b.run]
  cases d with
  | tuple xs =>
    match xs, hd with
    | [], _ => rfl
    | [_], _ => rfl
    | a :: b :: c :: r, _ =>
      simp only [B.is_letter, exs_cons, ex_ife, ex_ret, ev_bor, ev_bnot, st_2_1, rel_dat, rel_none, rel_nil, ev_isi, ev_cmp, ev_blt, ev_cst, ev_slot, evL_cons, evL_nil, getS0, md_false, md_true, truth_b, bind_ok, cons_ok, len_t, isi_tt, not_b, or_f, or_t, ne_ii, len_ne2, Bool.not_true, Bool.not_false, if_t, toS_ok, seq_rt, out_rt]
      simp only [isLetterD]
    | [a, b], hd =>
      have ha : Tm (m + 1) a := hd.2 a List.mem_cons_self
      have hb : Tm (m + 1) b := hd.2 b (List.mem_cons_of_mem _ List.mem_cons_self)
      have h1 := run_is_name H n a ha.sOk
      have c1 : callR (gOf P (n + 1)) "is_name" [a] = .ok (.bool (isNameD a)) := (H.n.call rfl).trans h1
      have l2 : (([a, b].length : Int) == 2) = true := rfl
      simp only [B.is_letter, exs_cons, ex_ife, ex_ret, ev_bor, ev_bnot, st_2_1, rel_dat, rel_none, rel_nil, ev_isi, ev_cmp, ev_blt, ev_cst, ev_slot, ev_call, ev_ix, evL_cons, evL_nil, getS0, md_false, md_true, truth_b, bind_ok, cons_ok, len_t, isi_tt, not_b, or_f, or_t, ne_ii, l2, Bool.not_true, Bool.not_false, atI_0, atI_1, c1]
      cases hn : isNameD a with
      | false =>
        simp only [Bool.not_false, if_t, ex_ret, ev_cst, exs_cons, md_false, toS_ok, seq_rt, out_rt, rel_dat, rel_none, rel_nil]
        cases b <;> simp [isLetterD, hn]
      | true =>
        simp only [Bool.not_true, if_f, exs_nil, seq_nx, exs_cons, ex_ret, ev_band, ev_isi, ev_ix, ev_slot, ev_cst, md_false, getS0, bind_ok, atI_1, rel_dat, rel_none, rel_nil]
        cases b with
        | tuple ps =>
          have e := lc_bools (g := gOf P (n + 1)) (env := [some (.dat (.tuple [a, .tuple ps])), none]) (i := 1) (it := .ix (.slot 0) (.cst (.int 1))) (elt := .call "is_tree" [.slot 1]) (ds := ps) (f := t) (by
            simp only [evI_sq, ev_ix, ev_slot, ev_cst, md_false, getS0, bind_ok, atI_1, seq_t]) (fun p hp => by
            have c2 : callR (gOf P (n + 1)) "is_tree" [p] = .ok (.bool (t p)) := (H.t.call rfl).trans (ht p (hb.2 p hp))
            simp only [evs, List.cons_append, List.nil_append, wipeE, c2]) hb.1
          rw [e]
          simp only [ev_cmp, ev_blt, ev_ix, ev_slot, ev_cst, evL_cons, evL_nil, md_false, getS0, bind_ok, atI_1, cons_ok, len_t, isi_tt, gt_ii, and_t, and_b, toS_ok, seq_rt, out_rt]
          have l0 : decide ((0 : Int) < (ps.length : Int)) = decide (0 < ps.length) := by
            rw [Bool.eq_iff_iff, decide_eq_true_eq, decide_eq_true_eq]; omega
          rw [l0]
          simp [isLetterD, hn]
        | dict _ => exact hb.elim
        | _ => simp [isLetterD, isiD, and_f, toS_ok, seq_rt, out_rt]
  | dict _ => exact hd.elim
  | _ => rfl
theorem run_is_tree (H : HasTree P) : ∀ (n m : Nat) (d : D), Tm m d → m ≤ n → run P (2 * n + 2) "is_tree" [d] = .ok (.bool (isTreeN n d))
  | n, m, .tuple ls, hd, hm => by
    rw [H.t.run]
    match n, m, hd, hm with
    | n + 1, m + 1, hd, hm =>
      have ih := fun p hp => run_is_tree H n m p hp (Nat.le_of_succ_le_succ hm)
      have e := lc_bools (g := gOf P (2 * (n + 1) + 1)) (env := [some (.dat (.tuple ls)), none]) (i := 1) (it := .slot 0) (elt := .bor (.call "is_line" [.slot 1]) (.call "is_letter" [.slot 1])) (ds := ls) (f := fun l => isLineD l || isLetterD (isTreeN n) l) (by
        simp only [evI_sq, ev_slot, md_false, getS0, bind_ok, seq_t]) (fun l hl => by
        have hl' := hd.2 l hl
        have c1 : callR (gOf P (2 * (n + 1) + 1)) "is_line" [l] = .ok (.bool (isLineD l)) := (H.l.call rfl).trans (run_is_line H _ l hl'.sOk)
        have c2 : callR (gOf P (2 * (n + 1) + 1)) "is_letter" [l] = .ok (.bool (isLetterD (isTreeN n) l)) :=
          (H.b.call rfl).trans (run_is_letter H m (2 * n + 1) (isTreeN n) l (hl'.up (by omega)) ih)
        simp only [evs, List.cons_append, List.nil_append, wipeE, c1, c2, or_b]) hd.1
      simp only [B.is_tree, exs_cons, ex_ife, ex_ret, ev_bnot, ev_isi, ev_slot, st_2_1, rel_dat, rel_none, rel_nil, getS0, md_false, md_true, bind_ok, isi_tt, truth_b, not_b, Bool.not_true, if_f, exs_nil, seq_nx]
      rw [e]
      rfl
    | _, 0, hd, _ => exact hd.elim
    | 0, m + 1, _, hm => exact absurd hm (by omega)
  | n, m, .dict _, hd, _ => by cases m <;> exact hd.elim
  | n, _, .none, _, _ => by rw [H.t.run]; cases n <;> rfl
  | n, _, .bool _, _, _ => by rw [H.t.run]; cases n <;> rfl
  | n, _, .int _, _, _ => by rw [H.t.run]; cases n <;> rfl
  | n, _, .str _, _, _ => by rw [H.t.run]; cases n <;> rfl
  | n, _, .list _, _, _ => by rw [H.t.run]; cases n <;> rfl
end
end Ev
/-! EvR1: rows told by the program. -/
namespace Ev
open PySem PySem.Spec PyProof.Rows L2
def isStrD : D → Bool
  | .str _ => true
  | _ => false
def inB (a : D) : Bool := [PyData.str "open", .str "next", .str "close"].any fun z => PyData.eqv z a
def isBorderD : D → Bool
  | .tuple [a, b] => isStrD a && (inB a && isNameD b)
  | _ => false
def isRowD : D → Bool
  | .tuple [a, b] => isBorderD (.tuple [a, b]) || (PyData.eqv a (.str "line") && isLineD b)
  | _ => false
def areRowsD : D → Bool
  | .tuple xs => decide (xs.length ≤ 14) && xs.all isRowD
  | _ => false
theorem isi_str {n : Nat} {a : D} (h : Tm n a) : isiD a .str = .ok (.bool (isStrD a)) := by
  cases a with
  | dict _ => cases n <;> exact h.elim
  | _ => rfl
theorem in_t {d : D} {ds : List D} (h1 : shp d = true) (h2 : shp (.tuple ds) = true) : cmpD .In d (.tuple ds) = .ok (.bool (ds.any fun z => PyData.eqv z d)) := by
  show (if shp d && shp (.tuple ds) then R.ok (PyData.bool (if false then _ else ds.any fun z => PyData.eqv z d)) else .bad) = _
  rw [h1, h2]
  rfl
theorem bor_shp : shp (.tuple [.str "open", .str "next", .str "close"]) = true := by decide +kernel
structure HasRows (P : Pr) : Prop where
  tree : HasTree P
  is_border : Has P "is_border" 1 1 B.is_border
  is_row : Has P "is_row" 1 1 B.is_row
  are_rows : Has P "are_rows" 1 2 B.are_rows
  g1 : P.gl "BORDERS" = some (.tuple [.str "open", .str "next", .str "close"])
  g2 : P.gl "LINE" = some (.str "line")
  g3 : P.gl "MOST_ROWS" = some (.int 14)
section
variable {P : Pr} {n m : Nat}
theorem run_is_border (H : HasRows P) (d : D) (hd : Tm (m + 1) d) (hm : m ≤ 60) : run P (n + 2) "is_border" [d] = .ok (.bool (isBorderD d)) := by
  rw [H.is_border.run]
  cases d with
  | tuple xs =>
    match xs, hd with
    | [], _ => rfl
    | [_], _ => rfl
    | a :: b :: c :: r, _ =>
      simp only [B.is_border, exs_cons, ex_ife, ex_ret, ev_bor, ev_bnot, st_2_1, st_1_1, rel_dat, rel_none, rel_nil, ev_isi, ev_cmp, ev_blt, ev_cst, ev_slot, evL_cons, evL_nil, getS0, md_false, md_true, truth_b, bind_ok, cons_ok, len_t, isi_tt, not_b, or_f, or_t, ne_ii, len_ne2, Bool.not_true, Bool.not_false, if_t, toS_ok, seq_rt, out_rt]
      simp only [isBorderD]
    | [a, b], hd =>
      have ha : Tm m a := hd.2 a List.mem_cons_self
      have hb : Tm m b := hd.2 b (List.mem_cons_of_mem _ List.mem_cons_self)
      have c1 : callR (gOf P (n + 1)) "is_name" [b] = .ok (.bool (isNameD b)) := (H.tree.n.call rfl).trans (run_is_name H.tree n b hb.sOk)
      have l2 : (([a, b].length : Int) == 2) = true := rfl
      have gb : globR (gOf P (n + 1)) "BORDERS" = .ok (.tuple [.str "open", .str "next", .str "close"]) := glob_ok (g := gOf P (n + 1)) H.g1
      simp only [B.is_border, exs_cons, ex_ife, ex_ret, ev_bor, ev_bnot, st_1_1, st_2_1, rel_dat, rel_none, rel_nil, ev_isi, ev_cmp, ev_blt, ev_cst, ev_slot, ev_call, ev_ix, evL_cons, evL_nil, getS0, md_false, md_true, truth_b, bind_ok, cons_ok, len_t, isi_tt, not_b, or_f, or_t, ne_ii, l2, Bool.not_true, Bool.not_false, atI_0, atI_1, isi_str ha]
      cases hs : isStrD a with
      | false =>
        simp only [or_f, Bool.not_false, if_t, md_false, toS_ok, seq_rt, out_rt]
        rw [isBorderD, hs]
        rfl
      | true =>
        simp only [or_f, Bool.not_true, if_f, exs_nil, seq_nx, exs_cons, ex_ret, ev_band, ev_cmp, ev_ix, ev_slot, ev_cst, ev_glob, ev_call, evL_cons, evL_nil, cons_ok, gb, md_false, getS0, bind_ok, atI_0, atI_1, c1, rel_dat, rel_nil, in_t (ha.shp (by omega)) bor_shp, and_b, toS_ok, seq_rt, out_rt]
        rw [isBorderD, hs]
        rfl
  | dict _ => exact hd.elim
  | _ => rfl
theorem run_is_row (H : HasRows P) (d : D) (hd : Tm (m + 1) d) (hm : m ≤ 60) : run P (n + 3) "is_row" [d] = .ok (.bool (isRowD d)) := by
  rw [H.is_row.run]
  have c0 : callR (gOf P (n + 2)) "is_border" [d] = .ok (.bool (isBorderD d)) := (H.is_border.call rfl).trans (run_is_border H d hd hm)
  simp only [B.is_row, exs_cons, ex_ife, ev_call, st_1_1, st_2_1, rel_dat, rel_nil, ev_slot, evL_cons, evL_nil, getS0, md_false, md_true, bind_ok, cons_ok, c0, truth_b]
  cases hB : isBorderD d with
  | true =>
    simp only [if_t, exs_cons, ex_ret, ev_cst, md_false, toS_ok, seq_rt, out_rt]
    match d, hB with
    | .tuple [a, b], hB => rw [isRowD, hB]; rfl
  | false =>
    simp only [if_f, exs_nil, seq_nx]
    cases d with
    | tuple xs =>
      match xs, hd, hB with
      | [], _, _ => rfl
      | [_], _, _ => rfl
      | a :: b :: c :: r, _, _ =>
        simp only [exs_cons, ex_ret, ev_band, rel_dat, rel_nil, ev_isi, ev_cmp, ev_blt, ev_cst, ev_slot, evL_cons, evL_nil, getS0, md_false, bind_ok, cons_ok, len_t, isi_tt, and_t, eq_ii, len_ne2, and_f, toS_ok, seq_rt, out_rt]
        simp only [isRowD]
      | [a, b], hd, hB =>
        have ha : Tm m a := hd.2 a List.mem_cons_self
        have hb : Tm m b := hd.2 b (List.mem_cons_of_mem _ List.mem_cons_self)
        have c1 : callR (gOf P (n + 2)) "is_line" [b] = .ok (.bool (isLineD b)) := (H.tree.l.call rfl).trans (run_is_line H.tree (n + 1) b hb.sOk)
        have l2 : (([a, b].length : Int) == 2) = true := rfl
        have gb : globR (gOf P (n + 2)) "LINE" = .ok (.str "line") := glob_ok (g := gOf P (n + 2)) H.g2
        simp only [exs_cons, exs_nil, ex_ret, ev_band, rel_dat, rel_nil, ev_isi, ev_cmp, ev_blt, ev_cst, ev_slot, ev_ix, ev_glob, ev_call, evL_cons, evL_nil, getS0, md_false, bind_ok, cons_ok, len_t, isi_tt, and_t, eq_ii, l2, atI_0, atI_1, gb, c1, eq_cmp (ha.shp (by omega)) (show shp (.str "line") = true by decide +kernel), and_b, toS_ok, seq_rt, out_rt]
        rw [isRowD, hB]
        rfl
    | dict _ => exact hd.elim
    | _ => rfl
theorem run_are_rows (H : HasRows P) (d : D) (hd : Tm (m + 2) d) (hm : m ≤ 60) : run P (n + 4) "are_rows" [d] = .ok (.bool (areRowsD d)) := by
  rw [H.are_rows.run]
  cases d with
  | tuple xs =>
    have e := lc_bools (g := gOf P (n + 3)) (env := [some (.dat (.tuple xs)), none]) (i := 1) (it := .slot 0) (elt := .call "is_row" [.slot 1]) (ds := xs) (f := isRowD) (by
      simp only [evI_sq, ev_slot, md_false, getS0, bind_ok, seq_t]) (fun l hl => by
      have c1 : callR (gOf P (n + 3)) "is_row" [l] = .ok (.bool (isRowD l)) := (H.is_row.call rfl).trans (run_is_row H l (hd.2 l hl) hm)
      simp only [evs, List.cons_append, List.nil_append, wipeE, c1]) hd.1
    have gb : globR (gOf P (n + 3)) "MOST_ROWS" = .ok (.int 14) := glob_ok (g := gOf P (n + 3)) H.g3
    simp only [B.are_rows, exs_cons, exs_nil, ex_ret, ev_band, st_2_1, rel_dat, rel_none, rel_nil]
    rw [e]
    simp only [ev_isi, ev_cmp, ev_blt, ev_slot, ev_glob, evL_cons, evL_nil, getS0, md_false, bind_ok, cons_ok, len_t, isi_tt, gb, le_ii, and_t, and_b, toS_ok, seq_rt, out_rt]
    rw [areRowsD, ← int_le_nat]
    rfl
  | dict _ => exact hd.elim
  | _ => rfl
end
end Ev
/-! EvR2: the law's own tellers. -/
namespace Ev
open PySem PySem.Spec PyProof.Rows L2
theorem shp_list {xs : List D} {n : Nat} (h : ∀ x ∈ xs, Tm n x) (hn : n ≤ 63) : shp (.list xs) = true := by
  show (PyData.canLayAll0 xs && decide (PyData.depthAll xs + 1 ≤ 64)) = true
  rw [layAll_of xs fun x hx => (Tm.lay n x (h x hx)).1, decide_eq_true (by have := depthAll_of n xs fun x hx => (Tm.lay n x (h x hx)).2; omega)]
  rfl
theorem eqv_nil (l : List D) : PyData.eqv (.list l) (.list []) = l.isEmpty := by cases l <;> rfl
theorem filter_none {α : Type} (l : List α) (p : α → Bool) : (l.filter p).isEmpty = l.all fun x => !p x := by
  induction l with
  | nil => rfl
  | cons a l ih =>
    rw [List.filter_cons, List.all_cons, ← ih]
    cases p a <;> rfl
section
variable {g : G}
/-- none of the items is such -/
theorem lc_none {env : Env} {i n : Nat} {it cond : E} {ds : List D} {p : D → Bool} (hi : evI g (.sq it) env = .ok ds) (hc : ∀ d ∈ ds, ev g true cond (List.set (wipeE env [i]) i (some (.dat d))) = .ok (.bool (p d))) (hg : ∀ d, getS (List.set (wipeE env [i]) i (some (.dat d))) i = .ok d) (hs : ∀ d ∈ ds, Tm n d) (hn : n ≤ 63) (hz : ds.length ≤ lim) :
    ev g false (.lc [i] (.nm i) (.sq it) cond (.slot i)) env = .ok (.list (ds.filter p)) ∧ shp (.list (ds.filter p)) = true := by
  refine ⟨?_, shp_list (fun x hx => hs x (List.mem_filter.mp hx).1) hn⟩
  simp only [ev_lc, md_false, hi, bind_ok]
  have q := lc_gen (tg := .nm i) (c := fun e => noExc (ev g true cond e)) (e := fun e => noExc (ev g false (.slot i) e)) (ws := [i]) (env := env) (b := fun d => List.set (wipeE env [i]) i (some (.dat d))) (p := p) (f := fun d => d) ds [] (fun _ _ => rfl) (fun d hd => by
    show noExc (ev g true cond _) = _
    rw [hc d hd]
    rfl) (fun d hd _ => by
    show noExc (ev g false (.slot i) _) = _
    rw [ev_slot, md_false, hg d]
    rfl) (by simpa using hz)
  rw [q, List.map_id', List.nil_append]
theorem eq_none {env : Env} {i n : Nat} {it cond : E} {ds : List D} {p : D → Bool} (hi : evI g (.sq it) env = .ok ds) (hc : ∀ d ∈ ds, ev g true cond (List.set (wipeE env [i]) i (some (.dat d))) = .ok (.bool (p d))) (hg : ∀ d, getS (List.set (wipeE env [i]) i (some (.dat d))) i = .ok d) (hs : ∀ d ∈ ds, Tm n d) (hn : n ≤ 63) (hz : ds.length ≤ lim) :
    ev g false (.cmp .Eq (.lc [i] (.nm i) (.sq it) cond (.slot i)) (.lst [])) env = .ok (.bool (ds.all fun d => !p d)) := by
  obtain ⟨h1, h2⟩ := lc_none (g := g) hi hc hg hs hn hz
  simp only [ev_cmp, h1, bind_ok, ev_lst, evL_nil, lst_0, md_false, eq_cmp h2 (show shp (.list []) = true from rfl)]
  rw [eqv_nil, filter_none]
theorem ne_none {env : Env} {m : Bool} {i n : Nat} {it cond : E} {ds : List D} {p : D → Bool} (hi : evI g (.sq it) env = .ok ds) (hc : ∀ d ∈ ds, ev g true cond (List.set (wipeE env [i]) i (some (.dat d))) = .ok (.bool (p d))) (hg : ∀ d, getS (List.set (wipeE env [i]) i (some (.dat d))) i = .ok d) (hs : ∀ d ∈ ds, Tm n d) (hn : n ≤ 63) (hz : ds.length ≤ lim) :
    ev g m (.cmp .NotEq (.lc [i] (.nm i) (.sq it) cond (.slot i)) (.lst [])) env = .ok (.bool (!ds.all fun d => !p d)) := by
  obtain ⟨h1, h2⟩ := lc_none (g := g) hi hc hg hs hn hz
  simp only [ev_cmp, h1, bind_ok, ev_lst, evL_nil, lst_0, md_false, ne_cmp h2 (show shp (.list []) = true from rfl)]
  rw [eqv_nil, filter_none]
end
theorem strL_tm {z : Str} (h : PyData.strOk z = true) : ∀ d ∈ strL z, Tm 0 d := by
  intro d hd
  unfold strL at hd
  obtain ⟨c, hc, e⟩ := List.mem_map.mp hd
  subst e
  refine ⟨(show 1 ≤ lim by decide), ?_⟩
  have := Array.all_eq_true_iff_forall_mem.mp h c (Array.mem_toList_iff.mp hc)
  show (#[c] : Array Nat).all (· < 0x110000) = true
  simpa using this
theorem strL_all (z : Str) (p : D → Bool) (f : Nat → Bool) (h : ∀ c, p (.str ⟨#[c]⟩) = f c) : (strL z).all p = z.cps.toList.all f := by
  unfold strL
  rw [List.all_map]
  congr 1
  funext c
  exact h c
structure HasTell (P : Pr) : Prop where
  _law_is_name : Has P "_law_is_name" 1 2 B._law_is_name
  _law_is_text : Has P "_law_is_text" 1 2 B._law_is_text
  _law_are_rows : Has P "_law_are_rows" 1 3 B._law_are_rows
  _law_is_tree : Has P "_law_is_tree" 1 3 B._law_is_tree
section
variable {P : Pr} {n m : Nat}
theorem run_l_is_name (H : HasTell P) (d : D) (hd : Tm m d) : run P (n + 1) "_law_is_name" [d] = .ok (.bool (isNameD d)) := by
  rw [H._law_is_name.run]
  cases d with
  | str z =>
    have hz : z.length ≤ lim := hd.sOk
    have hk : PyData.strOk z = true := by cases m <;> exact hd.2
    have e := eq_none (g := gOf P n) (env := [some (.dat (.str z)), none]) (i := 1) (n := 0) (it := .slot 0) (cond := .bnot (.cmp2 .LtE .LtE (.cst (.str "a")) (.slot 1) (.cst (.str "z")))) (ds := strL z) (p := fun d => match d with | .str w => !(decide (97 ≤ w.cps.toList.headD 0) && decide (w.cps.toList.headD 0 ≤ 122)) | _ => false) (by
        simp only [evI_sq, ev_slot, md_false, getS0, bind_ok, seq_s]) (fun d hd => by
        obtain ⟨c, rfl⟩ := strL_mem hd
        simp only [evs, List.cons_append, List.nil_append, wipeE]
        rw [le_chr 97 c "a" ⟨#[c]⟩ (by decide +kernel) rfl, le_chr c 122 ⟨#[c]⟩ "z" rfl (by decide +kernel), and_b]
        rfl) (fun d => rfl) (strL_tm hk) (by decide) (by rw [strL_len]; exact hz)
    have a1 : decide ((1 : Int) ≤ (z.length : Int)) = decide (1 ≤ z.length) := int_le_nat 1 _
    have a2 : decide ((z.length : Int) ≤ 4) = decide (z.length ≤ 4) := int_le_nat _ 4
    simp only [B._law_is_name, exs_cons, ex_ife, ev_bor, ev_bnot, ev_cmp2, ev_isi, ev_blt, ev_cst, ev_slot, evL_cons, evL_nil, st_2_1, rel_dat, rel_none, rel_nil, getS0, md_false, md_true, bind_ok, cons_ok, len_s hz, isi_ss, truth_b, le_ii, a1, a2, and_b, not_b, or_b, Bool.not_true, Bool.false_or, if_b]
    rw [isNameD, isNameS]
    cases q : (decide (1 ≤ z.length) && decide (z.length ≤ 4)) with
    | false =>
      simp only [Bool.not_false, if_true, exs_cons, ex_ret, ev_cst, md_false, toS_ok, seq_rt, out_rt, rel_dat, rel_none, rel_nil]
      rw [← Bool.and_assoc, q]
      rfl
    | true =>
      simp only [Bool.not_true, Bool.false_eq_true, if_false, exs_nil, seq_nx, exs_cons, ex_ret, rel_dat, rel_none, rel_nil]
      rw [e]
      simp only [toS_ok, seq_rt, out_rt]
      rw [← Bool.and_assoc, q, Bool.true_and]
      rw [strL_all z _ (fun c => decide (97 ≤ c) && decide (c ≤ 122)) fun c => by show (!!_) = _; rw [Bool.not_not]; rfl]
  | dict _ => cases m <;> exact hd.elim
  | _ => rfl
theorem run_l_is_text (H : HasTell P) (d : D) (hd : Tm m d) : run P (n + 1) "_law_is_text" [d] = .ok (.bool (isLineD d)) := by
  rw [H._law_is_text.run]
  cases d with
  | str z =>
    have hz : z.length ≤ lim := hd.sOk
    have hk : PyData.strOk z = true := by cases m <;> exact hd.2
    have e := eq_none (g := gOf P n) (env := [some (.dat (.str z)), none]) (i := 1) (n := 0) (it := .slot 0) (cond := .bnot (.cmp2 .LtE .LtE (.cst (.str " ")) (.slot 1) (.cst (.str "~")))) (ds := strL z) (p := fun d => match d with | .str w => !(decide (32 ≤ w.cps.toList.headD 0) && decide (w.cps.toList.headD 0 ≤ 126)) | _ => false) (by
        simp only [evI_sq, ev_slot, md_false, getS0, bind_ok, seq_s]) (fun d hd => by
        obtain ⟨c, rfl⟩ := strL_mem hd
        simp only [evs, List.cons_append, List.nil_append, wipeE]
        rw [le_chr 32 c " " ⟨#[c]⟩ (by decide +kernel) rfl, le_chr c 126 ⟨#[c]⟩ "~" rfl (by decide +kernel), and_b]
        rfl) (fun d => rfl) (strL_tm hk) (by decide) (by rw [strL_len]; exact hz)
    have a2 : decide ((z.length : Int) ≤ 12) = decide (z.length ≤ 12) := int_le_nat _ 12
    simp only [B._law_is_text, exs_cons, exs_nil, ex_ret, ev_band, st_2_1, rel_dat, rel_none, rel_nil]
    rw [e]
    simp only [ev_isi, ev_cmp, ev_blt, ev_cst, ev_slot, evL_cons, evL_nil, getS0, md_false, bind_ok, cons_ok, len_s hz, isi_ss, le_ii, a2, and_t, and_b, toS_ok, seq_rt, out_rt]
    rw [isLineD, isLineS, strL_all z _ (fun c => decide (32 ≤ c) && decide (c ≤ 126)) fun c => by show (!!_) = _; rw [Bool.not_not]; rfl]
    rfl
  | dict _ => cases m <;> exact hd.elim
  | _ => rfl
end
end Ev
/-! EvR3: the law's own tellers of rows and trees. -/
namespace Ev
open PySem PySem.Spec PyProof.Rows L2
/-- as the law tells a row -/
def rowL : D → Bool
  | .tuple [a, b] => isStrD a && ((PyData.eqv a (.str "line") && isLineD b) || (inB a && isNameD b))
  | _ => false
theorem rowL_is {n : Nat} (d : D) (hd : Tm n d) : rowL d = isRowD d := by
  match d with
  | .tuple [a, b] =>
    show (isStrD a && _) = (isBorderD (.tuple [a, b]) || _)
    rw [isBorderD]
    cases a with
    | str z =>
      show (true && _) = _
      cases (PyData.eqv (.str z) (.str "line") && isLineD b) <;> simp [isStrD]
    | dict _ => cases n with
      | zero => exact hd.elim
      | succ n => cases n <;> exact (hd.2 _ List.mem_cons_self).elim
    | _ => rfl
  | .tuple [] => rfl
  | .tuple [_] => rfl
  | .tuple (_ :: _ :: _ :: _) => rfl
  | .none => rfl
  | .bool _ => rfl
  | .int _ => rfl
  | .str _ => rfl
  | .list _ => rfl
  | .dict _ => rfl
section
variable {P : Pr} {n m : Nat}
theorem run_l_are_rows (H : HasTell P) (d : D) (hd : Tm (m + 2) d) (hm : m ≤ 60) : run P (n + 2) "_law_are_rows" [d] = .ok (.bool (areRowsD d)) := by
  rw [H._law_are_rows.run]
  cases d with
  | tuple xs =>
    have l14 : decide ((14 : Int) < (xs.length : Int)) = !decide (xs.length ≤ 14) := by
      rw [Bool.eq_iff_iff, Bool.not_eq_true', decide_eq_true_eq, decide_eq_false_iff_not]; omega
    simp only [B._law_are_rows, exs_cons, ex_ife, ev_bor, ev_bnot, ev_isi, ev_cmp, ev_blt, ev_slot, ev_cst, evL_cons, evL_nil, cons_ok, len_t, gt_ii, l14, st_3_1, rel_dat, rel_none, rel_nil, getS0, md_false, md_true, bind_ok, isi_tt, truth_b, not_b, Bool.not_true, or_f, if_b]
    rw [areRowsD]
    cases hl : decide (xs.length ≤ 14) with
    | false =>
      simp only [Bool.not_false, if_true, ex_ret, ev_cst, md_false, toS_ok, seq_rt, out_rt, Bool.false_and]
    | true =>
      simp only [Bool.not_true, Bool.false_eq_true, if_false, exs_nil, seq_nx, exs_cons, ex_for, evI_sq, ev_slot, getS0, md_false, bind_ok, seq_t, for_ok, Bool.true_and]
      have key := for_all (tg := .nm 1) (body := fun e => exs (gOf P (n + 1)) B.l1__law_are_rows e) (r := .bool false) (fun env => ∃ x y, env = [some (.dat (.tuple xs)), x, y]) rowL xs [some (.dat (.tuple xs)), none, none] ⟨none, none, rfl⟩ ?_
      · rw [show xs.all rowL = xs.all isRowD from by
          rw [Bool.eq_iff_iff, List.all_eq_true, List.all_eq_true]
          constructor
          · intro h x hx; rw [← rowL_is x (hd.2 x hx)]; exact h x hx
          · intro h x hx; rw [rowL_is x (hd.2 x hx)]; exact h x hx] at key
        cases hA : xs.all isRowD with
        | true =>
          rw [hA, if_pos rfl] at key
          obtain ⟨env', h1, x, y, h2⟩ := key
          rw [h1]
          rfl
        | false =>
          rw [hA, if_neg Bool.false_ne_true] at key
          rw [key]
          rfl
      · rintro d hdm env ⟨x, y, rfl⟩
        refine ⟨[some (.dat (.tuple xs)), some (.dat d), y], rfl, ?_⟩
        have hd' := hd.2 d hdm
        cases d with
        | tuple ys =>
          match ys, hd' with
          | [], _ => rfl
          | [_], _ => rfl
          | a :: b :: c :: r, _ =>
            show exs _ _ _ = _
            simp only [B.l1__law_are_rows, exs_cons, ex_ife, ev_bor, ev_bnot, ev_isi, ev_cmp, ev_blt, ev_slot, ev_cst, evL_cons, evL_nil, cons_ok, len_t, ne_ii, len_ne2, rel_dat, rel_none, rel_nil, getS0, getSs, md_false, md_true, bind_ok, isi_tt, truth_b, not_b, Bool.not_true, Bool.not_false, or_f, or_t, if_t]
            rfl
          | [a, b], hd' =>
            have ha : Tm m a := hd'.2 a List.mem_cons_self
            have hb : Tm m b := hd'.2 b (List.mem_cons_of_mem _ List.mem_cons_self)
            have c1 : callR (gOf P (n + 1)) "_law_is_text" [b] = .ok (.bool (isLineD b)) := (H._law_is_text.call rfl).trans (run_l_is_text H b hb)
            have c2 : callR (gOf P (n + 1)) "_law_is_name" [b] = .ok (.bool (isNameD b)) := (H._law_is_name.call rfl).trans (run_l_is_name H b hb)
            have l2 : (([a, b].length : Int) == 2) = true := rfl
            show if rowL (.tuple [a, b]) then _ else exs _ _ _ = _
            simp only [B.l1__law_are_rows, exs_cons, ex_ife, ev_bor, ev_bnot, ev_isi, ev_ix, ev_cmp, ev_blt, ev_slot, ev_cst, evL_cons, evL_nil, cons_ok, len_t, ne_ii, l2, rel_dat, rel_none, rel_nil, getS0, getSs, md_false, md_true, bind_ok, isi_tt, atI_0, isi_str ha, truth_b, not_b, Bool.not_true, or_f, if_b]
            rw [rowL]
            cases hs : isStrD a with
            | false => rfl
            | true =>
              have hin := in_t (d := a) (ha.shp (by omega)) bor_shp
              have heq := eq_cmp (a := a) (b := .str "line") (ha.shp (by omega)) (by decide +kernel)
              simp only [Bool.not_true, Bool.false_eq_true, if_false, exs_nil, exs_cons, seq_nx, ex_set, ex_ife, ev_band, ev_bnot, ev_cmp, ev_ix, ev_slot, ev_cst, ev_tup, ev_call, evL_cons, evL_nil, cons_ok, tup_3, getS0, getSs, rel_dat, rel_none, rel_nil, md_false, md_true, bind_ok, atI_0, atI_1, c1, c2, heq, hin, and_b, not_b, truth_b, toS_ok, setE0, setEs, if_b]
              rw [show ([PyData.str "open", .str "next", .str "close"].any fun z => PyData.eqv z a) = inB a from rfl]
              cases PyData.eqv a (.str "line") && isLineD b <;> cases inB a && isNameD b <;> first | exact ⟨_, .inl rfl, _, _, rfl⟩ | rfl
        | dict _ => exact hd'.elim
        | _ => rfl
  | dict _ => exact hd.elim
  | _ => rfl
theorem eqv_tnil (l : List D) : PyData.eqv (.tuple l) (.tuple []) = l.isEmpty := by cases l <;> rfl
theorem tree_body (H : HasTell P) {t : D → Bool} {ls : List D} {d : D} (hd : Tm (m + 2) d) (hm : m ≤ 60) (ht : ∀ p, Tm m p → run P (n + 1) "_law_is_tree" [p] = .ok (.bool (t p))) (y : Option Sl) :
    if (isLineD d || isLetterD t d) then exs (gOf P (n + 1)) B.l1__law_is_tree [some (.dat (.tuple ls)), some (.dat d), y] = .nx [some (.dat (.tuple ls)), some (.dat d), y]
    else exs (gOf P (n + 1)) B.l1__law_is_tree [some (.dat (.tuple ls)), some (.dat d), y] = .rt (.bool false) := by
  have c1 : callR (gOf P (n + 1)) "_law_is_text" [d] = .ok (.bool (isLineD d)) := (H._law_is_text.call rfl).trans (run_l_is_text H d hd)
  rw [B.l1__law_is_tree, exs_cons, ex_ife]
  cases hl : isLineD d with
  | true =>
    cases y <;> simp only [ev_bnot, ev_call, evL_cons, evL_nil, ev_slot, rel_dat, rel_none, rel_nil, getS0, getSs, md_false, md_true, bind_ok, cons_ok, c1, hl, truth_b, not_b, Bool.not_true, if_f, exs_nil, seq_nx, Bool.true_or, if_true]
  | false =>
    have hrel : ∃ y', rel [some (.dat (.tuple ls)), some (.dat d), y] = [some (.dat (.tuple ls)), some (.dat d), y'] := ⟨_, rfl⟩
    obtain ⟨y', hr⟩ := hrel
    rw [hr]
    simp only [ev_bnot, ev_call, evL_cons, evL_nil, ev_slot, getS0, getSs, md_false, md_true, bind_ok, cons_ok, c1, hl, truth_b, not_b, Bool.not_false, if_t, Bool.false_or]
    cases d with
    | tuple xs =>
      match xs, hd with
      | [], _ =>
        simp only [exs_cons, ex_ife, hr]
        rfl
      | [_], _ =>
        simp only [exs_cons, ex_ife, hr]
        rfl
      | a :: b :: c :: r, _ =>
        simp only [exs_cons, ex_ife, hr, ev_bor, ev_bnot, ev_isi, ev_cmp, ev_blt, ev_slot, ev_cst, evL_cons, evL_nil, cons_ok, len_t, ne_ii, len_ne2, getS0, getSs, md_false, md_true, bind_ok, isi_tt, truth_b, not_b, Bool.not_true, Bool.not_false, or_f, or_t, if_t]
        rw [if_neg (show ¬ isLetterD t (.tuple (a :: b :: c :: r)) = true by simp only [isLetterD]; exact Bool.false_ne_true)]
        rfl
      | [a, b], hd =>
        have ha : Tm (m + 1) a := hd.2 a List.mem_cons_self
        have hb : Tm (m + 1) b := hd.2 b (List.mem_cons_of_mem _ List.mem_cons_self)
        have c2 : callR (gOf P (n + 1)) "_law_is_name" [a] = .ok (.bool (isNameD a)) := (H._law_is_name.call rfl).trans (run_l_is_name H a ha)
        have l2 : (([a, b].length : Int) == 2) = true := rfl
        simp only [exs_cons, ex_ife, hr, ev_bor, ev_bnot, ev_isi, ev_cmp, ev_blt, ev_slot, ev_cst, ev_ix, ev_call, evL_cons, evL_nil, cons_ok, len_t, ne_ii, l2, getS0, getSs, md_false, md_true, bind_ok, isi_tt, atI_0, atI_1, c2, truth_b, not_b, Bool.not_true, or_f, if_b]
        cases hn : isNameD a with
        | false =>
          simp only [isLetterD]
          cases b <;> simp only [hn, Bool.false_and, Bool.false_eq_true, if_false] <;> rfl
        | true =>
          simp only [Bool.not_true, Bool.false_eq_true, if_false, exs_nil, seq_nx]
          cases b with
          | tuple ps =>
            have hq := eq_cmp (a := .tuple ps) (b := .tuple []) (hb.shp (by omega)) rfl
            simp only [isi_tt, bind_ok, truth_b, not_b, Bool.not_true, or_f, ev_tup, evL_nil, tup_0, md_false, hq, eqv_tnil, if_b, isLetterD, hn, Bool.true_and]
            cases ps with
            | nil => rfl
            | cons p ps =>
              have e := ne_none (g := gOf P (n + 1)) (env := [some (.dat (.tuple ls)), some (.dat (.tuple [a, .tuple (p :: ps)])), y']) (m := true) (i := 2) (n := m) (it := .ix (.slot 1) (.cst (.int 1))) (cond := .bnot (.call "_law_is_tree" [.slot 2])) (ds := p :: ps) (p := fun d => !t d) (by
                  simp only [evI_sq, ev_ix, ev_slot, ev_cst, md_false, getS0, getSs, bind_ok, atI_1, seq_t]) (fun d hd => by
                  have c3 : callR (gOf P (n + 1)) "_law_is_tree" [d] = .ok (.bool (t d)) := (H._law_is_tree.call rfl).trans (ht d (hb.2 d hd))
                  simp only [evs, List.cons_append, List.nil_append, wipeE, c3]) (fun d => rfl) (fun x hx => hb.2 x hx) (by omega) hb.1
              simp only [exs_cons, ex_ife, hr, ev_bor, ev_bnot, ev_isi, ev_cmp, ev_ix, ev_slot, ev_cst, ev_tup, evL_nil, tup_0, getS0, getSs, md_false, md_true, atI_1, isi_tt, bind_ok, truth_b, not_b, Bool.not_true, or_f, hq, eqv_tnil, List.isEmpty_cons, if_f, exs_nil, seq_nx] at e ⊢
              rw [e]
              simp only [Bool.not_not, if_b]
              rw [show decide (0 < (p :: ps).length) = true from rfl, Bool.true_and]
              cases (p :: ps).all t <;> rfl
          | dict _ => exact hb.elim
          | _ => rfl
    | dict _ => exact hd.elim
    | _ =>
      simp only [exs_cons, ex_ife, hr]
      rfl
theorem run_l_is_tree (H : HasTell P) : ∀ (n m : Nat) (d : D), Tm m d → m ≤ n → m ≤ 60 → run P (n + 2) "_law_is_tree" [d] = .ok (.bool (isTreeN n d))
  | n, m, .tuple ls, hd, hm, hk => by
    rw [H._law_is_tree.run]
    match n, m, hd, hm, hk with
    | n + 1, m + 1, hd, hm, hk =>
      have ih := fun p hp => run_l_is_tree H n m p hp (Nat.le_of_succ_le_succ hm) (by omega)
      simp only [B._law_is_tree, exs_cons, ex_ife, ev_bnot, ev_isi, ev_slot, st_3_1, rel_dat, rel_none, rel_nil, getS0, md_false, md_true, bind_ok, isi_tt, truth_b, not_b, Bool.not_true, if_f, exs_nil, seq_nx, ex_for, evI_sq, seq_t, for_ok]
      have key := for_all (tg := .nm 1) (body := fun e => exs (gOf P (n + 1 + 1)) B.l1__law_is_tree e) (r := .bool false) (fun env => ∃ x y, env = [some (.dat (.tuple ls)), x, y]) (fun l => isLineD l || isLetterD (isTreeN n) l) ls [some (.dat (.tuple ls)), none, none] ⟨none, none, rfl⟩ (by
        rintro d hdm env ⟨x, y, rfl⟩
        refine ⟨[some (.dat (.tuple ls)), some (.dat d), y], rfl, ?_⟩
        have q := tree_body H (t := isTreeN n) (ls := ls) (d := d) (m := m) (n := n + 1) ((hd.2 d hdm).up (by omega)) (by omega) ih y
        split
        · rename_i h
          rw [if_pos h] at q
          exact ⟨_, .inl q, _, _, rfl⟩
        · rename_i h
          rw [if_neg h] at q
          exact q)
      rw [isTreeN]
      cases hA : ls.all (fun l => isLineD l || isLetterD (isTreeN n) l) with
      | true =>
        rw [hA, if_pos rfl] at key
        obtain ⟨env', h1, x, y, h2⟩ := key
        rw [h1]
        rfl
      | false =>
        rw [hA, if_neg Bool.false_ne_true] at key
        rw [key]
        rfl
    | _, 0, hd, _, _ => exact hd.elim
    | 0, m + 1, _, hm, _ => exact absurd hm (by omega)
  | n, m, .dict _, hd, _, _ => by cases m <;> exact hd.elim
  | n, _, .none, _, _, _ => by rw [H._law_is_tree.run]; cases n <;> rfl
  | n, _, .bool _, _, _, _ => by rw [H._law_is_tree.run]; cases n <;> rfl
  | n, _, .int _, _, _, _ => by rw [H._law_is_tree.run]; cases n <;> rfl
  | n, _, .str _, _, _, _ => by rw [H._law_is_tree.run]; cases n <;> rfl
  | n, _, .list _, _, _, _ => by rw [H._law_is_tree.run]; cases n <;> rfl
end
end Ev
/-! EvD: what the laws draw. -/
namespace Ev
open PySem PySem.Spec PyProof.Rows L2
/-! ### typed -/
inductive Row where
  | line (s : Str) | op (s : Str) | nx (s : Str) | cl (s : Str)
  deriving DecidableEq
def Row.enc : Row → D
  | .line s => .tuple [.str "line", .str s]
  | .op s => .tuple [.str "open", .str s]
  | .nx s => .tuple [.str "next", .str s]
  | .cl s => .tuple [.str "close", .str s]
inductive Leaf where
  | line (s : Str) | letter (n : Str) (ps : List (List Leaf))
mutual
def Leaf.enc : Leaf → D
  | .line s => .str s
  | .letter n ps => .tuple [.str n, .tuple (encPs ps)]
termination_by structural l => l
def encT : List Leaf → List D
  | [] => []
  | l :: t => l.enc :: encT t
termination_by structural l => l
def encPs : List (List Leaf) → List D
  | [] => []
  | p :: ps => .tuple (encT p) :: encPs ps
termination_by structural l => l
end
theorem encT_map : ∀ t : List Leaf, encT t = t.map Leaf.enc
  | [] => rfl
  | l :: t => congrArg (l.enc :: ·) (encT_map t)
theorem encPs_map : ∀ t : List (List Leaf), encPs t = t.map fun p => .tuple (encT p)
  | [] => rfl
  | l :: t => congrArg (PyData.tuple (encT l) :: ·) (encPs_map t)
theorem encT_len (t : List Leaf) : (encT t).length = t.length := by rw [encT_map, List.length_map]
theorem encT_app (t u : List Leaf) : encT (t ++ u) = encT t ++ encT u := by rw [encT_map, encT_map, encT_map, List.map_append]
def nameTs : List Str := ["a", "b", "cd"]
def lineTs : List Str := ["", "a", "x y", "[a", "hello", "~ ~"]
def leafTs : List Str := ["", "a", "x y", "[a", "hello", "]b"]
/-- a drawn row -/
def DRow : Row → Prop
  | .line s => s ∈ lineTs
  | .op s => s ∈ nameTs
  | .nx s => s ∈ nameTs
  | .cl s => s ∈ nameTs
/-- a drawn leaf, d deep at the most; a drawn tree -/
def LOk : Nat → Leaf → Prop
  | 0, l => ∃ s, s ∈ leafTs ∧ l = .line s
  | d + 1, l => (∃ s, s ∈ leafTs ∧ l = .line s) ∨ ∃ n ps, l = .letter n ps ∧ n ∈ nameTs ∧ 1 ≤ ps.length ∧ ps.length ≤ 3 ∧ ∀ p ∈ ps, p.length ≤ 3 ∧ ∀ x ∈ p, LOk d x
def DTree (d : Nat) (t : List Leaf) : Prop := t.length ≤ 3 ∧ ∀ l ∈ t, LOk d l
theorem LOk.line {d : Nat} {s : Str} (h : s ∈ leafTs) : LOk d (.line s) := by cases d <;> first | exact ⟨s, h, rfl⟩ | exact .inl ⟨s, h, rfl⟩
/-! ### reckoning -/
theorem ix_mem {xs : List D} {i : Int} (h0 : 0 ≤ i) (h1 : i < xs.length) : ∃ d, d ∈ xs ∧ ixD (.tuple xs) (.int i) = .ok d := by
  have hj : i.toNat < xs.length := by omega
  have e : L2.atI xs i = some xs[i.toNat] := by
    have := L2.atI_nat (xs := xs) (j := i.toNat) (List.getElem?_eq_getElem hj)
    rwa [Int.toNat_of_nonneg h0] at this
  refine ⟨xs[i.toNat], List.getElem_mem hj, ?_⟩
  show (match L2.atI xs i with | some d => R.ok d | none => .bad) = _
  rw [e]
theorem ixl_mem {xs : List D} {i : Int} (h0 : 0 ≤ i) (h1 : i < xs.length) : ∃ d, d ∈ xs ∧ ixD (.list xs) (.int i) = .ok d := ix_mem h0 h1
def cellI (ns : List Int) (k : Int) : Int := if k < ns.length then (ns[k.toNat]?).getD 0 else 0
def mixI (c k : Int) : Int := ((c + 7919 * k + 1) * 48271 % 2147483647 * ((c + 7919 * k + 1) * 48271 % 2147483647) + 7 * ((c + 7919 * k + 1) * 48271 % 2147483647) + k) % 2147483629
def drawI (c k : Int) : Int := ((c + 104729 * k + 17) * 69621 % 2147483647 * ((c + 104729 * k + 17) * 69621 % 2147483647) + 3 * ((c + 104729 * k + 17) * 69621 % 2147483647) + k) % 2147483629
theorem mixI_bd (c k : Int) : 0 ≤ mixI c k ∧ mixI c k < 2147483629 := ⟨Int.emod_nonneg _ (by decide), Int.emod_lt_of_pos _ (by decide)⟩
theorem drawI_bd (c k : Int) : 0 ≤ drawI c k ∧ drawI c k < 2147483629 := ⟨Int.emod_nonneg _ (by decide), Int.emod_lt_of_pos _ (by decide)⟩
theorem big_mod (x : Int) : big (x % 2147483647) = true := by
  have h1 := Int.emod_nonneg x (b := 2147483647) (by decide)
  have h2 := Int.emod_lt_of_pos x (b := 2147483647) (by decide)
  unfold big
  simp only [Bool.and_eq_true, decide_eq_true_eq]
  omega
structure HasDraw (P : Pr) : Prop where
  cell : Has P "_law_cell_at" 2 2 B._law_cell_at
  mixed : Has P "_law_mixed" 2 3 B._law_mixed
  drawn : Has P "_law_drawn" 2 3 B._law_drawn
theorem lt_len (k : Int) (ns : List Int) : decide (k < (ns.map PyData.int).length) = decide (k < ns.length) := by rw [List.length_map]
section
variable {P : Pr} {m : Nat}
theorem run_cell (H : HasDraw P) (ns : List Int) (k : Int) (hk : 0 ≤ k) : run P (m + 1) "_law_cell_at" [.list (ns.map PyData.int), .int k] = .ok (.int (cellI ns k)) := by
  rw [H.cell.run]
  simp only [B._law_cell_at, evs, List.cons_append, List.nil_append, lt_len]
  unfold cellI
  by_cases h : k < ns.length
  · have hj : k.toNat < ns.length := by omega
    rw [decide_eq_true h, if_pos h]
    have e : ixD (.list (ns.map PyData.int)) (.int k) = .ok (.int ((ns[k.toNat]?).getD 0)) := by
      have e1 : L2.atI (ns.map PyData.int) k = some (.int ((ns[k.toNat]?).getD 0)) := by
        have := L2.atI_nat (xs := ns.map PyData.int) (j := k.toNat) (v := .int ((ns[k.toNat]?).getD 0)) (by rw [List.getElem?_map, List.getElem?_eq_getElem hj]; rfl)
        rwa [Int.toNat_of_nonneg hk] at this
      show (match L2.atI (ns.map PyData.int) k with | some d => R.ok d | none => .bad) = _
      rw [e1]
    simp only [if_t, seq_rt, out_rt, e, toS_ok]
  · rw [decide_eq_false h, if_neg h]
    rfl
theorem run_mixed (H : HasDraw P) (ns : List Int) (k : Int) (hk : 0 ≤ k) : run P (m + 2) "_law_mixed" [.list (ns.map PyData.int), .int k] = .ok (.int (mixI (cellI ns k) k)) := by
  rw [H.mixed.run]
  have c1 : callR (gOf P (m + 1)) "_law_cell_at" [.list (ns.map PyData.int), .int k] = .ok (.int (cellI ns k)) := (H.cell.call rfl).trans (run_cell H ns k hk)
  simp only [B._law_mixed, evs, List.cons_append, List.nil_append, c1, mul_li (big_mod _)]
  rfl
theorem run_drawn (H : HasDraw P) (a b : Int) : run P (m + 1) "_law_drawn" [.int a, .int b] = .ok (.int (drawI a b)) := by
  rw [H.drawn.run]
  simp only [B._law_drawn, evs, List.cons_append, List.nil_append, mul_li (big_mod _)]
  rfl
end
/-- items of a comprehension, one by one -/
theorem lc_ex {α : Type} {g : G} {env : Env} {i : Nat} {ws : List Nat} {elt : E} {enc : α → D} {Q : α → Prop} : ∀ (ds : List D), (∀ d ∈ ds, ∃ a, Q a ∧ ev g false elt (List.set (wipeE env ws) i (some (.dat d))) = .ok (enc a)) → ds.length ≤ lim →
    ∃ as : List α, as.length = ds.length ∧ (∀ a ∈ as, Q a) ∧ lcLoop (.nm i) (fun e => noExc (ev g true (.cst (.bool true)) e)) (fun e => noExc (ev g false elt e)) ws env ds [] = .ok (.list (as.map enc)) := by
  intro ds h hl
  have gen : ∀ (ds : List D) (acc : List D), (∀ d ∈ ds, ∃ a, Q a ∧ ev g false elt (List.set (wipeE env ws) i (some (.dat d))) = .ok (enc a)) → acc.length + ds.length ≤ lim →
      ∃ as : List α, as.length = ds.length ∧ (∀ a ∈ as, Q a) ∧ lcLoop (.nm i) (fun e => noExc (ev g true (.cst (.bool true)) e)) (fun e => noExc (ev g false elt e)) ws env ds acc = .ok (.list (acc ++ as.map enc)) := by
    intro ds
    induction ds with
    | nil => exact fun acc _ _ => ⟨[], rfl, fun _ h => (nomatch h), by rw [lcLoop, List.map_nil, List.append_nil]⟩
    | cons d ds ih =>
      intro acc h hl
      have hl' : acc.length + (ds.length + 1) ≤ lim := hl
      obtain ⟨a, qa, ea⟩ := h d List.mem_cons_self
      obtain ⟨as, e1, q1, e2⟩ := ih (acc ++ [enc a]) (fun x hx => h x (List.mem_cons_of_mem _ hx)) (by rw [List.length_append, List.length_singleton]; omega)
      refine ⟨a :: as, congrArg (· + 1) e1, fun x hx => (List.mem_cons.mp hx).elim (fun z => z ▸ qa) (q1 x), ?_⟩
      have st : lcLoop (.nm i) (fun e => noExc (ev g true (.cst (.bool true)) e)) (fun e => noExc (ev g false elt e)) ws env (d :: ds) acc = (noExc (ev g false elt (List.set (wipeE env ws) i (some (.dat d)))) >>= fun y => if acc.length < lim then lcLoop (.nm i) (fun e => noExc (ev g true (.cst (.bool true)) e)) (fun e => noExc (ev g false elt e)) ws env ds (acc ++ [y]) else .bad) := rfl
      rw [st, ea]
      show (if acc.length < lim then _ else _) = _
      rw [if_pos (by omega), e2, List.map_cons, List.append_assoc]
      rfl
  obtain ⟨as, h1, h2, h3⟩ := gen ds [] h (by simpa using hl)
  exact ⟨as, h1, h2, h3⟩
/-- a loop, by what holds behind j turns -/
theorem for_inv {tg : Tg} {body : Env → RS} (I : Nat → Env → Prop) : ∀ (ds : List D) (k : Nat) (env : Env), I k env →
    (∀ j d, ds[j]? = some d → ∀ env, I (k + j) env → ∃ env1, bindT tg d env = .ok env1 ∧ ∃ env2, (body env1 = .nx env2 ∨ body env1 = .ct env2) ∧ I (k + j + 1) env2) →
    ∃ env', forLoop tg body ds env = .nx env' ∧ I (k + ds.length) env'
  | [], k, env, h, _ => ⟨env, rfl, h⟩
  | d :: ds, k, env, h, hs => by
    obtain ⟨env1, e1, env2, h2, h3⟩ := hs 0 d rfl env h
    obtain ⟨env', h4, h5⟩ := for_inv I ds (k + 1) env2 h3 fun j x hx env hI => by
      have := hs (j + 1) x hx env (by rwa [show k + (j + 1) = k + 1 + j by omega])
      rwa [show k + (j + 1) + 1 = k + 1 + j + 1 by omega] at this
    refine ⟨env', ?_, by rw [List.length_cons]; rwa [show k + (ds.length + 1) = k + 1 + ds.length by omega]⟩
    rw [forLoop, e1]
    dsimp only
    rcases h2 with h2 | h2 <;> rw [h2] <;> exact h4
theorem rngL_mem {i j : Int} {d : D} (h : d ∈ rngL i j) : ∃ k : Int, d = .int k ∧ i ≤ k ∧ k < j := by
  unfold rngL at h
  obtain ⟨k, hk, e⟩ := List.mem_map.mp h
  have := List.mem_range.mp hk
  exact ⟨i + k, e.symm, by omega, by omega⟩
theorem rngL_len (i j : Int) : (rngL i j).length = (j - i).toNat := by unfold rngL; rw [List.length_map, List.length_range]
structure HasRw (P : Pr) : Prop where
  draw : HasDraw P
  row : Has P "_law_row" 2 3 B._law_row
  rows : Has P "_law_rows" 2 4 B._law_rows
section
variable {P : Pr} {m : Nat}
theorem run_row (H : HasRw P) (n k : Int) (h1 : 1 ≤ k) (h3 : k ≤ 3) : ∃ r, DRow r ∧ run P (m + 1) "_law_row" [.int n, .int k] = .ok r.enc := by
  rw [H.row.run]
  obtain ⟨w, hw, ew⟩ := ix_mem (xs := [.str "line", .str "open", .str "close", .str "next", .str "open", .str "close", .str "line"]) (i := n / 16 % 7) (Int.emod_nonneg _ (by decide)) (Int.emod_lt_of_pos _ (by decide))
  obtain ⟨t, ht, et⟩ := ix_mem (xs := [.str "", .str "a", .str "x y", .str "[a", .str "hello", .str "~ ~"]) (i := n / 256 % 6) (Int.emod_nonneg _ (by decide)) (Int.emod_lt_of_pos _ (by decide))
  obtain ⟨s, hs, es⟩ := ix_mem (xs := [.str "a", .str "b", .str "cd"]) (i := n / 2048 % k) (Int.emod_nonneg _ (by omega)) (by have := Int.emod_lt_of_pos (n / 2048) (b := k) (by omega); show _ < (3 : Int); omega)
  simp only [B._law_row, evs, List.cons_append, List.nil_append, mod_ii (show 0 < k by omega), ew, et, es]
  have key : ∀ w : Str, shp (.str w) = true → cmpD .Eq (.str w) (.str "line") = .ok (.bool (PyData.eqv (.str w) (.str "line"))) := fun w h => eq_cmp h (by decide +kernel)
  have ht' : ∃ z, z ∈ lineTs ∧ t = .str z := by
    simp only [List.mem_cons, List.not_mem_nil, or_false] at ht
    rcases ht with rfl | rfl | rfl | rfl | rfl | rfl <;> exact ⟨_, by decide +kernel, rfl⟩
  have hs' : ∃ z, z ∈ nameTs ∧ s = .str z := by
    simp only [List.mem_cons, List.not_mem_nil, or_false] at hs
    rcases hs with rfl | rfl | rfl <;> exact ⟨_, by decide +kernel, rfl⟩
  obtain ⟨tz, htz, rfl⟩ := ht'
  obtain ⟨sz, hsz, rfl⟩ := hs'
  have hline : PyData.eqv (.str "line") (.str "line") = true := by decide +kernel
  have hopen : PyData.eqv (.str "open") (.str "line") = false := by decide +kernel
  have hclose : PyData.eqv (.str "close") (.str "line") = false := by decide +kernel
  have hnext : PyData.eqv (.str "next") (.str "line") = false := by decide +kernel
  simp only [List.mem_cons, List.not_mem_nil, or_false] at hw
  rcases hw with rfl | rfl | rfl | rfl | rfl | rfl | rfl
  · rw [key _ (by decide +kernel), hline]; exact ⟨.line tz, htz, rfl⟩
  · rw [key _ (by decide +kernel), hopen]; simp only [evs, List.cons_append, List.nil_append, mod_ii (show 0 < k by omega), es]; exact ⟨.op sz, hsz, rfl⟩
  · rw [key _ (by decide +kernel), hclose]; simp only [evs, List.cons_append, List.nil_append, mod_ii (show 0 < k by omega), es]; exact ⟨.cl sz, hsz, rfl⟩
  · rw [key _ (by decide +kernel), hnext]; simp only [evs, List.cons_append, List.nil_append, mod_ii (show 0 < k by omega), es]; exact ⟨.nx sz, hsz, rfl⟩
  · rw [key _ (by decide +kernel), hopen]; simp only [evs, List.cons_append, List.nil_append, mod_ii (show 0 < k by omega), es]; exact ⟨.op sz, hsz, rfl⟩
  · rw [key _ (by decide +kernel), hclose]; simp only [evs, List.cons_append, List.nil_append, mod_ii (show 0 < k by omega), es]; exact ⟨.cl sz, hsz, rfl⟩
  · rw [key _ (by decide +kernel), hline]; exact ⟨.line tz, htz, rfl⟩
theorem run_rows (H : HasRw P) (n k : Int) (h1 : 0 ≤ k) (h3 : k ≤ 1000) : ∃ rs : List Row, rs.length ≤ k ∧ (∀ r ∈ rs, DRow r) ∧ run P (m + 2) "_law_rows" [.int n, .int k] = .ok (.tuple (rs.map Row.enc)) := by
  rw [H.rows.run]
  have hk := Int.emod_nonneg n (b := k + 1) (by omega)
  have hk2 := Int.emod_lt_of_pos n (b := k + 1) (by omega)
  have a1 := Int.emod_nonneg (n / 16) (b := 3) (by decide)
  have a2 := Int.emod_lt_of_pos (n / 16) (b := 3) (by decide)
  obtain ⟨as, e1, e2, e3⟩ := lc_ex (g := gOf P (m + 1)) (env := [some (.dat (.int n)), some (.dat (.int k)), some (.dat (.int (1 + n / 16 % 3))), none]) (i := 3) (ws := [3]) (elt := .call "_law_row" [.call "_law_drawn" [.slot 0, .bin .Add (.cst (.int 10)) (.slot 3)], .slot 2]) (enc := Row.enc) (Q := DRow) (rngL 0 (n % (k + 1))) (fun d hd => by
    obtain ⟨j, rfl, _, _⟩ := rngL_mem hd
    have c1 : callR (gOf P (m + 1)) "_law_drawn" [.int n, .int (10 + j)] = .ok (.int (drawI n (10 + j))) := (H.draw.drawn.call rfl).trans (run_drawn H.draw n (10 + j))
    obtain ⟨r, hr, er⟩ := run_row (m := m) H (drawI n (10 + j)) (1 + n / 16 % 3) (by omega) (by omega)
    have c2 : callR (gOf P (m + 1)) "_law_row" [.int (drawI n (10 + j)), .int (1 + n / 16 % 3)] = .ok r.enc := (H.row.call rfl).trans er
    exact ⟨r, hr, by simp only [evs, List.cons_append, List.nil_append, wipeE, c1, c2]⟩) (by rw [rngL_len]; exact lim2 (by omega))
  refine ⟨as, ?_, e2, ?_⟩
  · rw [e1, rngL_len]
    omega
  · have hl : ev (gOf P (m + 1)) false (.lc [3] (.nm 3) (.rng (.cst (.int 0)) (.bin .Mod (.slot 0) (.bin .Add (.slot 1) (.cst (.int 1))))) (.cst (.bool true)) (.call "_law_row" [.call "_law_drawn" [.slot 0, .bin .Add (.cst (.int 10)) (.slot 3)], .slot 2])) [some (.dat (.int n)), some (.dat (.int k)), some (.dat (.int (1 + n / 16 % 3))), none] = .ok (.list (as.map Row.enc)) := by
      rw [ev_lc, md_false]
      have hi : evI (gOf P (m + 1)) (.rng (.cst (.int 0)) (.bin .Mod (.slot 0) (.bin .Add (.slot 1) (.cst (.int 1))))) [some (.dat (.int n)), some (.dat (.int k)), some (.dat (.int (1 + n / 16 % 3))), none] = .ok (rngL 0 (n % (k + 1))) := by
        simp only [evs, List.cons_append, List.nil_append, mod_ii (show 0 < k + 1 by omega), rng_ii (show -4611686018427387904 ≤ (0 : Int) ∧ (0 : Int) < 4611686018427387904 by decide) (show -4611686018427387904 ≤ n % (k + 1) ∧ n % (k + 1) < 4611686018427387904 by omega)]
      rw [hi, bind_ok, e3]
    simp only [B._law_rows, evs, List.cons_append, List.nil_append, hl]
/-! ### trees -/
structure HasTr (P : Pr) : Prop where
  draw : HasDraw P
  tree : Has P "_law_tree" 2 7 B._law_tree
theorem leaf_ix (x : Int) : ∃ s, s ∈ leafTs ∧ ixD (.tuple [.str "", .str "a", .str "x y", .str "[a", .str "hello", .str "]b"]) (.int (x % 6)) = .ok (.str s) := by
  obtain ⟨t, ht, et⟩ := ix_mem (xs := [.str "", .str "a", .str "x y", .str "[a", .str "hello", .str "]b"]) (i := x % 6) (Int.emod_nonneg _ (by decide)) (Int.emod_lt_of_pos _ (by decide))
  simp only [List.mem_cons, List.not_mem_nil, or_false] at ht
  rcases ht with rfl | rfl | rfl | rfl | rfl | rfl <;> exact ⟨_, by decide +kernel, et⟩
theorem name_ix (x : Int) : ∃ s, s ∈ nameTs ∧ ixD (.tuple [.str "a", .str "b", .str "cd"]) (.int (x % 3)) = .ok (.str s) := by
  obtain ⟨t, ht, et⟩ := ix_mem (xs := [.str "a", .str "b", .str "cd"]) (i := x % 3) (Int.emod_nonneg _ (by decide)) (Int.emod_lt_of_pos _ (by decide))
  simp only [List.mem_cons, List.not_mem_nil, or_false] at ht
  rcases ht with rfl | rfl | rfl <;> exact ⟨_, by decide +kernel, et⟩
/-- the leaf of one turn -/
theorem tree_turn (H : HasTr P) (n : Int) (d : Nat) (t : List Leaf) (ht : t.length ≤ 3) (htl : ∀ l ∈ t, LOk d l) (k : Int) (x4 x5 x6 : Option D)
    (ih : ∀ e, d = e + 1 → ∀ n : Int, ∃ t, DTree e t ∧ run P (m + 1) "_law_tree" [.int n, .int (e : Int)] = .ok (.tuple (encT t))) :
    ∃ (l : Leaf) (y4 y5 y6 : Option D), LOk d l ∧ exs (gOf P (m + 1)) B.l1__law_tree [some (.dat (.int n)), some (.dat (.int (d : Int))), some (.dat (.tuple (encT t))), some (.dat (.int k)), o2 x4, o2 x5, o2 x6] =
      .nx [some (.dat (.int n)), some (.dat (.int (d : Int))), some (.dat (.tuple (encT (t ++ [l])))), some (.dat (.int k)), o2 y4, o2 y5, o2 y6] := by
  have c1 : callR (gOf P (m + 1)) "_law_drawn" [.int n, .int (30 + k)] = .ok (.int (drawI n (30 + k))) := (H.draw.drawn.call rfl).trans (run_drawn H.draw n (30 + k))
  obtain ⟨s, hs, es⟩ := leaf_ix (drawI n (30 + k) / 128)
  obtain ⟨nm, hnm, enm⟩ := name_ix (drawI n (30 + k) / 128)
  have hadd : ∀ l : Leaf, binD .Add (.tuple (encT t)) (.tuple [l.enc]) = .ok (.tuple (encT (t ++ [l]))) := fun l => by
    rw [encT_app]
    exact add_tt (by rw [encT_len]; exact lim2 (by show t.length + 1 ≤ 1000; omega))
  have hline : binD .Add (.tuple (encT t)) (.tuple [.str s]) = .ok (.tuple (encT (t ++ [.line s]))) := hadd (.line s)
  have h0 : decide ((0 : Int) < (d : Int)) = decide (0 < d) := by rw [Bool.eq_iff_iff, decide_eq_true_eq, decide_eq_true_eq]; omega
  rw [B.l1__law_tree]
  simp only [exs_cons, exs_nil, ex_set, ex_ife, ev_call, ev_band, ev_cmp, ev_bin, ev_slot, ev_cst, evL_cons, evL_nil, getS0, getSs, md_false, md_true, bind_ok, cons_ok, add_ii, c1, toS_ok, setE0, setEs, seq_nx, rel_dat, rel_o2, rel_nil, gt_ii, fd_16, mo_2, eq_ii, and_b, if_b, h0]
  cases d with
  | zero =>
    rw [show decide (0 < 0) = false from rfl, Bool.false_and, if_neg Bool.false_ne_true]
    refine ⟨.line s, some (.int (drawI n (30 + k))), x5, x6, LOk.line hs, ?_⟩
    simp only [evs, List.cons_append, List.nil_append, es, hline]
    rfl
  | succ e =>
    rw [show decide (0 < e + 1) = true from decide_eq_true (Nat.succ_pos e), Bool.true_and]
    cases hc : (drawI n (30 + k) / 16 % 2 == 0) with
    | false =>
      refine ⟨.line s, some (.int (drawI n (30 + k))), x5, x6, LOk.line hs, ?_⟩
      simp only [evs, List.cons_append, List.nil_append, es, hline, Bool.false_eq_true, if_false]
      rfl
    | true =>
      have b1 := Int.emod_nonneg (drawI n (30 + k) / 32) (b := 3) (by decide)
      have b2 := Int.emod_lt_of_pos (drawI n (30 + k) / 32) (b := 3) (by decide)
      obtain ⟨as, e1, e2, e3⟩ := lc_ex (g := gOf P (m + 1)) (env := [some (.dat (.int n)), some (.dat (.int ((e + 1 : Nat) : Int))), some (.dat (.tuple (encT t))), some (.dat (.int k)), some (.dat (.int (drawI n (30 + k)))), o2 x5, o2 x6]) (i := 6) (ws := [6]) (elt := .call "_law_tree" [.call "_law_drawn" [.slot 4, .slot 6], .bin .Sub (.slot 1) (.cst (.int 1))]) (enc := fun p => .tuple (encT p)) (Q := DTree e) (rngL 0 (1 + drawI n (30 + k) / 32 % 3)) (fun d hd => by
        obtain ⟨j, rfl, _, _⟩ := rngL_mem hd
        have c2 : callR (gOf P (m + 1)) "_law_drawn" [.int (drawI n (30 + k)), .int j] = .ok (.int (drawI (drawI n (30 + k)) j)) := (H.draw.drawn.call rfl).trans (run_drawn H.draw _ j)
        obtain ⟨p, hp, ep⟩ := ih e rfl (drawI (drawI n (30 + k)) j)
        have c3 : callR (gOf P (m + 1)) "_law_tree" [.int (drawI (drawI n (30 + k)) j), .int (e : Int)] = .ok (.tuple (encT p)) := (H.tree.call rfl).trans ep
        have he : ((e + 1 : Nat) : Int) - 1 = (e : Int) := by omega
        exact ⟨p, hp, by simp only [evs, List.cons_append, List.nil_append, wipeE, c2, he, c3]⟩) (by rw [rngL_len]; exact lim2 (by omega))
      have hl : ev (gOf P (m + 1)) false (.lc [6] (.nm 6) (.rng (.cst (.int 0)) (.bin .Add (.cst (.int 1)) (.bin .Mod (.bin .FloorDiv (.slot 4) (.cst (.int 32))) (.cst (.int 3))))) (.cst (.bool true)) (.call "_law_tree" [.call "_law_drawn" [.slot 4, .slot 6], .bin .Sub (.slot 1) (.cst (.int 1))])) [some (.dat (.int n)), some (.dat (.int ((e + 1 : Nat) : Int))), some (.dat (.tuple (encT t))), some (.dat (.int k)), some (.dat (.int (drawI n (30 + k)))), o2 x5, o2 x6] = .ok (.list (as.map fun p => .tuple (encT p))) := by
        rw [ev_lc, md_false]
        have hi : evI (gOf P (m + 1)) (.rng (.cst (.int 0)) (.bin .Add (.cst (.int 1)) (.bin .Mod (.bin .FloorDiv (.slot 4) (.cst (.int 32))) (.cst (.int 3))))) [some (.dat (.int n)), some (.dat (.int ((e + 1 : Nat) : Int))), some (.dat (.tuple (encT t))), some (.dat (.int k)), some (.dat (.int (drawI n (30 + k)))), o2 x5, o2 x6] = .ok (rngL 0 (1 + drawI n (30 + k) / 32 % 3)) := by
          simp only [evs, List.cons_append, List.nil_append, rng_ii (show -4611686018427387904 ≤ (0 : Int) ∧ (0 : Int) < 4611686018427387904 by decide) (show -4611686018427387904 ≤ 1 + drawI n (30 + k) / 32 % 3 ∧ 1 + drawI n (30 + k) / 32 % 3 < 4611686018427387904 by omega)]
        rw [hi, bind_ok, e3]
      have hlet : binD .Add (.tuple (encT t)) (.tuple [.tuple [.str nm, .tuple (as.map fun p => .tuple (encT p))]]) = .ok (.tuple (encT (t ++ [.letter nm as]))) := by
        rw [← encPs_map]
        exact hadd (.letter nm as)
      have hlen : as.length = (1 + drawI n (30 + k) / 32 % 3).toNat := by rw [e1, rngL_len, Int.sub_zero]
      refine ⟨.letter nm as, some (.int (drawI n (30 + k))), some (.tuple (as.map fun p => .tuple (encT p))), x6, .inr ⟨nm, as, rfl, hnm, by omega, by omega, e2⟩, ?_⟩
      simp only [evs, List.cons_append, List.nil_append, hl, enm, hlet, if_true]
      rfl
theorem run_tree1 (H : HasTr P) (d : Nat) (ih : ∀ e, d = e + 1 → ∀ n : Int, ∃ t, DTree e t ∧ run P (m + 1) "_law_tree" [.int n, .int (e : Int)] = .ok (.tuple (encT t))) (n : Int) : ∃ t, DTree d t ∧ run P (m + 2) "_law_tree" [.int n, .int (d : Int)] = .ok (.tuple (encT t)) := by
  rw [H.tree.run]
  have b1 := Int.emod_nonneg (n / 16) (b := 4) (by decide)
  have b2 := Int.emod_lt_of_pos (n / 16) (b := 4) (by decide)
  obtain ⟨env', h1, t, x3, x4, x5, x6, h2, h3, h4⟩ := for_inv (tg := .nm 3) (body := fun e => exs (gOf P (m + 1)) B.l1__law_tree e) (fun j env => ∃ (t : List Leaf) (x3 x4 x5 x6 : Option D), env = [some (.dat (.int n)), some (.dat (.int (d : Int))), some (.dat (.tuple (encT t))), o2 x3, o2 x4, o2 x5, o2 x6] ∧ t.length = j ∧ ∀ l ∈ t, LOk d l)
    (rngL 0 (n / 16 % 4)) 0 [some (.dat (.int n)), some (.dat (.int (d : Int))), some (.dat (.tuple [])), none, none, none, none] ⟨[], none, none, none, none, rfl, rfl, fun _ h => nomatch h⟩ (by
      rintro j x hx env ⟨t, x3, x4, x5, x6, rfl, hl, ht⟩
      have hj := (List.getElem?_eq_some_iff.mp hx).1
      rw [rngL_len] at hj
      obtain ⟨k, rfl, _, _⟩ := rngL_mem (List.mem_of_getElem? hx)
      obtain ⟨l, y4, y5, y6, q1, q2⟩ := tree_turn H n d t (by omega) ht k x4 x5 x6 ih
      refine ⟨_, rfl, _, .inl q2, t ++ [l], some (.int k), y4, y5, y6, rfl, by rw [List.length_append, List.length_singleton, hl], fun y hy => ?_⟩
      rcases List.mem_append.mp hy with hy | hy
      · exact ht y hy
      · rw [List.mem_singleton.mp hy]; exact q1)
  refine ⟨t, ⟨by rw [h3, rngL_len]; omega, h4⟩, ?_⟩
  simp only [B._law_tree, evs, List.cons_append, List.nil_append, ex_for, rng_ii (show -4611686018427387904 ≤ (0 : Int) ∧ (0 : Int) < 4611686018427387904 by decide) (show -4611686018427387904 ≤ n / 16 % 4 ∧ n / 16 % 4 < 4611686018427387904 by omega)]
  rw [h1, h2]
  cases x3 <;> cases x4 <;> cases x5 <;> cases x6 <;> rfl
theorem run_tree (H : HasTr P) : ∀ (d : Nat) (m : Nat) (n : Int), ∃ t, DTree d t ∧ run P (m + d + 2) "_law_tree" [.int n, .int (d : Int)] = .ok (.tuple (encT t))
  | 0, m, n => run_tree1 H 0 (fun e h => by cases h) n
  | d + 1, m, n => run_tree1 (m := m + (d + 1)) H (d + 1) (fun e h n => by
    cases h
    exact run_tree H d m n) n
end
end Ev
/-! EvW: more rules: loops one turn at a time, slices, equality. -/
namespace Ev
open PySem PySem.Spec PyProof.Rows L2
/-! ### loops -/
def aftR (r : RS) (k : Env → RS) : RS := match r with
  | .nx e => k e | .ct e => k e | .bk e => .nx e | .rt d => .rt d | .exc c => .exc c | .bad => .bad
def bndR (r : R Env) (k : Env → RS) : RS := match r with
  | .ok e => k e | _ => .bad
section
variable {tg : Tg} {body : Env → RS} {d : D} {r : List D} {env : Env}
theorem fl_nil : forLoop tg body [] env = .nx env := rfl
theorem fl_cons : forLoop tg body (d :: r) env = bndR (bindT tg d env) fun e1 => aftR (body e1) (forLoop tg body r) := by
  rw [forLoop]
  cases bindT tg d env with
  | ok e =>
    show _ = aftR (body e) (forLoop tg body r)
    dsimp only
    cases body e <;> rfl
  | _ => rfl
end
theorem bnd_ok (e : Env) (k : Env → RS) : bndR (.ok e) k = k e := rfl
theorem aft_nx (e : Env) (k : Env → RS) : aftR (.nx e) k = k e := rfl
theorem aft_ct (e : Env) (k : Env → RS) : aftR (.ct e) k = k e := rfl
theorem aft_bk (e : Env) (k : Env → RS) : aftR (.bk e) k = .nx e := rfl
theorem aft_rt (e : D) (k : Env → RS) : aftR (.rt e) k = .rt e := rfl
theorem aft_exc (e : Str) (k : Env → RS) : aftR (.exc e) k = .exc e := rfl
/-! ### comprehensions over typed lists -/
theorem ev_lcT {β : Type} {g : G} {env : Env} {ws : List Nat} {tg : Tg} {it : Wk} {c e : E} {xs : List β} {ec : β → D} {b : β → Env} {p : β → Bool} {f : β → D}
    (hi : evI g it env = .ok (xs.map ec)) (hb : ∀ x ∈ xs, bindT tg (ec x) (wipeE env ws) = .ok (b x)) (hc : ∀ x ∈ xs, ev g true c (b x) = .ok (.bool (p x)))
    (he : ∀ x ∈ xs, p x = true → ev g false e (b x) = .ok (f x)) (hl : xs.length ≤ lim) :
    ev g false (.lc ws tg it c e) env = .ok (.list ((xs.filter p).map f)) := by
  have gen : ∀ (xs : List β) (acc : List D), (∀ x ∈ xs, bindT tg (ec x) (wipeE env ws) = .ok (b x)) → (∀ x ∈ xs, ev g true c (b x) = .ok (.bool (p x))) → (∀ x ∈ xs, p x = true → ev g false e (b x) = .ok (f x)) → acc.length + xs.length ≤ lim →
      lcLoop tg (fun env' => noExc (ev g true c env')) (fun env' => noExc (ev g false e env')) ws env (xs.map ec) acc = .ok (.list (acc ++ (xs.filter p).map f)) := by
    intro xs
    induction xs with
    | nil => intro acc _ _ _ _; rw [List.map_nil, lcLoop, List.filter_nil, List.map_nil, List.append_nil]
    | cons x xs ih =>
      intro acc hb hc he hl
      have hlen : acc.length + (xs.length + 1) ≤ lim := hl
      have hb' := fun y hy => hb y (List.mem_cons_of_mem _ hy)
      have hc' := fun y hy => hc y (List.mem_cons_of_mem _ hy)
      have he' := fun y hy => he y (List.mem_cons_of_mem _ hy)
      rw [List.map_cons, lcLoop, hb x List.mem_cons_self, bind_ok, hc x List.mem_cons_self]
      cases hp : p x with
      | true =>
        show ((noExc (ev g false e (b x))) >>= _) = _
        rw [he x List.mem_cons_self hp]
        show (if acc.length < lim then _ else _) = _
        rw [if_pos (by omega), ih _ hb' hc' he' (by rw [List.length_append, List.length_singleton]; omega), List.filter_cons, if_pos hp, List.map_cons, List.append_assoc]
        rfl
      | false =>
        show lcLoop _ _ _ _ _ _ _ = _
        rw [ih _ hb' hc' he' (by omega), List.filter_cons, if_neg (by rw [hp]; exact Bool.false_ne_true)]
  rw [ev_lc, md_false, hi, bind_ok, gen xs [] hb hc he (by simpa using hl), List.nil_append]
/-- without a condition -/
theorem ev_lcM {β : Type} {g : G} {env : Env} {ws : List Nat} {tg : Tg} {it : Wk} {e : E} {xs : List β} {ec : β → D} {b : β → Env} {f : β → D}
    (hi : evI g it env = .ok (xs.map ec)) (hb : ∀ x ∈ xs, bindT tg (ec x) (wipeE env ws) = .ok (b x))
    (he : ∀ x ∈ xs, ev g false e (b x) = .ok (f x)) (hl : xs.length ≤ lim) :
    ev g false (.lc ws tg it (.cst (.bool true)) e) env = .ok (.list (xs.map f)) := by
  rw [ev_lcT (p := fun _ => true) hi hb (fun _ _ => rfl) (fun x h _ => he x h) hl, List.filter_eq_self.mpr (fun _ _ => rfl)]
/-! ### items and slices -/
theorem ixt_nat {xs : List D} {j : Nat} {v : D} (h : xs[j]? = some v) : ixD (.tuple xs) (.int (j : Int)) = .ok v := by
  show (match L2.atI xs (j : Int) with | some d => R.ok d | none => .bad) = _
  rw [L2.atI_nat h]
theorem ixl_nat {xs : List D} {j : Nat} {v : D} (h : xs[j]? = some v) : ixD (.list xs) (.int (j : Int)) = .ok v := ixt_nat h
theorem ixt_last (xs : List D) (v : D) : ixD (.tuple (xs ++ [v])) (.int (-1)) = .ok v := by
  show (match L2.atI (xs ++ [v]) (-1) with | some d => R.ok d | none => .bad) = _
  rw [L2.atI_last]
theorem ixl_last (xs : List D) (v : D) : ixD (.list (xs ++ [v])) (.int (-1)) = .ok v := ixt_last xs v
theorem ixl_0 (a : D) (r : List D) : ixD (.list (a :: r)) (.int 0) = .ok a := atI_0 a r
theorem ixl_1 (a b : D) (r : List D) : ixD (.list (a :: b :: r)) (.int 1) = .ok b := atI_1 a b r
theorem ixt_2 (a b c : D) (r : List D) : ixD (.tuple (a :: b :: c :: r)) (.int 2) = .ok c := ixt_nat (j := 2) rfl
theorem cutL_to {α : Type} (xs : List α) (k : Nat) : cutL xs none (some (k : Int)) = xs.take k := by
  unfold cutL
  rw [HT.sIx_none, HT.sIx_nat, List.drop_zero, Nat.sub_zero]
  rcases Nat.le_total k xs.length with h | h
  · rw [Nat.min_eq_left h]
  · rw [Nat.min_eq_right h, List.take_length, List.take_of_length_le h]
theorem cutL_from {α : Type} (xs : List α) (k : Nat) : cutL xs (some (k : Int)) none = xs.drop k := by
  unfold cutL
  rw [HT.sIx_none, HT.sIx_nat]
  rcases Nat.le_total k xs.length with h | h
  · rw [Nat.min_eq_left h, List.take_of_length_le (by rw [List.length_drop]; exact Nat.le_refl _)]
  · rw [Nat.min_eq_right h, Nat.sub_self, List.take_zero, List.drop_of_length_le h]
theorem cutL_init {α : Type} (xs : List α) : cutL xs none (some (-1)) = xs.dropLast := by
  unfold cutL
  rw [HT.sIx_none, List.drop_zero, Nat.sub_zero]
  have e : HT.sIx xs.length xs.length (some (-1)) = xs.length - 1 := by
    show (if (-1 : Int) < 0 then ((-1 : Int) + (xs.length : Int)).toNat else min (-1 : Int).toNat xs.length) = _
    rw [if_pos (by decide)]
    omega
  rw [e, List.dropLast_eq_take]
theorem cutL_end {α : Type} (xs : List α) (v : α) : cutL (xs ++ [v]) (some (-1)) none = [v] := by
  unfold cutL
  have e : HT.sIx (xs ++ [v]).length 0 (some (-1)) = xs.length := by
    show (if (-1 : Int) < 0 then ((-1 : Int) + ((xs ++ [v]).length : Int)).toNat else min (-1 : Int).toNat (xs ++ [v]).length) = _
    rw [if_pos (by decide), List.length_append, List.length_singleton]
    omega
  rw [e, HT.sIx_none, List.length_append, List.length_singleton, List.drop_left]
  rw [show xs.length + 1 - xs.length = 1 by omega]
  rfl
theorem cutL_end0 {α : Type} : cutL ([] : List α) (some (-1)) none = [] := rfl
theorem cut_to (xs : List D) (k : Nat) : cutD (.tuple xs) none (some (k : Int)) = .ok (.tuple (xs.take k)) := by rw [← cutL_to]; rfl
theorem cut_from (xs : List D) (k : Nat) : cutD (.tuple xs) (some (k : Int)) none = .ok (.tuple (xs.drop k)) := by rw [← cutL_from]; rfl
theorem cut_from1 (xs : List D) : cutD (.tuple xs) (some 1) none = .ok (.tuple (xs.drop 1)) := cut_from xs 1
theorem cut_from2 (xs : List D) : cutD (.tuple xs) (some 2) none = .ok (.tuple (xs.drop 2)) := cut_from xs 2
theorem cut_fromS (xs : List D) (k : Nat) : cutD (.tuple xs) (some ((k : Int) + 1)) none = .ok (.tuple (xs.drop (k + 1))) := cut_from xs (k + 1)
theorem cut_init (xs : List D) : cutD (.tuple xs) none (some (-1)) = .ok (.tuple xs.dropLast) := by rw [← cutL_init]; rfl
theorem cut_end (xs : List D) (v : D) : cutD (.tuple (xs ++ [v])) (some (-1)) none = .ok (.tuple [v]) := by
  show R.ok (PyData.tuple (cutL (xs ++ [v]) (some (-1)) none)) = _
  rw [cutL_end]
theorem cut_end0 : cutD (.tuple []) (some (-1)) none = .ok (.tuple []) := rfl
theorem rev_tt (xs : List D) : revD (.tuple xs) = .ok (.tuple xs.reverse) := rfl
theorem addT {xs ys : List D} (h : xs.length + ys.length ≤ 16777216) : binD .Add (.tuple xs) (.tuple ys) = .ok (.tuple (xs ++ ys)) := add_tt h
theorem addL {xs ys : List D} (h : xs.length + ys.length ≤ 16777216) : binD .Add (.list xs) (.list ys) = .ok (.list (xs ++ ys)) := add_ll h
/-! ### texts -/
def sk (z : Str) : Bool := decide (z.length ≤ 1000) && PyData.strOk z
theorem sk_tm {n : Nat} {z : Str} (h : sk z = true) : Tm n (.str z) := by
  unfold sk at h
  rw [Bool.and_eq_true, decide_eq_true_eq] at h
  cases n <;> exact ⟨lim2 h.1, h.2⟩
theorem sk_shp {z : Str} (h : sk z = true) : shp (.str z) = true := (sk_tm (n := 0) h).shp (by decide)
theorem sk_len {z : Str} (h : sk z = true) : z.length ≤ 1000 := by
  unfold sk at h
  rw [Bool.and_eq_true, decide_eq_true_eq] at h
  exact h.1
theorem eqv_ss (a b : Str) : PyData.eqv (.str a) (.str b) = decide (a = b) := by
  show (a == b) = _
  rw [Bool.eq_iff_iff, beq_iff_eq, decide_eq_true_eq]
theorem eq_ss {a b : Str} (ha : sk a = true) (hb : sk b = true) : cmpD .Eq (.str a) (.str b) = .ok (.bool (decide (a = b))) := by
  rw [eq_cmp (sk_shp ha) (sk_shp hb), eqv_ss]
theorem ne_ss {a b : Str} (ha : sk a = true) (hb : sk b = true) : cmpD .NotEq (.str a) (.str b) = .ok (.bool (!decide (a = b))) := by
  rw [ne_cmp (sk_shp ha) (sk_shp hb), eqv_ss]
/-! ### equality -/
theorem shp_lay {d : D} (h : shp d = true) : PyData.canLay0 d = true := by
  have h' : (PyData.canLay0 d && decide (PyData.depth d ≤ 64)) = true := h
  rw [Bool.and_eq_true] at h'
  exact h'.1
theorem eqv_refl (d : D) (h : shp d = true) : PyData.eqv d d = true := SeqAt.eqv_refl d (shp_lay h)
theorem eq_self {d : D} (h : shp d = true) : cmpD .Eq d d = .ok (.bool true) := by rw [eq_cmp h h, eqv_refl d h]
theorem ne_self {d : D} (h : shp d = true) : cmpD .NotEq d d = .ok (.bool false) := by rw [ne_cmp h h, eqv_refl d h]; rfl
theorem eq_pair {a b c d : D} (h1 : shp (.tuple [a, b]) = true) (h2 : shp (.tuple [c, d]) = true) : cmpD .Eq (.tuple [a, b]) (.tuple [c, d]) = .ok (.bool (PyData.eqv a c && PyData.eqv b d)) := by
  rw [eq_cmp h1 h2]
  show R.ok (PyData.bool (PyData.eqv a c && (PyData.eqv b d && true))) = _
  rw [Bool.and_true]
/-- no truths, no dicts in it -/
def nbAll : List D → (D → Bool) → Bool
  | [], _ => true
  | x :: xs, f => f x && nbAll xs f
mutual
def nb : D → Bool
  | .none => true
  | .bool _ => false
  | .int _ => true
  | .str _ => true
  | .list xs => nbs xs
  | .tuple xs => nbs xs
  | .dict _ => false
def nbs : List D → Bool
  | [] => true
  | x :: xs => nb x && nbs xs
end
mutual
theorem eqv_nb : ∀ (d e : D), nb d = true → nb e = true → PyData.eqv d e = true → d = e
  | .none, .none, _, _, _ => rfl
  | .int i, .int j, _, _, h => by
    have h' : (i == j) = true := h
    rw [beq_iff_eq] at h'
    rw [h']
  | .str i, .str j, _, _, h => by
    have h' : (i == j) = true := h
    rw [beq_iff_eq] at h'
    rw [h']
  | .list xs, .list ys, h1, h2, h => congrArg _ (eqv_nbs xs ys h1 h2 h)
  | .tuple xs, .tuple ys, h1, h2, h => congrArg _ (eqv_nbs xs ys h1 h2 h)
  | .bool _, _, h1, _, _ => Bool.noConfusion h1
  | .dict _, _, h1, _, _ => Bool.noConfusion h1
  | _, .bool _, _, h1, _ => Bool.noConfusion h1
  | _, .dict _, _, h1, _ => Bool.noConfusion h1
  | .none, .int _, _, _, h => Bool.noConfusion h
  | .none, .str _, _, _, h => Bool.noConfusion h
  | .none, .list _, _, _, h => Bool.noConfusion h
  | .none, .tuple _, _, _, h => Bool.noConfusion h
  | .int _, .none, _, _, h => Bool.noConfusion h
  | .int _, .str _, _, _, h => Bool.noConfusion h
  | .int _, .list _, _, _, h => Bool.noConfusion h
  | .int _, .tuple _, _, _, h => Bool.noConfusion h
  | .str _, .none, _, _, h => Bool.noConfusion h
  | .str _, .int _, _, _, h => Bool.noConfusion h
  | .str _, .list _, _, _, h => Bool.noConfusion h
  | .str _, .tuple _, _, _, h => Bool.noConfusion h
  | .list _, .none, _, _, h => Bool.noConfusion h
  | .list _, .int _, _, _, h => Bool.noConfusion h
  | .list _, .str _, _, _, h => Bool.noConfusion h
  | .list _, .tuple _, _, _, h => Bool.noConfusion h
  | .tuple _, .none, _, _, h => Bool.noConfusion h
  | .tuple _, .int _, _, _, h => Bool.noConfusion h
  | .tuple _, .str _, _, _, h => Bool.noConfusion h
  | .tuple _, .list _, _, _, h => Bool.noConfusion h
theorem eqv_nbs : ∀ (xs ys : List D), nbs xs = true → nbs ys = true → PyData.eqvAll xs ys = true → xs = ys
  | [], [], _, _, _ => rfl
  | x :: xs, y :: ys, h1, h2, h => by
    have h1' : (nb x && nbs xs) = true := h1
    have h2' : (nb y && nbs ys) = true := h2
    have h' : (PyData.eqv x y && PyData.eqvAll xs ys) = true := h
    rw [Bool.and_eq_true] at h1' h2' h'
    rw [eqv_nb x y h1'.1 h2'.1 h'.1, eqv_nbs xs ys h1'.2 h2'.2 h'.2]
  | [], _ :: _, _, _, h => Bool.noConfusion h
  | _ :: _, [], _, _, h => Bool.noConfusion h
end
theorem nbs_all (xs : List D) (h : ∀ x ∈ xs, nb x = true) : nbs xs = true := by
  induction xs with
  | nil => rfl
  | cons x xs ih =>
    show (nb x && nbs xs) = true
    rw [h x List.mem_cons_self, ih fun y hy => h y (List.mem_cons_of_mem _ hy)]
    rfl
theorem eqv_dec {d e : D} (h : shp d = true) (h1 : nb d = true) (h2 : nb e = true) [Decidable (d = e)] : PyData.eqv d e = decide (d = e) := by
  rw [Bool.eq_iff_iff, decide_eq_true_eq]
  exact ⟨eqv_nb d e h1 h2, fun q => q ▸ eqv_refl d h⟩
theorem eqv_ne {d e : D} (h1 : nb d = true) (h2 : nb e = true) (h : d ≠ e) : PyData.eqv d e = false := by
  cases q : PyData.eqv d e with
  | false => rfl
  | true => exact absurd (eqv_nb d e h1 h2 q) h
/-! ### what may be looked at -/
theorem tm_t {n : Nat} {xs : List D} (h : ∀ x ∈ xs, Tm n x) (hl : xs.length ≤ lim) : Tm (n + 1) (.tuple xs) := ⟨hl, h⟩
theorem tm_l {n : Nat} {xs : List D} (h : ∀ x ∈ xs, Tm n x) (hl : xs.length ≤ lim) : Tm (n + 1) (.list xs) := ⟨hl, h⟩
theorem tm_nil {n : Nat} : Tm (n + 1) (.tuple []) := ⟨Nat.zero_le _, fun _ h => nomatch h⟩
theorem tm_1 {n : Nat} {a : D} (ha : Tm n a) : Tm (n + 1) (.tuple [a]) := ⟨(by decide : 1 ≤ lim), fun x hx => by rw [List.mem_singleton.mp hx]; exact ha⟩
theorem tm_2 {n : Nat} {a b : D} (ha : Tm n a) (hb : Tm n b) : Tm (n + 1) (.tuple [a, b]) := ⟨(by decide : 2 ≤ lim), fun x hx => by
  simp only [List.mem_cons, List.not_mem_nil, or_false] at hx
  rcases hx with rfl | rfl
  · exact ha
  · exact hb⟩
theorem tm_map {α : Type} {n : Nat} {f : α → D} {xs : List α} (h : ∀ x ∈ xs, Tm n (f x)) (hl : xs.length ≤ lim) : Tm (n + 1) (.tuple (xs.map f)) := ⟨by rw [List.length_map]; exact hl, fun x hx => by
  obtain ⟨y, hy, e⟩ := List.mem_map.mp hx
  rw [← e]; exact h y hy⟩
theorem tm_mapL {α : Type} {n : Nat} {f : α → D} {xs : List α} (h : ∀ x ∈ xs, Tm n (f x)) (hl : xs.length ≤ lim) : Tm (n + 1) (.list (xs.map f)) := ⟨by rw [List.length_map]; exact hl, fun x hx => by
  obtain ⟨y, hy, e⟩ := List.mem_map.mp hx
  rw [← e]; exact h y hy⟩
theorem tm_i {n : Nat} {i : Int} : Tm n (.int i) := by cases n <;> trivial
theorem tm_b {n : Nat} {i : Bool} : Tm n (.bool i) := by cases n <;> trivial
theorem tm_n {n : Nat} : Tm n .none := by cases n <;> trivial
/-! ### words -/
theorem w_line_line : cmpD .Eq (.str "line") (.str "line") = .ok (.bool true) := by kernel_rfl
theorem v_line_line : cmpD .NotEq (.str "line") (.str "line") = .ok (.bool false) := by kernel_rfl
theorem w_line_open : cmpD .Eq (.str "line") (.str "open") = .ok (.bool false) := by kernel_rfl
theorem v_line_open : cmpD .NotEq (.str "line") (.str "open") = .ok (.bool true) := by kernel_rfl
theorem w_line_next : cmpD .Eq (.str "line") (.str "next") = .ok (.bool false) := by kernel_rfl
theorem v_line_next : cmpD .NotEq (.str "line") (.str "next") = .ok (.bool true) := by kernel_rfl
theorem w_line_close : cmpD .Eq (.str "line") (.str "close") = .ok (.bool false) := by kernel_rfl
theorem v_line_close : cmpD .NotEq (.str "line") (.str "close") = .ok (.bool true) := by kernel_rfl
theorem w_open_line : cmpD .Eq (.str "open") (.str "line") = .ok (.bool false) := by kernel_rfl
theorem v_open_line : cmpD .NotEq (.str "open") (.str "line") = .ok (.bool true) := by kernel_rfl
theorem w_open_open : cmpD .Eq (.str "open") (.str "open") = .ok (.bool true) := by kernel_rfl
theorem v_open_open : cmpD .NotEq (.str "open") (.str "open") = .ok (.bool false) := by kernel_rfl
theorem w_open_next : cmpD .Eq (.str "open") (.str "next") = .ok (.bool false) := by kernel_rfl
theorem v_open_next : cmpD .NotEq (.str "open") (.str "next") = .ok (.bool true) := by kernel_rfl
theorem w_open_close : cmpD .Eq (.str "open") (.str "close") = .ok (.bool false) := by kernel_rfl
theorem v_open_close : cmpD .NotEq (.str "open") (.str "close") = .ok (.bool true) := by kernel_rfl
theorem w_next_line : cmpD .Eq (.str "next") (.str "line") = .ok (.bool false) := by kernel_rfl
theorem v_next_line : cmpD .NotEq (.str "next") (.str "line") = .ok (.bool true) := by kernel_rfl
theorem w_next_open : cmpD .Eq (.str "next") (.str "open") = .ok (.bool false) := by kernel_rfl
theorem v_next_open : cmpD .NotEq (.str "next") (.str "open") = .ok (.bool true) := by kernel_rfl
theorem w_next_next : cmpD .Eq (.str "next") (.str "next") = .ok (.bool true) := by kernel_rfl
theorem v_next_next : cmpD .NotEq (.str "next") (.str "next") = .ok (.bool false) := by kernel_rfl
theorem w_next_close : cmpD .Eq (.str "next") (.str "close") = .ok (.bool false) := by kernel_rfl
theorem v_next_close : cmpD .NotEq (.str "next") (.str "close") = .ok (.bool true) := by kernel_rfl
theorem w_close_line : cmpD .Eq (.str "close") (.str "line") = .ok (.bool false) := by kernel_rfl
theorem v_close_line : cmpD .NotEq (.str "close") (.str "line") = .ok (.bool true) := by kernel_rfl
theorem w_close_open : cmpD .Eq (.str "close") (.str "open") = .ok (.bool false) := by kernel_rfl
theorem v_close_open : cmpD .NotEq (.str "close") (.str "open") = .ok (.bool true) := by kernel_rfl
theorem w_close_next : cmpD .Eq (.str "close") (.str "next") = .ok (.bool false) := by kernel_rfl
theorem v_close_next : cmpD .NotEq (.str "close") (.str "next") = .ok (.bool true) := by kernel_rfl
theorem w_close_close : cmpD .Eq (.str "close") (.str "close") = .ok (.bool true) := by kernel_rfl
theorem v_close_close : cmpD .NotEq (.str "close") (.str "close") = .ok (.bool false) := by kernel_rfl
theorem w_told_told : cmpD .Eq (.str "told") (.str "told") = .ok (.bool true) := by kernel_rfl
theorem v_told_told : cmpD .NotEq (.str "told") (.str "told") = .ok (.bool false) := by kernel_rfl
theorem w_told_refused : cmpD .Eq (.str "told") (.str "refused") = .ok (.bool false) := by kernel_rfl
theorem v_told_refused : cmpD .NotEq (.str "told") (.str "refused") = .ok (.bool true) := by kernel_rfl
theorem w_refused_told : cmpD .Eq (.str "refused") (.str "told") = .ok (.bool false) := by kernel_rfl
theorem v_refused_told : cmpD .NotEq (.str "refused") (.str "told") = .ok (.bool true) := by kernel_rfl
theorem w_refused_refused : cmpD .Eq (.str "refused") (.str "refused") = .ok (.bool true) := by kernel_rfl
theorem v_refused_refused : cmpD .NotEq (.str "refused") (.str "refused") = .ok (.bool false) := by kernel_rfl
theorem wds : type_of% (And.intro @w_line_line (And.intro @v_line_line (And.intro @w_line_open (And.intro @v_line_open (And.intro @w_line_next (And.intro @v_line_next (And.intro @w_line_close (And.intro @v_line_close (And.intro @w_open_line (And.intro @v_open_line (And.intro @w_open_open (And.intro @v_open_open (And.intro @w_open_next (And.intro @v_open_next (And.intro @w_open_close (And.intro @v_open_close (And.intro @w_next_line (And.intro @v_next_line (And.intro @w_next_open (And.intro @v_next_open (And.intro @w_next_next (And.intro @v_next_next (And.intro @w_next_close (And.intro @v_next_close (And.intro @w_close_line (And.intro @v_close_line (And.intro @w_close_open (And.intro @v_close_open (And.intro @w_close_next (And.intro @v_close_next (And.intro @w_close_close (And.intro @v_close_close (And.intro @w_told_told (And.intro @v_told_told (And.intro @w_told_refused (And.intro @v_told_refused (And.intro @w_refused_told (And.intro @v_refused_told (And.intro @w_refused_refused @v_refused_refused))))))))))))))))))))))))))))))))))))))) := (And.intro @w_line_line (And.intro @v_line_line (And.intro @w_line_open (And.intro @v_line_open (And.intro @w_line_next (And.intro @v_line_next (And.intro @w_line_close (And.intro @v_line_close (And.intro @w_open_line (And.intro @v_open_line (And.intro @w_open_open (And.intro @v_open_open (And.intro @w_open_next (And.intro @v_open_next (And.intro @w_open_close (And.intro @v_open_close (And.intro @w_next_line (And.intro @v_next_line (And.intro @w_next_open (And.intro @v_next_open (And.intro @w_next_next (And.intro @v_next_next (And.intro @w_next_close (And.intro @v_next_close (And.intro @w_close_line (And.intro @v_close_line (And.intro @w_close_open (And.intro @v_close_open (And.intro @w_close_next (And.intro @v_close_next (And.intro @w_close_close (And.intro @v_close_close (And.intro @w_told_told (And.intro @v_told_told (And.intro @w_told_refused (And.intro @v_told_refused (And.intro @w_refused_told (And.intro @v_refused_told (And.intro @w_refused_refused @v_refused_refused)))))))))))))))))))))))))))))))))))))))
theorem sk_0 : sk "line" = true := by kernel_rfl
theorem sk_1 : sk "open" = true := by kernel_rfl
theorem sk_2 : sk "next" = true := by kernel_rfl
theorem sk_3 : sk "close" = true := by kernel_rfl
theorem sk_4 : sk "a" = true := by kernel_rfl
theorem sk_5 : sk "b" = true := by kernel_rfl
theorem sk_6 : sk "cd" = true := by kernel_rfl
theorem sk_7 : sk "zz" = true := by kernel_rfl
theorem sk_8 : sk "new" = true := by kernel_rfl
theorem sk_9 : sk "told" = true := by kernel_rfl
theorem sk_10 : sk "refused" = true := by kernel_rfl
theorem sk_11 : sk "" = true := by kernel_rfl
theorem sk_12 : sk "x y" = true := by kernel_rfl
theorem sk_13 : sk "[a" = true := by kernel_rfl
theorem sk_14 : sk "hello" = true := by kernel_rfl
theorem sk_15 : sk "~ ~" = true := by kernel_rfl
theorem sk_16 : sk "]b" = true := by kernel_rfl
theorem sk_17 : sk "none" = true := by kernel_rfl
theorem sk_18 : sk "x" = true := by kernel_rfl
theorem sk_19 : sk "y" = true := by kernel_rfl
theorem sk_20 : sk "z" = true := by kernel_rfl
theorem sk_21 : sk "nope" = true := by kernel_rfl
theorem skw : type_of% (And.intro @sk_0 (And.intro @sk_1 (And.intro @sk_2 (And.intro @sk_3 (And.intro @sk_4 (And.intro @sk_5 (And.intro @sk_6 (And.intro @sk_7 (And.intro @sk_8 (And.intro @sk_9 (And.intro @sk_10 (And.intro @sk_11 (And.intro @sk_12 (And.intro @sk_13 (And.intro @sk_14 (And.intro @sk_15 (And.intro @sk_16 (And.intro @sk_17 (And.intro @sk_18 (And.intro @sk_19 (And.intro @sk_20 @sk_21))))))))))))))))))))) := (And.intro @sk_0 (And.intro @sk_1 (And.intro @sk_2 (And.intro @sk_3 (And.intro @sk_4 (And.intro @sk_5 (And.intro @sk_6 (And.intro @sk_7 (And.intro @sk_8 (And.intro @sk_9 (And.intro @sk_10 (And.intro @sk_11 (And.intro @sk_12 (And.intro @sk_13 (And.intro @sk_14 (And.intro @sk_15 (And.intro @sk_16 (And.intro @sk_17 (And.intro @sk_18 (And.intro @sk_19 (And.intro @sk_20 @sk_21)))))))))))))))))))))
/-! ### told -/
theorem ev_told {P : Pr} {m : Nat} {q : Bool} {a : E} {env : Env} : ev (gOf P (m + 2)) q (.told a) env = md q (toldR P.ex (ev ((gOf P (m + 2)).low (run P m)) false a env)) := rfl
theorem call_low {P : Pr} {n m : Nat} {f : Str} {ds : List D} : callR ((gOf P n).low (run P m)) f ds = callR (gOf P m) f ds := rfl
theorem told_ok (x : Str → Option Nat) (d : D) : toldR x (.ok d) = .ok (.tuple [.str "told", d]) := rfl
theorem told_exc {x : Str → Option Nat} {c : Str} {k : Nat} (h : x c = some k) : toldR x (.exc c) = .ok (.tuple [.str "refused", .int (k : Int)]) := by
  show (match x c with | some k => R.ok (PyData.tuple [.str "refused", .int (k : Int)]) | none => .bad) = _
  rw [h]
theorem Has.body {P : Pr} {f : Str} {k n : Nat} {b : List S} (h : Has P f k n b) {m : Nat} {ds : List D} (hl : ds.length = k) : callR (gOf P (m + 1)) f ds = (exs (gOf P m) b (startE n ds)).out :=
  (h.call hl).trans (h.run m ds)
/-! ### own lists -/
def ownR (d : D) (k : List D → RS) : RS := match d with
  | .list ds => k ds
  | _ => .bad
def appR (s : Option (Option Sl)) (r : R D) (k : List D → D → RS) : RS := match s with
  | some (some (.own ds)) => r.toS fun d => if ds.length < lim then k ds d else .bad
  | _ => .bad
def popR (s : Option (Option Sl)) (k : List D → RS) : RS := match s with
  | some (some (.own ds)) => if ds.isEmpty then .bad else k ds.dropLast
  | _ => .bad
def frzR (env : Env) (j : Nat) (s : Option (Option Sl)) : Env := match s with
  | some (some (.own ds)) => env.set j (some (.dat (.list ds)))
  | _ => env
def parR (r : R (List D)) (k : List D → RS) : RS := match r with
  | .ok ds => k ds
  | .exc c => .exc c
  | .bad => .bad
section
variable {g : G} {env : Env}
theorem ex_seto (i : Nat) (e : E) : ex1 g (.seto i e) env = (ev g false e env).toS fun d => ownR d fun ds => .nx (env.set i (some (.own ds))) := rfl
theorem ex_app (i : Nat) (e : E) : ex1 g (.app i e) env = appR env[i]? (ev g false e env) fun ds d => .nx (env.set i (some (.own (ds ++ [d])))) := rfl
theorem ex_pop (i : Nat) : ex1 g (.pop i) env = popR env[i]? fun ds => .nx (env.set i (some (.own ds))) := rfl
theorem ex_par (is : List Nat) (es : List E) : ex1 g (.par is es) env = parR (evL g es env) fun ds => (setAll env is ds).toE := by
  show (match evL g es env with | .ok ds => (setAll env is ds).toE | .exc c => .exc c | .bad => .bad) = _
  cases evL g es env <;> rfl
theorem own_l (ds : List D) (k : List D → RS) : ownR (.list ds) k = k ds := rfl
theorem app_own {ds : List D} {d : D} {k : List D → D → RS} (h : ds.length < 16777216) : appR (some (some (.own ds))) (.ok d) k = k ds d := if_pos h
theorem pop_own (ds : List D) (d : D) (k : List D → RS) : popR (some (some (.own (ds ++ [d])))) k = k ds := by
  show (if (ds ++ [d]).isEmpty then RS.bad else k (ds ++ [d]).dropLast) = _
  rw [List.dropLast_concat]
  cases ds <;> rfl
theorem par_ok (ds : List D) (k : List D → RS) : parR (.ok ds) k = k ds := rfl
theorem set_nil : setAll env [] [] = .ok env := rfl
theorem set_cons (i : Nat) (is : List Nat) (d : D) (ds : List D) : setAll env (i :: is) (d :: ds) = setAll (env.set i (some (.dat d))) is ds := rfl
theorem frz_nil : frz env [] = env := rfl
theorem frz_cons (j : Nat) (js : List Nat) : frz env (j :: js) = frz (frzR env j env[j]?) js := rfl
theorem frz_own (j : Nat) (ds : List D) : frzR env j (some (some (.own ds))) = env.set j (some (.dat (.list ds))) := rfl
theorem frz_dat (j : Nat) (d : D) : frzR env j (some (some (.dat d))) = env := rfl
theorem frz_no (j : Nat) : frzR env j (some none) = env := rfl
theorem frz_o2 (j : Nat) (x : Option D) : frzR env j (some (o2 x)) = env := by cases x <;> rfl
end
theorem enum_nil (k : Int) : enumFrom k [] = [] := rfl
theorem enum_cons (k : Int) (d : D) (r : List D) : enumFrom k (d :: r) = .tuple [.int k, d] :: enumFrom (k + 1) r := rfl
theorem wipe_nil (env : Env) : wipeE env [] = env := rfl
theorem wipe_cons (env : Env) (i : Nat) (is : List Nat) : wipeE env (i :: is) = (wipeE env is).set i none := rfl
theorem enc_line (s : Str) : (Row.line s).enc = .tuple [.str "line", .str s] := rfl
theorem enc_op (s : Str) : (Row.op s).enc = .tuple [.str "open", .str s] := rfl
theorem enc_nx (s : Str) : (Row.nx s).enc = .tuple [.str "next", .str s] := rfl
theorem enc_cl (s : Str) : (Row.cl s).enc = .tuple [.str "close", .str s] := rfl
theorem ite_true_b {α : Type} (a b : α) : (if true = true then a else b) = a := rfl
theorem ite_false_b {α : Type} (a b : α) : (if false = true then a else b) = b := rfl
/-- a loop's body, as one thing -/
def exB (g : G) (b : List S) : Env → RS := fun env => exs g b env
theorem exB_cons (g : G) (b : List S) (x : Option Sl) (r : Env) : exB g b (x :: r) = exs g b (x :: r) := rfl
theorem ex_forB {g : G} {env : Env} (t : Tg) (it : Wk) (b : List S) : ex1 g (.for t it b) env = forS' (evI g it env) fun ds => forLoop t (exB g b) ds env := ex_for t it b
end Ev
/-! EvSh: sheets: opened, stuck, is_sheet, open_names. -/
namespace Ev
open PySem PySem.Spec PyProof.Rows L2
/-- a row whose texts are short -/
def Row.ok : Row → Bool
  | .line s => sk s
  | .op s => sk s
  | .nx s => sk s
  | .cl s => sk s
def stk (st : List Str) : List D := st.reverse.map PyData.str
theorem stk_nil : stk [] = [] := rfl
theorem stk_cons (t : Str) (st : List Str) : stk (t :: st) = stk st ++ [.str t] := by
  unfold stk
  rw [List.reverse_cons, List.map_append]
  rfl
theorem stk_len (st : List Str) : (stk st).length = st.length := by
  unfold stk
  rw [List.length_map, List.length_reverse]
/-- the names that are open (the last first), and the row at which it is stuck -/
def opn : List Row → List Str → Int → List Str × Option Int
  | [], st, _ => (st, none)
  | .line _ :: rs, st, k => opn rs st (k + 1)
  | .op n :: rs, st, k => opn rs (n :: st) (k + 1)
  | .nx _ :: _, [], k => ([], some (k + 1))
  | .nx n :: rs, t :: st, k => if t = n then opn rs (t :: st) (k + 1) else (t :: st, some (k + 1))
  | .cl _ :: _, [], k => ([], some (k + 1))
  | .cl n :: rs, t :: st, k => if t = n then opn rs st (k + 1) else (t :: st, some (k + 1))
def optI : Option Int → D
  | none => .none
  | some i => .int i
structure HasSheet (P : Pr) : Prop where
  opened : Has P "opened" 1 4 B.opened
  g1 : P.gl "OPEN" = some (.str "open")
  g2 : P.gl "LINE" = some (.str "line")
  g3 : P.gl "CLOSE" = some (.str "close")
theorem len_app1 (a : List D) (d : D) : (((a ++ [d]).length : Int) == 0) = false := by
  rw [List.length_append, List.length_singleton, beq_eq_false_iff_ne]
  omega
section
variable {P : Pr} {m : Nat}
theorem loop_opened (H : HasSheet P) : ∀ (rs : List Row) (k : Int) (st : List Str) (a0 : D) (x2 x3 : Option D), (∀ r ∈ rs, r.ok = true) → (∀ n ∈ st, sk n = true) → st.length + rs.length ≤ 100000 →
    match opn rs st k with
    | (st', none) => ∃ y2 y3, forLoop (.tp [.nm 2, .nm 3]) (exB (gOf P m) B.l1_opened) (enumFrom k (rs.map Row.enc)) [some (.dat a0), some (.own (stk st)), o2 x2, o2 x3] = .nx [some (.dat a0), some (.own (stk st')), o2 y2, o2 y3]
    | (st', some n) => forLoop (.tp [.nm 2, .nm 3]) (exB (gOf P m) B.l1_opened) (enumFrom k (rs.map Row.enc)) [some (.dat a0), some (.own (stk st)), o2 x2, o2 x3] = .rt (.tuple [.list (stk st'), .int n])
  | [], k, st, a0, x2, x3, _, _, _ => ⟨x2, x3, rfl⟩
  | r :: rs, k, st, a0, x2, x3, hr, hs, hl => by
    have g1 : globR (gOf P m) "OPEN" = .ok (.str "open") := glob_ok (g := gOf P m) H.g1
    have g2 : globR (gOf P m) "LINE" = .ok (.str "line") := glob_ok (g := gOf P m) H.g2
    have g3 : globR (gOf P m) "CLOSE" = .ok (.str "close") := glob_ok (g := gOf P m) H.g3
    have hr' := fun x h => hr x (List.mem_cons_of_mem _ h)
    have hl' : st.length + (rs.length + 1) ≤ 100000 := hl
    have hk := hr r List.mem_cons_self
    have hlen := stk_len st
    cases r with
    | line s =>
      have ih := loop_opened H rs (k + 1) st a0 (some (.int k)) (some (Row.line s).enc) hr' hs (by omega)
      simp (disch := (first | assumption | omega | (simp only [List.length_append, List.length_map, List.length_cons, List.length_nil, List.length_reverse, List.length_take, List.length_drop, List.length_singleton]; omega))) only [evs, strR_s, List.cons_append, List.nil_append, Bool.and_true, Bool.true_and, Bool.and_false, Bool.false_and, Bool.or_true, Bool.true_or, Bool.or_false, Bool.false_or, Bool.not_true, Bool.not_false, Bool.not_not, fl_nil, fl_cons, bnd_ok, aft_nx, aft_ct, aft_bk, aft_rt, aft_exc, wds, atI_0, atI_1, ixt_2, ixt_last, ixl_last, ixl_0, ixl_1, ex_seto, ex_app, ex_pop, ex_par, own_l, app_own, pop_own, par_ok, set_nil, set_cons, frz_nil, frz_cons, frz_own, frz_dat, frz_no, frz_o2, enum_nil, enum_cons, wipe_nil, wipe_cons, ex_forB, exB_cons, addT, addL, enc_line, enc_op, enc_nx, enc_cl, cut_to, cut_from, cut_from1, cut_from2, cut_fromS, cut_init, rev_tt, eq_ss, ne_ss, skw, ite_true_b, ite_false_b, beq_self_eq_true, if_true, if_false, Bool.false_eq_true, List.map_cons, List.map_nil, B.u_l1_opened, g1, g2, g3, opn]
      exact ih
    | op n =>
      have ih := loop_opened H rs (k + 1) (n :: st) a0 (some (.int k)) (some (Row.op n).enc) hr' (fun x h => (List.mem_cons.mp h).elim (fun e => e ▸ hk) (hs x)) (by simp only [List.length_cons]; omega)
      rw [stk_cons] at ih
      simp (disch := (first | assumption | omega | (simp only [List.length_append, List.length_map, List.length_cons, List.length_nil, List.length_reverse, List.length_take, List.length_drop, List.length_singleton]; omega))) only [evs, strR_s, List.cons_append, List.nil_append, Bool.and_true, Bool.true_and, Bool.and_false, Bool.false_and, Bool.or_true, Bool.true_or, Bool.or_false, Bool.false_or, Bool.not_true, Bool.not_false, Bool.not_not, fl_nil, fl_cons, bnd_ok, aft_nx, aft_ct, aft_bk, aft_rt, aft_exc, wds, atI_0, atI_1, ixt_2, ixt_last, ixl_last, ixl_0, ixl_1, ex_seto, ex_app, ex_pop, ex_par, own_l, app_own, pop_own, par_ok, set_nil, set_cons, frz_nil, frz_cons, frz_own, frz_dat, frz_no, frz_o2, enum_nil, enum_cons, wipe_nil, wipe_cons, ex_forB, exB_cons, addT, addL, enc_line, enc_op, enc_nx, enc_cl, cut_to, cut_from, cut_from1, cut_from2, cut_fromS, cut_init, rev_tt, eq_ss, ne_ss, skw, ite_true_b, ite_false_b, beq_self_eq_true, if_true, if_false, Bool.false_eq_true, List.map_cons, List.map_nil, B.u_l1_opened, g1, g2, g3, opn]
      exact ih
    | nx n =>
      cases st with
      | nil =>
        simp (disch := (first | assumption | omega | (simp only [List.length_append, List.length_map, List.length_cons, List.length_nil, List.length_reverse, List.length_take, List.length_drop, List.length_singleton]; omega))) only [evs, strR_s, List.cons_append, List.nil_append, Bool.and_true, Bool.true_and, Bool.and_false, Bool.false_and, Bool.or_true, Bool.true_or, Bool.or_false, Bool.false_or, Bool.not_true, Bool.not_false, Bool.not_not, fl_nil, fl_cons, bnd_ok, aft_nx, aft_ct, aft_bk, aft_rt, aft_exc, wds, atI_0, atI_1, ixt_2, ixt_last, ixl_last, ixl_0, ixl_1, ex_seto, ex_app, ex_pop, ex_par, own_l, app_own, pop_own, par_ok, set_nil, set_cons, frz_nil, frz_cons, frz_own, frz_dat, frz_no, frz_o2, enum_nil, enum_cons, wipe_nil, wipe_cons, ex_forB, exB_cons, addT, addL, enc_line, enc_op, enc_nx, enc_cl, cut_to, cut_from, cut_from1, cut_from2, cut_fromS, cut_init, rev_tt, eq_ss, ne_ss, skw, ite_true_b, ite_false_b, beq_self_eq_true, if_true, if_false, Bool.false_eq_true, List.map_cons, List.map_nil, B.u_l1_opened, g1, g2, g3, opn, stk_nil]
        rfl
      | cons t st =>
        have ht : sk t = true := hs t List.mem_cons_self
        have hn : sk n = true := hk
        have ih := loop_opened H rs (k + 1) (t :: st) a0 (some (.int k)) (some (Row.nx n).enc) hr' hs (by simp only [List.length_cons] at hl' ⊢; omega)
        rw [stk_cons] at ih
        simp (disch := (first | assumption | omega | (simp only [List.length_append, List.length_map, List.length_cons, List.length_nil, List.length_reverse, List.length_take, List.length_drop, List.length_singleton]; omega))) only [evs, strR_s, List.cons_append, List.nil_append, Bool.and_true, Bool.true_and, Bool.and_false, Bool.false_and, Bool.or_true, Bool.true_or, Bool.or_false, Bool.false_or, Bool.not_true, Bool.not_false, Bool.not_not, fl_nil, fl_cons, bnd_ok, aft_nx, aft_ct, aft_bk, aft_rt, aft_exc, wds, atI_0, atI_1, ixt_2, ixt_last, ixl_last, ixl_0, ixl_1, ex_seto, ex_app, ex_pop, ex_par, own_l, app_own, pop_own, par_ok, set_nil, set_cons, frz_nil, frz_cons, frz_own, frz_dat, frz_no, frz_o2, enum_nil, enum_cons, wipe_nil, wipe_cons, ex_forB, exB_cons, addT, addL, enc_line, enc_op, enc_nx, enc_cl, cut_to, cut_from, cut_from1, cut_from2, cut_fromS, cut_init, rev_tt, eq_ss, ne_ss, skw, ite_true_b, ite_false_b, beq_self_eq_true, if_true, if_false, Bool.false_eq_true, List.map_cons, List.map_nil, B.u_l1_opened, g1, g2, g3, opn, stk_cons, len_app1, if_b]
        by_cases e : t = n
        · subst e
          simp only [decide_true, Bool.not_true, ite_false_b, if_true, evs, strR_s, List.cons_append, List.nil_append, Bool.and_true, Bool.true_and, Bool.and_false, Bool.false_and, Bool.or_true, Bool.true_or, Bool.or_false, Bool.false_or, Bool.not_true, Bool.not_false, Bool.not_not, fl_nil, fl_cons, bnd_ok, aft_nx, aft_ct, aft_bk, aft_rt, aft_exc, wds, atI_0, atI_1, ixt_2, ixt_last, ixl_last, ixl_0, ixl_1, ex_seto, ex_app, ex_pop, ex_par, own_l, app_own, pop_own, par_ok, set_nil, set_cons, frz_nil, frz_cons, frz_own, frz_dat, frz_no, frz_o2, enum_nil, enum_cons, wipe_nil, wipe_cons, ex_forB, exB_cons, addT, addL, enc_line, enc_op, enc_nx, enc_cl, cut_to, cut_from, cut_from1, cut_from2, cut_fromS, cut_init, rev_tt, eq_ss, ne_ss, skw, ite_true_b, ite_false_b, beq_self_eq_true, if_true, if_false, Bool.false_eq_true, List.map_cons, List.map_nil, B.u_l1_opened, g1, g2, g3] at ih ⊢
          exact ih
        · simp only [e, decide_false, Bool.not_false, evs, strR_s, List.cons_append, List.nil_append, Bool.and_true, Bool.true_and, Bool.and_false, Bool.false_and, Bool.or_true, Bool.true_or, Bool.or_false, Bool.false_or, Bool.not_true, Bool.not_false, Bool.not_not, fl_nil, fl_cons, bnd_ok, aft_nx, aft_ct, aft_bk, aft_rt, aft_exc, wds, atI_0, atI_1, ixt_2, ixt_last, ixl_last, ixl_0, ixl_1, ex_seto, ex_app, ex_pop, ex_par, own_l, app_own, pop_own, par_ok, set_nil, set_cons, frz_nil, frz_cons, frz_own, frz_dat, frz_no, frz_o2, enum_nil, enum_cons, wipe_nil, wipe_cons, ex_forB, exB_cons, addT, addL, enc_line, enc_op, enc_nx, enc_cl, cut_to, cut_from, cut_from1, cut_from2, cut_fromS, cut_init, rev_tt, eq_ss, ne_ss, skw, ite_true_b, ite_false_b, beq_self_eq_true, if_true, if_false, Bool.false_eq_true, List.map_cons, List.map_nil, stk_cons]
    | cl n =>
      cases st with
      | nil =>
        simp (disch := (first | assumption | omega | (simp only [List.length_append, List.length_map, List.length_cons, List.length_nil, List.length_reverse, List.length_take, List.length_drop, List.length_singleton]; omega))) only [evs, strR_s, List.cons_append, List.nil_append, Bool.and_true, Bool.true_and, Bool.and_false, Bool.false_and, Bool.or_true, Bool.true_or, Bool.or_false, Bool.false_or, Bool.not_true, Bool.not_false, Bool.not_not, fl_nil, fl_cons, bnd_ok, aft_nx, aft_ct, aft_bk, aft_rt, aft_exc, wds, atI_0, atI_1, ixt_2, ixt_last, ixl_last, ixl_0, ixl_1, ex_seto, ex_app, ex_pop, ex_par, own_l, app_own, pop_own, par_ok, set_nil, set_cons, frz_nil, frz_cons, frz_own, frz_dat, frz_no, frz_o2, enum_nil, enum_cons, wipe_nil, wipe_cons, ex_forB, exB_cons, addT, addL, enc_line, enc_op, enc_nx, enc_cl, cut_to, cut_from, cut_from1, cut_from2, cut_fromS, cut_init, rev_tt, eq_ss, ne_ss, skw, ite_true_b, ite_false_b, beq_self_eq_true, if_true, if_false, Bool.false_eq_true, List.map_cons, List.map_nil, B.u_l1_opened, g1, g2, g3, opn, stk_nil]
        rfl
      | cons t st =>
        have ht : sk t = true := hs t List.mem_cons_self
        have hn : sk n = true := hk
        have ih := loop_opened H rs (k + 1) st a0 (some (.int k)) (some (Row.cl n).enc) hr' (fun x h => hs x (List.mem_cons_of_mem _ h)) (by simp only [List.length_cons] at hl'; omega)
        simp (disch := (first | assumption | omega | (simp only [List.length_append, List.length_map, List.length_cons, List.length_nil, List.length_reverse, List.length_take, List.length_drop, List.length_singleton]; omega))) only [evs, strR_s, List.cons_append, List.nil_append, Bool.and_true, Bool.true_and, Bool.and_false, Bool.false_and, Bool.or_true, Bool.true_or, Bool.or_false, Bool.false_or, Bool.not_true, Bool.not_false, Bool.not_not, fl_nil, fl_cons, bnd_ok, aft_nx, aft_ct, aft_bk, aft_rt, aft_exc, wds, atI_0, atI_1, ixt_2, ixt_last, ixl_last, ixl_0, ixl_1, ex_seto, ex_app, ex_pop, ex_par, own_l, app_own, pop_own, par_ok, set_nil, set_cons, frz_nil, frz_cons, frz_own, frz_dat, frz_no, frz_o2, enum_nil, enum_cons, wipe_nil, wipe_cons, ex_forB, exB_cons, addT, addL, enc_line, enc_op, enc_nx, enc_cl, cut_to, cut_from, cut_from1, cut_from2, cut_fromS, cut_init, rev_tt, eq_ss, ne_ss, skw, ite_true_b, ite_false_b, beq_self_eq_true, if_true, if_false, Bool.false_eq_true, List.map_cons, List.map_nil, B.u_l1_opened, g1, g2, g3, opn, stk_cons, len_app1, if_b]
        by_cases e : t = n
        · subst e
          simp only [decide_true, Bool.not_true, ite_false_b, if_true, evs, strR_s, List.cons_append, List.nil_append, Bool.and_true, Bool.true_and, Bool.and_false, Bool.false_and, Bool.or_true, Bool.true_or, Bool.or_false, Bool.false_or, Bool.not_true, Bool.not_false, Bool.not_not, fl_nil, fl_cons, bnd_ok, aft_nx, aft_ct, aft_bk, aft_rt, aft_exc, wds, atI_0, atI_1, ixt_2, ixt_last, ixl_last, ixl_0, ixl_1, ex_seto, ex_app, ex_pop, ex_par, own_l, app_own, pop_own, par_ok, set_nil, set_cons, frz_nil, frz_cons, frz_own, frz_dat, frz_no, frz_o2, enum_nil, enum_cons, wipe_nil, wipe_cons, ex_forB, exB_cons, addT, addL, enc_line, enc_op, enc_nx, enc_cl, cut_to, cut_from, cut_from1, cut_from2, cut_fromS, cut_init, rev_tt, eq_ss, ne_ss, skw, ite_true_b, ite_false_b, beq_self_eq_true, if_true, if_false, Bool.false_eq_true, List.map_cons, List.map_nil, B.u_l1_opened, g1, g2, g3] at ih ⊢
          exact ih
        · simp only [e, decide_false, Bool.not_false, evs, strR_s, List.cons_append, List.nil_append, Bool.and_true, Bool.true_and, Bool.and_false, Bool.false_and, Bool.or_true, Bool.true_or, Bool.or_false, Bool.false_or, Bool.not_true, Bool.not_false, Bool.not_not, fl_nil, fl_cons, bnd_ok, aft_nx, aft_ct, aft_bk, aft_rt, aft_exc, wds, atI_0, atI_1, ixt_2, ixt_last, ixl_last, ixl_0, ixl_1, ex_seto, ex_app, ex_pop, ex_par, own_l, app_own, pop_own, par_ok, set_nil, set_cons, frz_nil, frz_cons, frz_own, frz_dat, frz_no, frz_o2, enum_nil, enum_cons, wipe_nil, wipe_cons, ex_forB, exB_cons, addT, addL, enc_line, enc_op, enc_nx, enc_cl, cut_to, cut_from, cut_from1, cut_from2, cut_fromS, cut_init, rev_tt, eq_ss, ne_ss, skw, ite_true_b, ite_false_b, beq_self_eq_true, if_true, if_false, Bool.false_eq_true, List.map_cons, List.map_nil, stk_cons]
def opnF (rs : List Row) : List Str × Option Int := opn rs [] 0
theorem call_opened (H : HasSheet P) {rs : List Row} (hr : ∀ r ∈ rs, r.ok = true) (hl : rs.length ≤ 100000) : callR (gOf P (m + 1)) "opened" [.tuple (rs.map Row.enc)] = .ok (.tuple [.list (stk (opnF rs).1), optI (opnF rs).2]) := by
  rw [H.opened.body rfl]
  have q := loop_opened (m := m) H rs 0 [] (.tuple (rs.map Row.enc)) none none hr (fun _ h => nomatch h) (by simpa using hl)
  unfold opnF
  cases e : opn rs [] 0 with
  | mk st n =>
    rw [e] at q
    cases n with
    | none =>
      obtain ⟨y2, y3, q⟩ := q
      simp only [evs, strR_s, List.cons_append, List.nil_append, Bool.and_true, Bool.true_and, Bool.and_false, Bool.false_and, Bool.or_true, Bool.true_or, Bool.or_false, Bool.false_or, Bool.not_true, Bool.not_false, Bool.not_not, fl_nil, fl_cons, bnd_ok, aft_nx, aft_ct, aft_bk, aft_rt, aft_exc, wds, atI_0, atI_1, ixt_2, ixt_last, ixl_last, ixl_0, ixl_1, ex_seto, ex_app, ex_pop, ex_par, own_l, app_own, pop_own, par_ok, set_nil, set_cons, frz_nil, frz_cons, frz_own, frz_dat, frz_no, frz_o2, enum_nil, enum_cons, wipe_nil, wipe_cons, ex_forB, exB_cons, addT, addL, enc_line, enc_op, enc_nx, enc_cl, cut_to, cut_from, cut_from1, cut_from2, cut_fromS, cut_init, rev_tt, eq_ss, ne_ss, skw, ite_true_b, ite_false_b, beq_self_eq_true, if_true, if_false, Bool.false_eq_true, List.map_cons, List.map_nil, B.opened]
      rw [show [some (Sl.dat (.tuple (rs.map Row.enc))), some (Sl.own []), none, none] = [some (.dat (.tuple (rs.map Row.enc))), some (.own (stk [])), o2 none, o2 none] from rfl, q]
      simp only [evs, strR_s, List.cons_append, List.nil_append, Bool.and_true, Bool.true_and, Bool.and_false, Bool.false_and, Bool.or_true, Bool.true_or, Bool.or_false, Bool.false_or, Bool.not_true, Bool.not_false, Bool.not_not, fl_nil, fl_cons, bnd_ok, aft_nx, aft_ct, aft_bk, aft_rt, aft_exc, wds, atI_0, atI_1, ixt_2, ixt_last, ixl_last, ixl_0, ixl_1, ex_seto, ex_app, ex_pop, ex_par, own_l, app_own, pop_own, par_ok, set_nil, set_cons, frz_nil, frz_cons, frz_own, frz_dat, frz_no, frz_o2, enum_nil, enum_cons, wipe_nil, wipe_cons, ex_forB, exB_cons, addT, addL, enc_line, enc_op, enc_nx, enc_cl, cut_to, cut_from, cut_from1, cut_from2, cut_fromS, cut_init, rev_tt, eq_ss, ne_ss, skw, ite_true_b, ite_false_b, beq_self_eq_true, if_true, if_false, Bool.false_eq_true, List.map_cons, List.map_nil]
      rfl
    | some n =>
      simp only [evs, strR_s, List.cons_append, List.nil_append, Bool.and_true, Bool.true_and, Bool.and_false, Bool.false_and, Bool.or_true, Bool.true_or, Bool.or_false, Bool.false_or, Bool.not_true, Bool.not_false, Bool.not_not, fl_nil, fl_cons, bnd_ok, aft_nx, aft_ct, aft_bk, aft_rt, aft_exc, wds, atI_0, atI_1, ixt_2, ixt_last, ixl_last, ixl_0, ixl_1, ex_seto, ex_app, ex_pop, ex_par, own_l, app_own, pop_own, par_ok, set_nil, set_cons, frz_nil, frz_cons, frz_own, frz_dat, frz_no, frz_o2, enum_nil, enum_cons, wipe_nil, wipe_cons, ex_forB, exB_cons, addT, addL, enc_line, enc_op, enc_nx, enc_cl, cut_to, cut_from, cut_from1, cut_from2, cut_fromS, cut_init, rev_tt, eq_ss, ne_ss, skw, ite_true_b, ite_false_b, beq_self_eq_true, if_true, if_false, Bool.false_eq_true, List.map_cons, List.map_nil, B.opened]
      rw [show [some (Sl.dat (.tuple (rs.map Row.enc))), some (Sl.own []), none, none] = [some (.dat (.tuple (rs.map Row.enc))), some (.own (stk [])), o2 none, o2 none] from rfl, q]
      rfl
theorem call_stuck (H : HasSheet P) (h : Has P "stuck" 1 1 B.stuck) {rs : List Row} (hr : ∀ r ∈ rs, r.ok = true) (hl : rs.length ≤ 100000) : callR (gOf P (m + 2)) "stuck" [.tuple (rs.map Row.enc)] = .ok (optI (opnF rs).2) := by
  rw [h.body rfl]
  simp only [evs, strR_s, List.cons_append, List.nil_append, Bool.and_true, Bool.true_and, Bool.and_false, Bool.false_and, Bool.or_true, Bool.true_or, Bool.or_false, Bool.false_or, Bool.not_true, Bool.not_false, Bool.not_not, fl_nil, fl_cons, bnd_ok, aft_nx, aft_ct, aft_bk, aft_rt, aft_exc, wds, atI_0, atI_1, ixt_2, ixt_last, ixl_last, ixl_0, ixl_1, ex_seto, ex_app, ex_pop, ex_par, own_l, app_own, pop_own, par_ok, set_nil, set_cons, frz_nil, frz_cons, frz_own, frz_dat, frz_no, frz_o2, enum_nil, enum_cons, wipe_nil, wipe_cons, ex_forB, exB_cons, addT, addL, enc_line, enc_op, enc_nx, enc_cl, cut_to, cut_from, cut_from1, cut_from2, cut_fromS, cut_init, rev_tt, eq_ss, ne_ss, skw, ite_true_b, ite_false_b, beq_self_eq_true, if_true, if_false, Bool.false_eq_true, List.map_cons, List.map_nil, B.stuck, call_opened H hr hl]
def isSheet (rs : List Row) : Bool := (opnF rs).1.isEmpty && (opnF rs).2.isNone
theorem opn_sk : ∀ (rs : List Row) (st : List Str) (k : Int), (∀ r ∈ rs, r.ok = true) → (∀ n ∈ st, sk n = true) → ∀ n ∈ (opn rs st k).1, sk n = true
  | [], st, k, _, hs => hs
  | .line _ :: rs, st, k, hr, hs => opn_sk rs st (k + 1) (fun x h => hr x (List.mem_cons_of_mem _ h)) hs
  | .op n :: rs, st, k, hr, hs => opn_sk rs (n :: st) (k + 1) (fun x h => hr x (List.mem_cons_of_mem _ h)) (fun x h => (List.mem_cons.mp h).elim (fun e => e ▸ hr _ List.mem_cons_self) (hs x))
  | .nx _ :: _, [], k, _, hs => hs
  | .nx n :: rs, t :: st, k, hr, hs => by
    rw [opn]
    split
    · exact opn_sk rs (t :: st) (k + 1) (fun x h => hr x (List.mem_cons_of_mem _ h)) hs
    · exact hs
  | .cl _ :: _, [], k, _, hs => hs
  | .cl n :: rs, t :: st, k, hr, hs => by
    rw [opn]
    split
    · exact opn_sk rs st (k + 1) (fun x h => hr x (List.mem_cons_of_mem _ h)) (fun x h => hs x (List.mem_cons_of_mem _ h))
    · exact hs
theorem opn_len : ∀ (rs : List Row) (st : List Str) (k : Int), (opn rs st k).1.length ≤ st.length + rs.length
  | [], st, k => Nat.le_refl _
  | .line _ :: rs, st, k => Nat.le_trans (opn_len rs st (k + 1)) (by simp only [List.length_cons]; omega)
  | .op n :: rs, st, k => Nat.le_trans (opn_len rs (n :: st) (k + 1)) (by simp only [List.length_cons]; omega)
  | .nx _ :: _, [], k => Nat.zero_le _
  | .nx n :: rs, t :: st, k => by
    rw [opn]
    split
    · exact Nat.le_trans (opn_len rs (t :: st) (k + 1)) (by simp only [List.length_cons]; omega)
    · simp only [List.length_cons]; omega
  | .cl _ :: _, [], k => Nat.zero_le _
  | .cl n :: rs, t :: st, k => by
    rw [opn]
    split
    · exact Nat.le_trans (opn_len rs st (k + 1)) (by simp only [List.length_cons]; omega)
    · simp only [List.length_cons]; omega
theorem stk_tm {n : Nat} {st : List Str} (h : ∀ x ∈ st, sk x = true) (hl : st.length ≤ 100000) : Tm (n + 1) (.list (stk st)) := by
  refine tm_mapL (fun x hx => sk_tm (h x (List.mem_reverse.mp hx))) ?_
  rw [List.length_reverse]
  exact Nat.le_trans hl (by decide)
theorem stk_tmT {n : Nat} {st : List Str} (h : ∀ x ∈ st, sk x = true) (hl : st.length ≤ 100000) : Tm (n + 1) (.tuple (stk st)) := by
  refine tm_map (fun x hx => sk_tm (h x (List.mem_reverse.mp hx))) ?_
  rw [List.length_reverse]
  exact Nat.le_trans hl (by decide)
theorem optI_tm {n : Nat} (o : Option Int) : Tm n (optI o) := by cases o <;> cases n <;> trivial
theorem stk_emp (st : List Str) : (stk st).isEmpty = st.isEmpty := by
  cases st with
  | nil => rfl
  | cons t st => rw [stk_cons]; cases stk st <;> rfl
theorem eqv_lnil (l : List D) : PyData.eqv (.list l) (.list []) = l.isEmpty := by cases l <;> rfl
theorem eqv_tnil' (l : List D) : PyData.eqv (.tuple l) (.tuple []) = l.isEmpty := by cases l <;> rfl
theorem eqv_optI (o : Option Int) : PyData.eqv (optI o) .none = o.isNone := by cases o <;> rfl
theorem call_is_sheet (H : HasSheet P) (h : Has P "is_sheet" 1 1 B.is_sheet) {rs : List Row} (hr : ∀ r ∈ rs, r.ok = true) (hl : rs.length ≤ 100000) : callR (gOf P (m + 2)) "is_sheet" [.tuple (rs.map Row.enc)] = .ok (.bool (isSheet rs)) := by
  rw [h.body rfl]
  have h1 : shp (.tuple [.list (stk (opnF rs).1), optI (opnF rs).2]) = true := (tm_2 (stk_tm (n := 0) (opn_sk rs [] 0 hr fun _ h => nomatch h) (Nat.le_trans (opn_len rs [] 0) (by simpa using hl))) (optI_tm _)).shp (by decide)
  simp only [evs, strR_s, List.cons_append, List.nil_append, Bool.and_true, Bool.true_and, Bool.and_false, Bool.false_and, Bool.or_true, Bool.true_or, Bool.or_false, Bool.false_or, Bool.not_true, Bool.not_false, Bool.not_not, fl_nil, fl_cons, bnd_ok, aft_nx, aft_ct, aft_bk, aft_rt, aft_exc, wds, atI_0, atI_1, ixt_2, ixt_last, ixl_last, ixl_0, ixl_1, ex_seto, ex_app, ex_pop, ex_par, own_l, app_own, pop_own, par_ok, set_nil, set_cons, frz_nil, frz_cons, frz_own, frz_dat, frz_no, frz_o2, enum_nil, enum_cons, wipe_nil, wipe_cons, ex_forB, exB_cons, addT, addL, enc_line, enc_op, enc_nx, enc_cl, cut_to, cut_from, cut_from1, cut_from2, cut_fromS, cut_init, rev_tt, eq_ss, ne_ss, skw, ite_true_b, ite_false_b, beq_self_eq_true, if_true, if_false, Bool.false_eq_true, List.map_cons, List.map_nil, B.is_sheet, call_opened H hr hl, eq_pair h1 (show shp (.tuple [.list [], .none]) = true from rfl), eqv_lnil, stk_emp, eqv_optI]
  rfl
theorem call_open_names (H : HasSheet P) (h : Has P "open_names" 1 3 B.open_names) {rs : List Row} (hr : ∀ r ∈ rs, r.ok = true) (hl : rs.length ≤ 100000) : callR (gOf P (m + 2)) "open_names" [.tuple (rs.map Row.enc)] = if (opnF rs).2.isNone then .ok (.tuple (stk (opnF rs).1)) else .exc "NoSheet" := by
  rw [h.body rfl]
  simp only [evs, strR_s, List.cons_append, List.nil_append, Bool.and_true, Bool.true_and, Bool.and_false, Bool.false_and, Bool.or_true, Bool.true_or, Bool.or_false, Bool.false_or, Bool.not_true, Bool.not_false, Bool.not_not, fl_nil, fl_cons, bnd_ok, aft_nx, aft_ct, aft_bk, aft_rt, aft_exc, wds, atI_0, atI_1, ixt_2, ixt_last, ixl_last, ixl_0, ixl_1, ex_seto, ex_app, ex_pop, ex_par, own_l, app_own, pop_own, par_ok, set_nil, set_cons, frz_nil, frz_cons, frz_own, frz_dat, frz_no, frz_o2, enum_nil, enum_cons, wipe_nil, wipe_cons, ex_forB, exB_cons, addT, addL, enc_line, enc_op, enc_nx, enc_cl, cut_to, cut_from, cut_from1, cut_from2, cut_fromS, cut_init, rev_tt, eq_ss, ne_ss, skw, ite_true_b, ite_false_b, beq_self_eq_true, if_true, if_false, Bool.false_eq_true, List.map_cons, List.map_nil, B.open_names, call_opened H hr hl]
  cases (opnF rs).2 with
  | none => simp only [evs, strR_s, List.cons_append, List.nil_append, Bool.and_true, Bool.true_and, Bool.and_false, Bool.false_and, Bool.or_true, Bool.true_or, Bool.or_false, Bool.false_or, Bool.not_true, Bool.not_false, Bool.not_not, fl_nil, fl_cons, bnd_ok, aft_nx, aft_ct, aft_bk, aft_rt, aft_exc, wds, atI_0, atI_1, ixt_2, ixt_last, ixl_last, ixl_0, ixl_1, ex_seto, ex_app, ex_pop, ex_par, own_l, app_own, pop_own, par_ok, set_nil, set_cons, frz_nil, frz_cons, frz_own, frz_dat, frz_no, frz_o2, enum_nil, enum_cons, wipe_nil, wipe_cons, ex_forB, exB_cons, addT, addL, enc_line, enc_op, enc_nx, enc_cl, cut_to, cut_from, cut_from1, cut_from2, cut_fromS, cut_init, rev_tt, eq_ss, ne_ss, skw, ite_true_b, ite_false_b, beq_self_eq_true, if_true, if_false, Bool.false_eq_true, List.map_cons, List.map_nil, optI]; rfl
  | some i => simp only [evs, strR_s, List.cons_append, List.nil_append, Bool.and_true, Bool.true_and, Bool.and_false, Bool.false_and, Bool.or_true, Bool.true_or, Bool.or_false, Bool.false_or, Bool.not_true, Bool.not_false, Bool.not_not, fl_nil, fl_cons, bnd_ok, aft_nx, aft_ct, aft_bk, aft_rt, aft_exc, wds, atI_0, atI_1, ixt_2, ixt_last, ixl_last, ixl_0, ixl_1, ex_seto, ex_app, ex_pop, ex_par, own_l, app_own, pop_own, par_ok, set_nil, set_cons, frz_nil, frz_cons, frz_own, frz_dat, frz_no, frz_o2, enum_nil, enum_cons, wipe_nil, wipe_cons, ex_forB, exB_cons, addT, addL, enc_line, enc_op, enc_nx, enc_cl, cut_to, cut_from, cut_from1, cut_from2, cut_fromS, cut_init, rev_tt, eq_ss, ne_ss, skw, ite_true_b, ite_false_b, beq_self_eq_true, if_true, if_false, Bool.false_eq_true, List.map_cons, List.map_nil, optI]; rfl
end
end Ev
/-! EvTr: the rows of a tree. -/
namespace Ev
open PySem PySem.Spec PyProof.Rows L2
def nxt (b : Bool) (n : Str) : Row := if b then .nx n else .op n
mutual
def Leaf.rows : Leaf → List Row
  | .line s => [.line s]
  | .letter n ps => rowsP n false ps ++ [.cl n]
termination_by structural l => l
def rowsT : List Leaf → List Row
  | [] => []
  | l :: t => l.rows ++ rowsT t
termination_by structural l => l
def rowsP : Str → Bool → List (List Leaf) → List Row
  | _, _, [] => []
  | n, b, p :: ps => nxt b n :: (rowsT p ++ rowsP n true ps)
termination_by structural _ _ l => l
end
mutual
def Leaf.dp : Leaf → Nat
  | .line _ => 0
  | .letter _ ps => dpP ps + 1
termination_by structural l => l
def dpT : List Leaf → Nat
  | [] => 0
  | l :: t => max l.dp (dpT t)
termination_by structural l => l
def dpP : List (List Leaf) → Nat
  | [] => 0
  | p :: ps => max (dpT p) (dpP ps)
termination_by structural l => l
end
mutual
def Leaf.ok : Leaf → Bool
  | .line s => sk s
  | .letter n ps => sk n && (okP ps && !ps.isEmpty)
termination_by structural l => l
def okT : List Leaf → Bool
  | [] => true
  | l :: t => l.ok && okT t
termination_by structural l => l
def okP : List (List Leaf) → Bool
  | [] => true
  | p :: ps => okT p && okP ps
termination_by structural l => l
end
theorem rowsT_app : ∀ (t u : List Leaf), rowsT (t ++ u) = rowsT t ++ rowsT u
  | [], u => rfl
  | l :: t, u => by
    show l.rows ++ rowsT (t ++ u) = (l.rows ++ rowsT t) ++ rowsT u
    rw [rowsT_app t u, List.append_assoc]
theorem okT_mem : ∀ {t : List Leaf}, okT t = true ↔ ∀ l ∈ t, l.ok = true
  | [] => ⟨fun _ _ h => (nomatch h), fun _ => rfl⟩
  | l :: t => by
    show (l.ok && okT t) = true ↔ _
    rw [Bool.and_eq_true, okT_mem (t := t), List.forall_mem_cons]
theorem okP_mem : ∀ {t : List (List Leaf)}, okP t = true ↔ ∀ l ∈ t, okT l = true
  | [] => ⟨fun _ _ h => (nomatch h), fun _ => rfl⟩
  | l :: t => by
    show (okT l && okP t) = true ↔ _
    rw [Bool.and_eq_true, okP_mem (t := t), List.forall_mem_cons]
theorem nxt_ok {b : Bool} {n : Str} (h : sk n = true) : (nxt b n).ok = true := by cases b <;> exact h
mutual
theorem Leaf.rows_ok : ∀ (l : Leaf), l.ok = true → ∀ r ∈ l.rows, r.ok = true
  | .line s, h, r, hr => by rw [List.mem_singleton.mp hr]; exact h
  | .letter n ps, h, r, hr => by
    have h' : (sk n && (okP ps && !ps.isEmpty)) = true := h
    rw [Bool.and_eq_true, Bool.and_eq_true] at h'
    rcases List.mem_append.mp hr with hr | hr
    · exact rowsP_ok n false ps h'.1 h'.2.1 r hr
    · rw [List.mem_singleton.mp hr]; exact h'.1
theorem rowsT_ok : ∀ (t : List Leaf), okT t = true → ∀ r ∈ rowsT t, r.ok = true
  | [], _, _, hr => nomatch hr
  | l :: t, h, r, hr => by
    have h' : (l.ok && okT t) = true := h
    rw [Bool.and_eq_true] at h'
    rcases List.mem_append.mp hr with hr | hr
    · exact Leaf.rows_ok l h'.1 r hr
    · exact rowsT_ok t h'.2 r hr
theorem rowsP_ok : ∀ (n : Str) (b : Bool) (ps : List (List Leaf)), sk n = true → okP ps = true → ∀ r ∈ rowsP n b ps, r.ok = true
  | _, _, [], _, _, _, hr => nomatch hr
  | n, b, p :: ps, hn, h, r, hr => by
    have h' : (okT p && okP ps) = true := h
    rw [Bool.and_eq_true] at h'
    rcases List.mem_cons.mp hr with rfl | hr
    · exact nxt_ok hn
    · rcases List.mem_append.mp hr with hr | hr
      · exact rowsT_ok p h'.1 r hr
      · exact rowsP_ok n true ps hn h'.2 r hr
end
/-! ### the law's -/
section
variable {P : Pr} {m : Nat}
theorem ltr_parts {g : G} {name : Str} (hn : sk name = true) : ∀ (ps : List (List Leaf)) (acc : List Row) (b : Bool) (k : Int) (a0 a2 a4 : D) (x5 x6 : Option D),
    (∀ p ∈ ps, callR g "_law_tree_rows" [.tuple (encT p)] = .ok (.tuple ((rowsT p).map Row.enc))) → decide (0 < k) = b → 0 ≤ k → acc.length + (rowsP name b ps).length ≤ 1000000 →
    ∃ y5 y6, forLoop (.tp [.nm 5, .nm 6]) (exB g B.l2__law_tree_rows) (enumFrom k (encPs ps)) [some (.dat a0), some (.dat (.tuple (acc.map Row.enc))), some (.dat a2), some (.dat (.str name)), some (.dat a4), o2 x5, o2 x6] = .nx [some (.dat a0), some (.dat (.tuple ((acc ++ rowsP name b ps).map Row.enc))), some (.dat a2), some (.dat (.str name)), some (.dat a4), o2 y5, o2 y6]
  | [], acc, b, k, a0, a2, a4, x5, x6, _, _, _, _ => ⟨x5, x6, by rw [show rowsP name b [] = [] from rfl, List.append_nil]; rfl⟩
  | p :: ps, acc, b, k, a0, a2, a4, x5, x6, hc, hb, hk, hl => by
    have hl' : acc.length + (((rowsT p ++ rowsP name true ps).length) + 1) ≤ 1000000 := hl
    rw [List.length_append] at hl'
    have ih := ltr_parts hn ps (acc ++ (nxt b name :: rowsT p)) true (k + 1) a0 a2 a4 (some (.int k)) (some (.tuple (encT p))) (fun q hq => hc q (List.mem_cons_of_mem _ hq)) (by rw [decide_eq_true_eq]; omega) (by omega) (by rw [List.length_append, List.length_cons]; omega)
    have c1 := hc p List.mem_cons_self
    have ix : ixD (.tuple [.str "open", .str "next"]) (.int (if b = true then 1 else 0)) = .ok (.str (if b then "next" else "open")) := by cases b <;> rfl
    have ee : (.tuple [.str (if b then "next" else "open"), .str name] : D) = (nxt b name).enc := by cases b <;> rfl
    rw [show rowsP name b (p :: ps) = nxt b name :: (rowsT p ++ rowsP name true ps) from rfl]
    rw [show encPs (p :: ps) = .tuple (encT p) :: encPs ps from rfl]
    rw [List.append_assoc] at ih
    simp (disch := (first | assumption | omega | (simp only [List.length_append, List.length_map, List.length_cons, List.length_nil, List.length_reverse, List.length_take, List.length_drop, List.length_singleton]; omega))) only [evs, strR_s, List.cons_append, List.nil_append, Bool.and_true, Bool.true_and, Bool.and_false, Bool.false_and, Bool.or_true, Bool.true_or, Bool.or_false, Bool.false_or, Bool.not_true, Bool.not_false, Bool.not_not, fl_nil, fl_cons, bnd_ok, aft_nx, aft_ct, aft_bk, aft_rt, aft_exc, wds, atI_0, atI_1, ixt_2, ixt_last, ixl_last, ixl_0, ixl_1, ex_seto, ex_app, ex_pop, ex_par, own_l, app_own, pop_own, par_ok, set_nil, set_cons, frz_nil, frz_cons, frz_own, frz_dat, frz_no, frz_o2, enum_nil, enum_cons, wipe_nil, wipe_cons, ex_forB, exB_cons, addT, addL, enc_line, enc_op, enc_nx, enc_cl, cut_to, cut_from, cut_from1, cut_from2, cut_fromS, cut_init, rev_tt, eq_ss, ne_ss, skw, ite_true_b, ite_false_b, beq_self_eq_true, if_true, if_false, Bool.false_eq_true, List.map_cons, List.map_nil, B.u_l2__law_tree_rows, c1, hb, ix, ee]
    simpa only [List.map_append, List.map_cons, List.append_assoc, List.cons_append, List.nil_append, o2_some] using ih
theorem ltr_leaves {g : G} {n : Nat} (hc : ∀ p, okT p = true → dpT p + 1 ≤ n → (rowsT p).length ≤ 1000000 → callR g "_law_tree_rows" [.tuple (encT p)] = .ok (.tuple ((rowsT p).map Row.enc))) : ∀ (t : List Leaf) (acc : List Row) (a0 : D) (x2 x3 x4 x5 x6 : Option D),
    okT t = true → dpT t ≤ n → acc.length + (rowsT t).length ≤ 1000000 →
    ∃ y2 y3 y4 y5 y6, forLoop (.nm 2) (exB g B.l1__law_tree_rows) (encT t) [some (.dat a0), some (.dat (.tuple (acc.map Row.enc))), o2 x2, o2 x3, o2 x4, o2 x5, o2 x6] = .nx [some (.dat a0), some (.dat (.tuple ((acc ++ rowsT t).map Row.enc))), o2 y2, o2 y3, o2 y4, o2 y5, o2 y6]
  | [], acc, a0, x2, x3, x4, x5, x6, _, _, _ => ⟨x2, x3, x4, x5, x6, by rw [show rowsT [] = [] from rfl, List.append_nil]; rfl⟩
  | .line s :: t, acc, a0, x2, x3, x4, x5, x6, hok, hd, hl => by
    have hl' : acc.length + ((rowsT t).length + 1) ≤ 1000000 := by
      have : (rowsT (.line s :: t)).length = (rowsT t).length + 1 := rfl
      omega
    have hd' : dpT t ≤ n := Nat.le_trans (Nat.le_max_right _ _) hd
    have hok' : (sk s && okT t) = true := hok
    rw [Bool.and_eq_true] at hok'
    have ih := ltr_leaves hc t (acc ++ [.line s]) a0 (some (.str s)) x3 x4 x5 x6 hok'.2 hd' (by rw [List.length_append, List.length_singleton]; omega)
    rw [show encT (.line s :: t) = .str s :: encT t from rfl, show rowsT (.line s :: t) = .line s :: rowsT t from rfl]
    simp (disch := (first | assumption | omega | (simp only [List.length_append, List.length_map, List.length_cons, List.length_nil, List.length_reverse, List.length_take, List.length_drop, List.length_singleton]; omega))) only [evs, strR_s, List.cons_append, List.nil_append, Bool.and_true, Bool.true_and, Bool.and_false, Bool.false_and, Bool.or_true, Bool.true_or, Bool.or_false, Bool.false_or, Bool.not_true, Bool.not_false, Bool.not_not, fl_nil, fl_cons, bnd_ok, aft_nx, aft_ct, aft_bk, aft_rt, aft_exc, wds, atI_0, atI_1, ixt_2, ixt_last, ixl_last, ixl_0, ixl_1, ex_seto, ex_app, ex_pop, ex_par, own_l, app_own, pop_own, par_ok, set_nil, set_cons, frz_nil, frz_cons, frz_own, frz_dat, frz_no, frz_o2, enum_nil, enum_cons, wipe_nil, wipe_cons, ex_forB, exB_cons, addT, addL, enc_line, enc_op, enc_nx, enc_cl, cut_to, cut_from, cut_from1, cut_from2, cut_fromS, cut_init, rev_tt, eq_ss, ne_ss, skw, ite_true_b, ite_false_b, beq_self_eq_true, if_true, if_false, Bool.false_eq_true, List.map_cons, List.map_nil, B.u_l1__law_tree_rows]
    simpa only [List.map_append, List.map_cons, List.map_nil, List.append_assoc, List.cons_append, List.nil_append, o2_some, enc_line] using ih
  | .letter nm ps :: t, acc, a0, x2, x3, x4, x5, x6, hok, hd, hl => by
    have e1 : rowsT (.letter nm ps :: t) = (rowsP nm false ps ++ [.cl nm]) ++ rowsT t := rfl
    have hl' : acc.length + ((rowsP nm false ps).length + 1 + (rowsT t).length) ≤ 1000000 := by
      rw [e1, List.length_append, List.length_append, List.length_singleton] at hl
      omega
    have hd1 : max (dpP ps + 1) (dpT t) ≤ n := hd
    have hd2 : dpT t ≤ n := Nat.le_trans (Nat.le_max_right _ _) hd1
    have hd3 : dpP ps + 1 ≤ n := Nat.le_trans (Nat.le_max_left _ _) hd1
    have hok' : ((sk nm && (okP ps && !ps.isEmpty)) && okT t) = true := hok
    simp only [Bool.and_eq_true] at hok'
    have dps : ∀ (ps : List (List Leaf)) (p : List Leaf), p ∈ ps → dpT p ≤ dpP ps := by
      intro ps
      induction ps with
      | nil => exact fun p h => nomatch h
      | cons q ps ih => exact fun p h => (List.mem_cons.mp h).elim (fun e => e ▸ Nat.le_max_left _ _) fun h => Nat.le_trans (ih p h) (Nat.le_max_right _ _)
    have lps : ∀ (ps : List (List Leaf)) (b : Bool) (p : List Leaf), p ∈ ps → (rowsT p).length ≤ (rowsP nm b ps).length := by
      intro ps
      induction ps with
      | nil => exact fun b p h => nomatch h
      | cons q ps ih =>
        intro b p h
        show _ ≤ (rowsT q ++ rowsP nm true ps).length + 1
        rw [List.length_append]
        rcases List.mem_cons.mp h with rfl | h
        · omega
        · have := ih true p h
          omega
    obtain ⟨y5, y6, q⟩ := ltr_parts (g := g) hok'.1.1 ps acc false 0 a0 (Leaf.enc (.letter nm ps)) (.tuple (encPs ps)) x5 x6 (fun p hp => hc p (okP_mem.mp hok'.1.2.1 p hp) (Nat.le_trans (Nat.succ_le_succ (dps ps p hp)) hd3) (by have := lps ps false p hp; omega)) (by decide) (by decide) (by omega)
    have ih := ltr_leaves hc t (acc ++ (rowsP nm false ps ++ [.cl nm])) a0 (some (Leaf.enc (.letter nm ps))) (some (.str nm)) (some (.tuple (encPs ps))) y5 y6 hok'.2 hd2 (by simp only [List.length_append, List.length_singleton]; omega)
    rw [show encT (.letter nm ps :: t) = .tuple [.str nm, .tuple (encPs ps)] :: encT t from rfl, e1]
    rw [show Leaf.enc (.letter nm ps) = .tuple [.str nm, .tuple (encPs ps)] from rfl] at q ih
    simp (disch := (first | assumption | omega | (simp only [List.length_append, List.length_map, List.length_cons, List.length_nil, List.length_reverse, List.length_take, List.length_drop, List.length_singleton]; omega))) only [evs, strR_s, List.cons_append, List.nil_append, Bool.and_true, Bool.true_and, Bool.and_false, Bool.false_and, Bool.or_true, Bool.true_or, Bool.or_false, Bool.false_or, Bool.not_true, Bool.not_false, Bool.not_not, fl_nil, fl_cons, bnd_ok, aft_nx, aft_ct, aft_bk, aft_rt, aft_exc, wds, atI_0, atI_1, ixt_2, ixt_last, ixl_last, ixl_0, ixl_1, ex_seto, ex_app, ex_pop, ex_par, own_l, app_own, pop_own, par_ok, set_nil, set_cons, frz_nil, frz_cons, frz_own, frz_dat, frz_no, frz_o2, enum_nil, enum_cons, wipe_nil, wipe_cons, ex_forB, exB_cons, addT, addL, enc_line, enc_op, enc_nx, enc_cl, cut_to, cut_from, cut_from1, cut_from2, cut_fromS, cut_init, rev_tt, eq_ss, ne_ss, skw, ite_true_b, ite_false_b, beq_self_eq_true, if_true, if_false, Bool.false_eq_true, List.map_cons, List.map_nil, B.u_l1__law_tree_rows, q]
    simpa only [List.map_append, List.map_cons, List.map_nil, List.append_assoc, List.cons_append, List.nil_append, o2_some, enc_cl] using ih
theorem call_ltr (H : Has P "_law_tree_rows" 1 7 B._law_tree_rows) : ∀ (n m : Nat) (t : List Leaf), okT t = true → dpT t ≤ n → (rowsT t).length ≤ 1000000 → callR (gOf P (m + n + 1)) "_law_tree_rows" [.tuple (encT t)] = .ok (.tuple ((rowsT t).map Row.enc))
  | n, m, t, hok, hd, hl => by
    rw [H.body rfl]
    have key : ∃ y2 y3 y4 y5 y6, forLoop (.nm 2) (exB (gOf P (m + n)) B.l1__law_tree_rows) (encT t) [some (.dat (.tuple (encT t))), some (.dat (.tuple (([] : List Row).map Row.enc))), o2 none, o2 none, o2 none, o2 none, o2 none] = .nx [some (.dat (.tuple (encT t))), some (.dat (.tuple (([] ++ rowsT t).map Row.enc))), o2 y2, o2 y3, o2 y4, o2 y5, o2 y6] := by
      refine ltr_leaves (n := n) (fun p h1 h2 h3 => ?_) t [] _ none none none none none hok hd (by simpa using hl)
      match n, h2 with
      | n + 1, h2 => exact call_ltr H n m p h1 (Nat.le_of_succ_le_succ h2) h3
    obtain ⟨y2, y3, y4, y5, y6, q⟩ := key
    simp only [evs, strR_s, List.cons_append, List.nil_append, Bool.and_true, Bool.true_and, Bool.and_false, Bool.false_and, Bool.or_true, Bool.true_or, Bool.or_false, Bool.false_or, Bool.not_true, Bool.not_false, Bool.not_not, fl_nil, fl_cons, bnd_ok, aft_nx, aft_ct, aft_bk, aft_rt, aft_exc, wds, atI_0, atI_1, ixt_2, ixt_last, ixl_last, ixl_0, ixl_1, ex_seto, ex_app, ex_pop, ex_par, own_l, app_own, pop_own, par_ok, set_nil, set_cons, frz_nil, frz_cons, frz_own, frz_dat, frz_no, frz_o2, enum_nil, enum_cons, wipe_nil, wipe_cons, ex_forB, exB_cons, addT, addL, enc_line, enc_op, enc_nx, enc_cl, cut_to, cut_from, cut_from1, cut_from2, cut_fromS, cut_init, rev_tt, eq_ss, ne_ss, skw, ite_true_b, ite_false_b, beq_self_eq_true, if_true, if_false, Bool.false_eq_true, List.map_cons, List.map_nil, B._law_tree_rows]
    rw [show [some (Sl.dat (.tuple (encT t))), some (Sl.dat (.tuple [])), none, none, none, none, none] = [some (.dat (.tuple (encT t))), some (.dat (.tuple (([] : List Row).map Row.enc))), o2 none, o2 none, o2 none, o2 none, o2 none] from rfl, q]
    simp only [evs, strR_s, List.cons_append, List.nil_append, Bool.and_true, Bool.true_and, Bool.and_false, Bool.false_and, Bool.or_true, Bool.true_or, Bool.or_false, Bool.false_or, Bool.not_true, Bool.not_false, Bool.not_not, fl_nil, fl_cons, bnd_ok, aft_nx, aft_ct, aft_bk, aft_rt, aft_exc, wds, atI_0, atI_1, ixt_2, ixt_last, ixl_last, ixl_0, ixl_1, ex_seto, ex_app, ex_pop, ex_par, own_l, app_own, pop_own, par_ok, set_nil, set_cons, frz_nil, frz_cons, frz_own, frz_dat, frz_no, frz_o2, enum_nil, enum_cons, wipe_nil, wipe_cons, ex_forB, exB_cons, addT, addL, enc_line, enc_op, enc_nx, enc_cl, cut_to, cut_from, cut_from1, cut_from2, cut_fromS, cut_init, rev_tt, eq_ss, ne_ss, skw, ite_true_b, ite_false_b, beq_self_eq_true, if_true, if_false, Bool.false_eq_true, List.map_cons, List.map_nil]
end
end Ev
/-! EvBr: broken rows; rows drawn, broken or not. -/
namespace Ev
open PySem PySem.Spec PyProof.Rows L2
/-- a row of the laws -/
def Row.drawn : Row → Bool
  | .line s => (lineTs ++ leafTs).contains s
  | .op s => nameTs.contains s
  | .nx s => nameTs.contains s
  | .cl s => nameTs.contains s
theorem texts_sk : ∀ z ∈ lineTs ++ leafTs, sk z = true := by decide +kernel
theorem names_sk : ∀ z ∈ nameTs, sk z = true := by decide +kernel
theorem Row.drawn.ok {r : Row} (h : r.drawn = true) : r.ok = true := by
  cases r with
  | line s => exact texts_sk s (by simpa [Row.drawn] using h)
  | op s => exact names_sk s (by simpa [Row.drawn] using h)
  | nx s => exact names_sk s (by simpa [Row.drawn] using h)
  | cl s => exact names_sk s (by simpa [Row.drawn] using h)
theorem drow_drawn {r : Row} (h : DRow r) : r.drawn = true := by
  cases r with
  | line s => exact List.contains_iff_mem.mpr (List.mem_append_left _ h)
  | op s => exact List.contains_iff_mem.mpr h
  | nx s => exact List.contains_iff_mem.mpr h
  | cl s => exact List.contains_iff_mem.mpr h
/-- how many rows a drawn tree may have -/
def rbd : Nat → Nat
  | 0 => 3
  | d + 1 => 3 * (4 + 3 * rbd d)
theorem LOk.all : ∀ (d : Nat) (l : Leaf), LOk d l → l.ok = true ∧ l.dp ≤ d ∧ (l.rows.length ≤ rbd d / 3) ∧ ∀ r ∈ l.rows, r.drawn = true
  | 0, l, ⟨s, hs, e⟩ => by
    subst e
    exact ⟨texts_sk s (List.mem_append_right _ hs), Nat.le_refl _, (by decide : 1 ≤ 3 / 3), fun r hr => by rw [List.mem_singleton.mp hr]; exact List.contains_iff_mem.mpr (List.mem_append_right _ hs)⟩
  | d + 1, l, .inl ⟨s, hs, e⟩ => by
    subst e
    refine ⟨texts_sk s (List.mem_append_right _ hs), Nat.zero_le _, ?_, fun r hr => by rw [List.mem_singleton.mp hr]; exact List.contains_iff_mem.mpr (List.mem_append_right _ hs)⟩
    show 1 ≤ 3 * (4 + 3 * rbd d) / 3
    omega
  | d + 1, l, .inr ⟨n, ps, e, hn, h1, h3, hp⟩ => by
    subst e
    have part : ∀ p ∈ ps, okT p = true ∧ dpT p ≤ d ∧ (rowsT p).length ≤ rbd d ∧ ∀ r ∈ rowsT p, r.drawn = true := by
      intro p hpp
      obtain ⟨q1, q2⟩ := hp p hpp
      have gen : ∀ t : List Leaf, (∀ x ∈ t, LOk d x) → okT t = true ∧ dpT t ≤ d ∧ (rowsT t).length ≤ t.length * (rbd d / 3) ∧ ∀ r ∈ rowsT t, r.drawn = true := by
        intro t
        induction t with
        | nil => exact fun _ => ⟨rfl, Nat.zero_le _, Nat.zero_le _, fun _ h => nomatch h⟩
        | cons x t ih =>
          intro h
          obtain ⟨a1, a2, a3, a4⟩ := LOk.all d x (h x List.mem_cons_self)
          obtain ⟨b1, b2, b3, b4⟩ := ih fun y hy => h y (List.mem_cons_of_mem _ hy)
          refine ⟨?_, Nat.max_le.mpr ⟨a2, b2⟩, ?_, fun r hr => (List.mem_append.mp hr).elim (a4 r) (b4 r)⟩
          · show (x.ok && okT t) = true
            rw [a1, b1]; rfl
          · show (x.rows ++ rowsT t).length ≤ (t.length + 1) * (rbd d / 3)
            rw [List.length_append, Nat.add_mul]
            omega
      obtain ⟨c1, c2, c3, c4⟩ := gen p q2
      refine ⟨c1, c2, ?_, c4⟩
      have : p.length * (rbd d / 3) ≤ 3 * (rbd d / 3) := Nat.mul_le_mul_right _ q1
      have e3 : 3 * (rbd d / 3) ≤ rbd d := Nat.mul_div_le _ _
      omega
    have parts : ∀ (ps : List (List Leaf)) (b : Bool), (∀ p ∈ ps, okT p = true ∧ dpT p ≤ d ∧ (rowsT p).length ≤ rbd d ∧ ∀ r ∈ rowsT p, r.drawn = true) →
        okP ps = true ∧ dpP ps ≤ d ∧ (rowsP n b ps).length ≤ ps.length * (1 + rbd d) ∧ ∀ r ∈ rowsP n b ps, r.drawn = true := by
      intro ps
      induction ps with
      | nil => exact fun b _ => ⟨rfl, Nat.zero_le _, Nat.zero_le _, fun _ h => nomatch h⟩
      | cons p ps ih =>
        intro b h
        obtain ⟨a1, a2, a3, a4⟩ := h p List.mem_cons_self
        obtain ⟨b1, b2, b3, b4⟩ := ih true fun y hy => h y (List.mem_cons_of_mem _ hy)
        refine ⟨?_, Nat.max_le.mpr ⟨a2, b2⟩, ?_, fun r hr => ?_⟩
        · show (okT p && okP ps) = true
          rw [a1, b1]; rfl
        · show (rowsT p ++ rowsP n true ps).length + 1 ≤ (ps.length + 1) * (1 + rbd d)
          rw [List.length_append, Nat.add_mul]
          omega
        · rcases List.mem_cons.mp hr with rfl | hr
          · cases b <;> exact List.contains_iff_mem.mpr hn
          · exact (List.mem_append.mp hr).elim (a4 r) (b4 r)
    obtain ⟨c1, c2, c3, c4⟩ := parts ps false part
    refine ⟨?_, Nat.succ_le_succ c2, ?_, fun r hr => ?_⟩
    · show (sk n && (okP ps && !ps.isEmpty)) = true
      rw [names_sk n hn, c1]
      match ps, h1 with
      | _ :: _, _ => rfl
    · show (rowsP n false ps ++ [Row.cl n]).length ≤ 3 * (4 + 3 * rbd d) / 3
      rw [List.length_append, List.length_singleton, Nat.mul_div_cancel_left _ (by decide)]
      have : ps.length * (1 + rbd d) ≤ 3 * (1 + rbd d) := Nat.mul_le_mul_right _ h3
      omega
    · rcases List.mem_append.mp hr with hr | hr
      · exact c4 r hr
      · rw [List.mem_singleton.mp hr]; exact List.contains_iff_mem.mpr hn
theorem DTree.all {d : Nat} {t : List Leaf} (h : DTree d t) : okT t = true ∧ dpT t ≤ d ∧ (rowsT t).length ≤ rbd d ∧ ∀ r ∈ rowsT t, r.drawn = true := by
  have gen : ∀ t : List Leaf, (∀ x ∈ t, LOk d x) → okT t = true ∧ dpT t ≤ d ∧ (rowsT t).length ≤ t.length * (rbd d / 3) ∧ ∀ r ∈ rowsT t, r.drawn = true := by
    intro t
    induction t with
    | nil => exact fun _ => ⟨rfl, Nat.zero_le _, Nat.zero_le _, fun _ h => nomatch h⟩
    | cons x t ih =>
      intro h
      obtain ⟨a1, a2, a3, a4⟩ := LOk.all d x (h x List.mem_cons_self)
      obtain ⟨b1, b2, b3, b4⟩ := ih fun y hy => h y (List.mem_cons_of_mem _ hy)
      refine ⟨?_, Nat.max_le.mpr ⟨a2, b2⟩, ?_, fun r hr => (List.mem_append.mp hr).elim (a4 r) (b4 r)⟩
      · show (x.ok && okT t) = true
        rw [a1, b1]; rfl
      · show (x.rows ++ rowsT t).length ≤ (t.length + 1) * (rbd d / 3)
        rw [List.length_append, Nat.add_mul]
        omega
  obtain ⟨c1, c2, c3, c4⟩ := gen t h.2
  refine ⟨c1, c2, ?_, c4⟩
  have : t.length * (rbd d / 3) ≤ 3 * (rbd d / 3) := Nat.mul_le_mul_right _ h.1
  have e3 : 3 * (rbd d / 3) ≤ rbd d := Nat.mul_div_le _ _
  omega
theorem nat_mod (x : Int) (n : Nat) : ∃ j : Nat, x % ((n : Int) + 1) = (j : Int) ∧ j ≤ n := by
  have h1 := Int.emod_nonneg x (b := (n : Int) + 1) (by omega)
  have h2 := Int.emod_lt_of_pos x (b := (n : Int) + 1) (by omega)
  exact ⟨(x % ((n : Int) + 1)).toNat, by omega, by omega⟩
theorem take_enc (rs : List Row) (k : Nat) : (rs.map Row.enc).take k = (rs.take k).map Row.enc := (List.map_take).symm
theorem drop_enc (rs : List Row) (k : Nat) : (rs.map Row.enc).drop k = (rs.drop k).map Row.enc := (List.map_drop).symm
section
variable {P : Pr} {m : Nat}
theorem loop_broken (Q : List Row → Nat → Prop) (q1 : ∀ rs n, Q rs n → Q rs (n + 1)) (q2 : ∀ xs ys r n, Q (xs ++ [r] ++ ys) n → Q (xs ++ ys) (n + 1)) (q3 : ∀ xs ys r n, Q (xs ++ ys) n → Q (xs ++ [r] ++ ys) (n + 1)) (H : HasDraw P) : ∀ (ds : List D) (rs : List Row) (n : Int) (x2 x3 x4 x5 : Option D) (c : Nat), Q rs c → (∀ d ∈ ds, ∃ k : Int, d = .int k) → (∀ r ∈ rs, r.drawn = true) → rs.length + ds.length ≤ 100000 →
    ∃ (rs' : List Row) (y2 y3 y4 y5 : Option D), forLoop (.nm 2) (exB (gOf P (m + 1)) B.l1__law_broken) ds [some (.dat (.tuple (rs.map Row.enc))), some (.dat (.int n)), o2 x2, o2 x3, o2 x4, o2 x5] = .nx [some (.dat (.tuple (rs'.map Row.enc))), some (.dat (.int n)), o2 y2, o2 y3, o2 y4, o2 y5] ∧ (∀ r ∈ rs', r.drawn = true) ∧ rs'.length ≤ rs.length + ds.length ∧ Q rs' (c + ds.length)
  | [], rs, n, x2, x3, x4, x5, c, hQ, _, hr, _ => ⟨rs, x2, x3, x4, x5, rfl, hr, Nat.le_refl _, hQ⟩
  | d :: ds, rs, n, x2, x3, x4, x5, c, hQ, hd, hr, hl => by
    have hl' : rs.length + (ds.length + 1) ≤ 100000 := hl
    obtain ⟨k, rfl⟩ := hd d List.mem_cons_self
    have hd' := fun x h => hd x (List.mem_cons_of_mem _ h)
    have c1 : callR (gOf P (m + 1)) "_law_drawn" [.int n, .int (60 + k)] = .ok (.int (drawI n (60 + k))) := (H.drawn.call rfl).trans (run_drawn H n (60 + k))
    generalize hD : drawI n (60 + k) = d at c1
    obtain ⟨j, hj, hjl⟩ := nat_mod (d / 16) rs.length
    have md : binD .Mod (.int (d / 16)) (.int ((rs.length : Int) + 1)) = .ok (.int (j : Int)) := by rw [mod_ii (by omega), hj]
    cases hc : (d / 1024 % 2 == 0) with
    | true =>
      have hQ' : Q (rs.take j ++ rs.drop (j + 1)) (c + 1) := by
        by_cases hjr : j < rs.length
        · refine q2 _ _ rs[j] c ?_
          have : rs.take j ++ [rs[j]] ++ rs.drop (j + 1) = rs := by
            rw [List.append_assoc, List.singleton_append, ← List.drop_eq_getElem_cons hjr, List.take_append_drop]
          rw [this]
          exact hQ
        · have : rs.take j ++ rs.drop (j + 1) = rs := by rw [List.take_of_length_le (by omega), List.drop_of_length_le (by omega), List.append_nil]
          rw [this]
          exact q1 _ _ hQ
      obtain ⟨rs', y2, y3, y4, y5, e1, e2, e3, e4⟩ := loop_broken Q q1 q2 q3 H ds (rs.take j ++ rs.drop (j + 1)) n (some (.int k)) (some (.int d)) (some (.int j)) x5 (c + 1) hQ' hd' (fun r h => (List.mem_append.mp h).elim (fun h => hr r (List.mem_of_mem_take h)) fun h => hr r (List.mem_of_mem_drop h)) (by simp only [List.length_append, List.length_take, List.length_drop]; omega)
      refine ⟨rs', y2, y3, y4, y5, ?_, e2, by simp only [List.length_append, List.length_take, List.length_drop] at e3; simp only [List.length_cons]; omega, by rw [List.length_cons, show c + (ds.length + 1) = c + 1 + ds.length by omega]; exact e4⟩
      simp (disch := (first | assumption | omega | (simp only [List.length_append, List.length_map, List.length_cons, List.length_nil, List.length_reverse, List.length_take, List.length_drop, List.length_singleton]; omega))) only [evs, strR_s, List.cons_append, List.nil_append, Bool.and_true, Bool.true_and, Bool.and_false, Bool.false_and, Bool.or_true, Bool.true_or, Bool.or_false, Bool.false_or, Bool.not_true, Bool.not_false, Bool.not_not, fl_nil, fl_cons, bnd_ok, aft_nx, aft_ct, aft_bk, aft_rt, aft_exc, wds, atI_0, atI_1, ixt_2, ixt_last, ixl_last, ixl_0, ixl_1, ex_seto, ex_app, ex_pop, ex_par, own_l, app_own, pop_own, par_ok, set_nil, set_cons, frz_nil, frz_cons, frz_own, frz_dat, frz_no, frz_o2, enum_nil, enum_cons, wipe_nil, wipe_cons, ex_forB, exB_cons, addT, addL, enc_line, enc_op, enc_nx, enc_cl, cut_to, cut_from, cut_from1, cut_from2, cut_fromS, cut_init, rev_tt, eq_ss, ne_ss, skw, ite_true_b, ite_false_b, beq_self_eq_true, if_true, if_false, Bool.false_eq_true, List.map_cons, List.map_nil, B.u_l1__law_broken, c1, List.length_map, md, hc]
      simpa only [List.map_append, take_enc, drop_enc, o2_some] using e1
    | false =>
      obtain ⟨w, hw, ew⟩ := ix_mem (xs := [.str "open", .str "close", .str "next"]) (i := d / 4096 % 3) (Int.emod_nonneg _ (by decide)) (Int.emod_lt_of_pos _ (by decide))
      obtain ⟨s, hs, es⟩ := ix_mem (xs := [.str "a", .str "b"]) (i := d / 16384 % 2) (Int.emod_nonneg _ (by decide)) (Int.emod_lt_of_pos _ (by decide))
      have hrow : ∃ r : Row, r.drawn = true ∧ (.tuple [w, s] : D) = r.enc := by
        simp only [List.mem_cons, List.not_mem_nil, or_false] at hw hs
        rcases hw with rfl | rfl | rfl <;> rcases hs with rfl | rfl
        · exact ⟨.op "a", by decide +kernel, rfl⟩
        · exact ⟨.op "b", by decide +kernel, rfl⟩
        · exact ⟨.cl "a", by decide +kernel, rfl⟩
        · exact ⟨.cl "b", by decide +kernel, rfl⟩
        · exact ⟨.nx "a", by decide +kernel, rfl⟩
        · exact ⟨.nx "b", by decide +kernel, rfl⟩
      obtain ⟨r, hr1, hr2⟩ := hrow
      obtain ⟨rs', y2, y3, y4, y5, e1, e2, e3, e4⟩ := loop_broken Q q1 q2 q3 H ds (rs.take j ++ [r] ++ rs.drop j) n (some (.int k)) (some (.int d)) (some (.int j)) (some r.enc) (c + 1) (q3 _ _ r c (by rw [List.take_append_drop]; exact hQ)) hd' (fun x h => by
        simp only [List.mem_append, List.mem_singleton] at h
        rcases h with (h | h) | h
        · exact hr x (List.mem_of_mem_take h)
        · rw [h]; exact hr1
        · exact hr x (List.mem_of_mem_drop h)) (by simp only [List.length_append, List.length_take, List.length_drop, List.length_singleton]; omega)
      refine ⟨rs', y2, y3, y4, y5, ?_, e2, by simp only [List.length_append, List.length_take, List.length_drop, List.length_singleton] at e3; simp only [List.length_cons]; omega, by rw [List.length_cons, show c + (ds.length + 1) = c + 1 + ds.length by omega]; exact e4⟩
      simp (disch := (first | assumption | omega | (simp only [List.length_append, List.length_map, List.length_cons, List.length_nil, List.length_reverse, List.length_take, List.length_drop, List.length_singleton]; omega))) only [evs, strR_s, List.cons_append, List.nil_append, Bool.and_true, Bool.true_and, Bool.and_false, Bool.false_and, Bool.or_true, Bool.true_or, Bool.or_false, Bool.false_or, Bool.not_true, Bool.not_false, Bool.not_not, fl_nil, fl_cons, bnd_ok, aft_nx, aft_ct, aft_bk, aft_rt, aft_exc, wds, atI_0, atI_1, ixt_2, ixt_last, ixl_last, ixl_0, ixl_1, ex_seto, ex_app, ex_pop, ex_par, own_l, app_own, pop_own, par_ok, set_nil, set_cons, frz_nil, frz_cons, frz_own, frz_dat, frz_no, frz_o2, enum_nil, enum_cons, wipe_nil, wipe_cons, ex_forB, exB_cons, addT, addL, enc_line, enc_op, enc_nx, enc_cl, cut_to, cut_from, cut_from1, cut_from2, cut_fromS, cut_init, rev_tt, eq_ss, ne_ss, skw, ite_true_b, ite_false_b, beq_self_eq_true, if_true, if_false, Bool.false_eq_true, List.map_cons, List.map_nil, B.u_l1__law_broken, c1, List.length_map, md, hc, ew, es, hr2]
      simpa only [List.map_append, take_enc, drop_enc, List.map_cons, List.map_nil, List.append_assoc, o2_some] using e1
theorem call_brokenQ (Q : List Row → Nat → Prop) (q1 : ∀ rs n, Q rs n → Q rs (n + 1)) (q2 : ∀ xs ys r n, Q (xs ++ [r] ++ ys) n → Q (xs ++ ys) (n + 1)) (q3 : ∀ xs ys r n, Q (xs ++ ys) n → Q (xs ++ [r] ++ ys) (n + 1)) (H : HasDraw P) (h : Has P "_law_broken" 2 6 B._law_broken) (rs : List Row) (n : Int) (hr : ∀ r ∈ rs, r.drawn = true) (hl : rs.length ≤ 10000) (c : Nat) (hQ : Q rs c) : ∃ rs' : List Row, callR (gOf P (m + 2)) "_law_broken" [.tuple (rs.map Row.enc), .int n] = .ok (.tuple (rs'.map Row.enc)) ∧ (∀ r ∈ rs', r.drawn = true) ∧ rs'.length ≤ rs.length + 3 ∧ Q rs' (c + 3) := by
  rw [h.body rfl]
  have b1 := Int.emod_nonneg (n / 16) (b := 4) (by decide)
  have b2 := Int.emod_lt_of_pos (n / 16) (b := 4) (by decide)
  have hlen := rngL_len 0 (n / 16 % 4)
  obtain ⟨rs', y2, y3, y4, y5, e1, e2, e3, e4⟩ := loop_broken (m := m) Q q1 q2 q3 H (rngL 0 (n / 16 % 4)) rs n none none none none c hQ (fun d hd => by obtain ⟨k, e, _⟩ := rngL_mem hd; exact ⟨k, e⟩) hr (by omega)
  have up : ∀ k a, Q rs' a → Q rs' (a + k) := fun k => by
    induction k with
    | zero => exact fun a h => h
    | succ k ih => exact fun a h => q1 _ _ (ih a h)
  have e5 : Q rs' (c + 3) := by
    have := up (3 - (rngL 0 (n / 16 % 4)).length) _ e4
    rwa [show c + (rngL 0 (n / 16 % 4)).length + (3 - (rngL 0 (n / 16 % 4)).length) = c + 3 by omega] at this
  refine ⟨rs', ?_, e2, by omega, e5⟩
  simp only [evs, strR_s, List.cons_append, List.nil_append, Bool.and_true, Bool.true_and, Bool.and_false, Bool.false_and, Bool.or_true, Bool.true_or, Bool.or_false, Bool.false_or, Bool.not_true, Bool.not_false, Bool.not_not, fl_nil, fl_cons, bnd_ok, aft_nx, aft_ct, aft_bk, aft_rt, aft_exc, wds, atI_0, atI_1, ixt_2, ixt_last, ixl_last, ixl_0, ixl_1, ex_seto, ex_app, ex_pop, ex_par, own_l, app_own, pop_own, par_ok, set_nil, set_cons, frz_nil, frz_cons, frz_own, frz_dat, frz_no, frz_o2, enum_nil, enum_cons, wipe_nil, wipe_cons, ex_forB, exB_cons, addT, addL, enc_line, enc_op, enc_nx, enc_cl, cut_to, cut_from, cut_from1, cut_from2, cut_fromS, cut_init, rev_tt, eq_ss, ne_ss, skw, ite_true_b, ite_false_b, beq_self_eq_true, if_true, if_false, Bool.false_eq_true, List.map_cons, List.map_nil, B._law_broken, rng_ii (show -4611686018427387904 ≤ (0 : Int) ∧ (0 : Int) < 4611686018427387904 by decide) (show -4611686018427387904 ≤ n / 16 % 4 ∧ n / 16 % 4 < 4611686018427387904 by omega)]
  rw [show [some (Sl.dat (.tuple (rs.map Row.enc))), some (Sl.dat (.int n)), none, none, none, none] = [some (.dat (.tuple (rs.map Row.enc))), some (.dat (.int n)), o2 none, o2 none, o2 none, o2 none] from rfl, e1]
  simp only [evs, strR_s, List.cons_append, List.nil_append, Bool.and_true, Bool.true_and, Bool.and_false, Bool.false_and, Bool.or_true, Bool.true_or, Bool.or_false, Bool.false_or, Bool.not_true, Bool.not_false, Bool.not_not, fl_nil, fl_cons, bnd_ok, aft_nx, aft_ct, aft_bk, aft_rt, aft_exc, wds, atI_0, atI_1, ixt_2, ixt_last, ixl_last, ixl_0, ixl_1, ex_seto, ex_app, ex_pop, ex_par, own_l, app_own, pop_own, par_ok, set_nil, set_cons, frz_nil, frz_cons, frz_own, frz_dat, frz_no, frz_o2, enum_nil, enum_cons, wipe_nil, wipe_cons, ex_forB, exB_cons, addT, addL, enc_line, enc_op, enc_nx, enc_cl, cut_to, cut_from, cut_from1, cut_from2, cut_fromS, cut_init, rev_tt, eq_ss, ne_ss, skw, ite_true_b, ite_false_b, beq_self_eq_true, if_true, if_false, Bool.false_eq_true, List.map_cons, List.map_nil]
theorem call_broken (H : HasDraw P) (h : Has P "_law_broken" 2 6 B._law_broken) (rs : List Row) (n : Int) (hr : ∀ r ∈ rs, r.drawn = true) (hl : rs.length ≤ 10000) : ∃ rs' : List Row, callR (gOf P (m + 2)) "_law_broken" [.tuple (rs.map Row.enc), .int n] = .ok (.tuple (rs'.map Row.enc)) ∧ (∀ r ∈ rs', r.drawn = true) ∧ rs'.length ≤ rs.length + 3 := by
  obtain ⟨rs', e1, e2, e3, _⟩ := call_brokenQ (m := m) (fun _ _ => True) (fun _ _ _ => trivial) (fun _ _ _ _ _ => trivial) (fun _ _ _ _ _ => trivial) H h rs n hr hl 0 trivial
  exact ⟨rs', e1, e2, e3⟩
structure HasRD (P : Pr) : Prop where
  rw : HasRw P
  tree : Has P "_law_tree" 2 7 B._law_tree
  trows : Has P "_law_tree_rows" 1 7 B._law_tree_rows
  broken : Has P "_law_broken" 2 6 B._law_broken
  rd : Has P "_law_rows_drawn" 3 5 B._law_rows_drawn
theorem call_rows_drawn (H : HasRD P) (ns : List Int) (k : Int) (most : Nat) (hk : 0 ≤ k) (hm : most ≤ 1000) : ∃ rs : List Row, callR (gOf P (m + 20)) "_law_rows_drawn" [.list (ns.map PyData.int), .int k, .int (most : Int)] = .ok (.tuple (rs.map Row.enc)) ∧ (∀ r ∈ rs, r.drawn = true) ∧ rs.length ≤ most + 3 := by
  rw [H.rd.body rfl]
  have c1 : ∀ k : Int, 0 ≤ k → callR (gOf P (m + 19)) "_law_mixed" [.list (ns.map PyData.int), .int k] = .ok (.int (mixI (cellI ns k) k)) := fun k hk => (H.rw.draw.mixed.call rfl).trans (run_mixed (m := m + 17) H.rw.draw ns k hk)
  simp only [evs, strR_s, List.cons_append, List.nil_append, Bool.and_true, Bool.true_and, Bool.and_false, Bool.false_and, Bool.or_true, Bool.true_or, Bool.or_false, Bool.false_or, Bool.not_true, Bool.not_false, Bool.not_not, fl_nil, fl_cons, bnd_ok, aft_nx, aft_ct, aft_bk, aft_rt, aft_exc, wds, atI_0, atI_1, ixt_2, ixt_last, ixl_last, ixl_0, ixl_1, ex_seto, ex_app, ex_pop, ex_par, own_l, app_own, pop_own, par_ok, set_nil, set_cons, frz_nil, frz_cons, frz_own, frz_dat, frz_no, frz_o2, enum_nil, enum_cons, wipe_nil, wipe_cons, ex_forB, exB_cons, addT, addL, enc_line, enc_op, enc_nx, enc_cl, cut_to, cut_from, cut_from1, cut_from2, cut_fromS, cut_init, rev_tt, eq_ss, ne_ss, skw, ite_true_b, ite_false_b, beq_self_eq_true, if_true, if_false, Bool.false_eq_true, List.map_cons, List.map_nil, B._law_rows_drawn, c1 k hk, if_b]
  cases hc : (mixI (cellI ns k) k / 64 % 3 == 0) with
  | true =>
    obtain ⟨rs, hr1, hr2, hr3⟩ := run_rows (m := m + 17) H.rw (mixI (cellI ns (k + 1)) (k + 1)) most (by omega) (by omega)
    have c2 : callR (gOf P (m + 19)) "_law_rows" [.int (mixI (cellI ns (k + 1)) (k + 1)), .int (most : Int)] = .ok (.tuple (rs.map Row.enc)) := (H.rw.rows.call rfl).trans hr3
    refine ⟨rs, ?_, fun r hr => drow_drawn (hr2 r hr), by omega⟩
    simp only [evs, strR_s, List.cons_append, List.nil_append, Bool.and_true, Bool.true_and, Bool.and_false, Bool.false_and, Bool.or_true, Bool.true_or, Bool.or_false, Bool.false_or, Bool.not_true, Bool.not_false, Bool.not_not, fl_nil, fl_cons, bnd_ok, aft_nx, aft_ct, aft_bk, aft_rt, aft_exc, wds, atI_0, atI_1, ixt_2, ixt_last, ixl_last, ixl_0, ixl_1, ex_seto, ex_app, ex_pop, ex_par, own_l, app_own, pop_own, par_ok, set_nil, set_cons, frz_nil, frz_cons, frz_own, frz_dat, frz_no, frz_o2, enum_nil, enum_cons, wipe_nil, wipe_cons, ex_forB, exB_cons, addT, addL, enc_line, enc_op, enc_nx, enc_cl, cut_to, cut_from, cut_from1, cut_from2, cut_fromS, cut_init, rev_tt, eq_ss, ne_ss, skw, ite_true_b, ite_false_b, beq_self_eq_true, if_true, if_false, Bool.false_eq_true, List.map_cons, List.map_nil, hc, c1 (k + 1) (by omega), c2]
  | false =>
    obtain ⟨t, ht1, ht2⟩ := run_tree (P := P) ⟨H.rw.draw, H.tree⟩ 2 (m + 15) (mixI (cellI ns (k + 1)) (k + 1))
    have c2 : callR (gOf P (m + 19)) "_law_tree" [.int (mixI (cellI ns (k + 1)) (k + 1)), .int 2] = .ok (.tuple (encT t)) := (Has.call H.tree rfl).trans ht2
    obtain ⟨q1, q2, q3, q4⟩ := ht1.all
    have q3' : (rowsT t).length ≤ 363 := q3
    have c3 : callR (gOf P (m + 19)) "_law_tree_rows" [.tuple (encT t)] = .ok (.tuple ((rowsT t).map Row.enc)) := call_ltr (m := m + 16) H.trows 2 t q1 q2 (by omega)
    obtain ⟨rs', e1, e2, e3⟩ := call_broken (m := m + 17) H.rw.draw H.broken ((rowsT t).take most) (mixI (cellI ns k) k) (fun r hr => q4 r (List.mem_of_mem_take hr)) (by rw [List.length_take]; omega)
    refine ⟨rs', ?_, e2, by rw [List.length_take] at e3; omega⟩
    rw [← take_enc] at e1
    simp only [evs, strR_s, List.cons_append, List.nil_append, Bool.and_true, Bool.true_and, Bool.and_false, Bool.false_and, Bool.or_true, Bool.true_or, Bool.or_false, Bool.false_or, Bool.not_true, Bool.not_false, Bool.not_not, fl_nil, fl_cons, bnd_ok, aft_nx, aft_ct, aft_bk, aft_rt, aft_exc, wds, atI_0, atI_1, ixt_2, ixt_last, ixl_last, ixl_0, ixl_1, ex_seto, ex_app, ex_pop, ex_par, own_l, app_own, pop_own, par_ok, set_nil, set_cons, frz_nil, frz_cons, frz_own, frz_dat, frz_no, frz_o2, enum_nil, enum_cons, wipe_nil, wipe_cons, ex_forB, exB_cons, addT, addL, enc_line, enc_op, enc_nx, enc_cl, cut_to, cut_from, cut_from1, cut_from2, cut_fromS, cut_init, rev_tt, eq_ss, ne_ss, skw, ite_true_b, ite_false_b, beq_self_eq_true, if_true, if_false, Bool.false_eq_true, List.map_cons, List.map_nil, hc, c1 (k + 1) (by omega), c2, c3, e1]
end
end Ev
/-! EvTe: lines, letters, deep, split, joined, wrapped, flat of trees. -/
namespace Ev
open PySem PySem.Spec PyProof.Rows L2
mutual
def Leaf.lns : Leaf → List Str
  | .line s => [s]
  | .letter _ ps => lnsP ps
termination_by structural l => l
def lnsT : List Leaf → List Str
  | [] => []
  | l :: t => l.lns ++ lnsT t
termination_by structural l => l
def lnsP : List (List Leaf) → List Str
  | [] => []
  | p :: ps => lnsT p ++ lnsP ps
termination_by structural l => l
end
mutual
def Leaf.lts : Leaf → List Str
  | .line _ => []
  | .letter n ps => n :: ltsP ps
termination_by structural l => l
def ltsT : List Leaf → List Str
  | [] => []
  | l :: t => l.lts ++ ltsT t
termination_by structural l => l
def ltsP : List (List Leaf) → List Str
  | [] => []
  | p :: ps => ltsT p ++ ltsP ps
termination_by structural l => l
end
theorem lnsT_app : ∀ (t u : List Leaf), lnsT (t ++ u) = lnsT t ++ lnsT u
  | [], u => rfl
  | l :: t, u => by
    show l.lns ++ lnsT (t ++ u) = (l.lns ++ lnsT t) ++ lnsT u
    rw [lnsT_app t u, List.append_assoc]
theorem ltsT_app : ∀ (t u : List Leaf), ltsT (t ++ u) = ltsT t ++ ltsT u
  | [], u => rfl
  | l :: t, u => by
    show l.lts ++ ltsT (t ++ u) = (l.lts ++ ltsT t) ++ ltsT u
    rw [ltsT_app t u, List.append_assoc]
theorem dpT_app : ∀ (t u : List Leaf), dpT (t ++ u) = max (dpT t) (dpT u)
  | [], u => (Nat.max_eq_right (Nat.zero_le _)).symm
  | l :: t, u => by
    show max l.dp (dpT (t ++ u)) = max (max l.dp (dpT t)) (dpT u)
    rw [dpT_app t u, Nat.max_assoc]
theorem okT_app (t u : List Leaf) : okT (t ++ u) = (okT t && okT u) := by
  induction t with
  | nil => rfl
  | cons l t ih =>
    show (l.ok && okT (t ++ u)) = ((l.ok && okT t) && okT u)
    rw [ih, Bool.and_assoc]
mutual
theorem Leaf.cnt : ∀ (l : Leaf), l.lns.length + l.lts.length ≤ l.rows.length
  | .line s => Nat.le_refl 1
  | .letter n ps => by
    have := cntP n false ps
    show (lnsP ps).length + ((ltsP ps).length + 1) ≤ (rowsP n false ps ++ [Row.cl n]).length
    rw [List.length_append, List.length_singleton]
    omega
theorem cntT : ∀ (t : List Leaf), (lnsT t).length + (ltsT t).length ≤ (rowsT t).length
  | [] => Nat.le_refl 0
  | l :: t => by
    have h1 := Leaf.cnt l
    have h2 := cntT t
    show (l.lns ++ lnsT t).length + (l.lts ++ ltsT t).length ≤ (l.rows ++ rowsT t).length
    rw [List.length_append, List.length_append, List.length_append]
    omega
theorem cntP : ∀ (n : Str) (b : Bool) (ps : List (List Leaf)), (lnsP ps).length + (ltsP ps).length ≤ (rowsP n b ps).length
  | _, _, [] => Nat.le_refl 0
  | n, b, p :: ps => by
    have h1 := cntT p
    have h2 := cntP n true ps
    show (lnsT p ++ lnsP ps).length + (ltsT p ++ ltsP ps).length ≤ (rowsT p ++ rowsP n true ps).length + 1
    rw [List.length_append, List.length_append, List.length_append]
    omega
end
mutual
theorem Leaf.lns_sk : ∀ (l : Leaf), l.ok = true → (∀ s ∈ l.lns, sk s = true) ∧ ∀ s ∈ l.lts, sk s = true
  | .line s, h => ⟨fun x hx => by rw [List.mem_singleton.mp hx]; exact h, fun x hx => (nomatch hx)⟩
  | .letter n ps, h => by
    have h' : (sk n && (okP ps && !ps.isEmpty)) = true := h
    rw [Bool.and_eq_true, Bool.and_eq_true] at h'
    obtain ⟨a, b⟩ := lnsP_sk ps h'.2.1
    exact ⟨a, fun x hx => (List.mem_cons.mp hx).elim (fun e => e ▸ h'.1) (b x)⟩
theorem lnsT_sk : ∀ (t : List Leaf), okT t = true → (∀ s ∈ lnsT t, sk s = true) ∧ ∀ s ∈ ltsT t, sk s = true
  | [], _ => ⟨fun x hx => (nomatch hx), fun x hx => (nomatch hx)⟩
  | l :: t, h => by
    have h' : (l.ok && okT t) = true := h
    rw [Bool.and_eq_true] at h'
    obtain ⟨a, b⟩ := Leaf.lns_sk l h'.1
    obtain ⟨c, d⟩ := lnsT_sk t h'.2
    exact ⟨fun x hx => (List.mem_append.mp hx).elim (a x) (c x), fun x hx => (List.mem_append.mp hx).elim (b x) (d x)⟩
theorem lnsP_sk : ∀ (t : List (List Leaf)), okP t = true → (∀ s ∈ lnsP t, sk s = true) ∧ ∀ s ∈ ltsP t, sk s = true
  | [], _ => ⟨fun x hx => (nomatch hx), fun x hx => (nomatch hx)⟩
  | l :: t, h => by
    have h' : (okT l && okP t) = true := h
    rw [Bool.and_eq_true] at h'
    obtain ⟨a, b⟩ := lnsT_sk l h'.1
    obtain ⟨c, d⟩ := lnsP_sk t h'.2
    exact ⟨fun x hx => (List.mem_append.mp hx).elim (a x) (c x), fun x hx => (List.mem_append.mp hx).elim (b x) (d x)⟩
end
theorem dpP_mem : ∀ {ps : List (List Leaf)} {p : List Leaf}, p ∈ ps → dpT p ≤ dpP ps
  | q :: ps, p, h => (List.mem_cons.mp h).elim (fun e => e ▸ Nat.le_max_left _ _) fun h => Nat.le_trans (dpP_mem h) (Nat.le_max_right _ _)
theorem dpT_mem : ∀ {t : List Leaf} {l : Leaf}, l ∈ t → l.dp ≤ dpT t
  | q :: ps, p, h => (List.mem_cons.mp h).elim (fun e => e ▸ Nat.le_max_left _ _) fun h => Nat.le_trans (dpT_mem h) (Nat.le_max_right _ _)
theorem lnsP_mem : ∀ {ps : List (List Leaf)} {p : List Leaf}, p ∈ ps → (lnsT p).length ≤ (lnsP ps).length
  | q :: ps, p, h => by
    show _ ≤ (lnsT q ++ lnsP ps).length
    rw [List.length_append]
    rcases List.mem_cons.mp h with rfl | h
    · omega
    · have := lnsP_mem h; omega
theorem ltsP_mem : ∀ {ps : List (List Leaf)} {p : List Leaf}, p ∈ ps → (ltsT p).length ≤ (ltsP ps).length
  | q :: ps, p, h => by
    show _ ≤ (ltsT q ++ ltsP ps).length
    rw [List.length_append]
    rcases List.mem_cons.mp h with rfl | h
    · omega
    · have := ltsP_mem h; omega
theorem enc_ln (s : Str) : (Leaf.line s).enc = .str s := rfl
theorem enc_lt (n : Str) (ps : List (List Leaf)) : (Leaf.letter n ps).enc = .tuple [.str n, .tuple (encPs ps)] := rfl
theorem encT_cons (l : Leaf) (t : List Leaf) : encT (l :: t) = l.enc :: encT t := rfl
theorem encPs_cons (p : List Leaf) (ps : List (List Leaf)) : encPs (p :: ps) = .tuple (encT p) :: encPs ps := rfl
theorem encT_nil : encT [] = [] := rfl
theorem encPs_nil : encPs [] = [] := rfl
/-- each def of this text tells a leaf's kind -/
theorem call_is_text {P : Pr} {m : Nat} (h : Has P "is_text" 1 1 B.is_text) (l : Leaf) : callR (gOf P (m + 1)) "is_text" [l.enc] = .ok (.bool (match l with | .line _ => true | .letter _ _ => false)) := by
  rw [h.body rfl]
  cases l <;> simp only [evs, strR_s, List.cons_append, List.nil_append, Bool.and_true, Bool.true_and, Bool.and_false, Bool.false_and, Bool.or_true, Bool.true_or, Bool.or_false, Bool.false_or, Bool.not_true, Bool.not_false, Bool.not_not, fl_nil, fl_cons, bnd_ok, aft_nx, aft_ct, aft_bk, aft_rt, aft_exc, wds, atI_0, atI_1, ixt_2, ixt_last, ixl_last, ixl_0, ixl_1, ex_seto, ex_app, ex_pop, ex_par, own_l, app_own, pop_own, par_ok, set_nil, set_cons, frz_nil, frz_cons, frz_own, frz_dat, frz_no, frz_o2, enum_nil, enum_cons, wipe_nil, wipe_cons, ex_forB, exB_cons, addT, addL, enc_line, enc_op, enc_nx, enc_cl, cut_to, cut_from, cut_from1, cut_from2, cut_fromS, cut_init, rev_tt, eq_ss, ne_ss, skw, ite_true_b, ite_false_b, beq_self_eq_true, if_true, if_false, Bool.false_eq_true, List.map_cons, List.map_nil, B.is_text, enc_ln, enc_lt]
section
variable {P : Pr} {m : Nat}
theorem part_loop {g : G} {f : Str} {F : List Leaf → List Str} {FP : List (List Leaf) → List Str} (hP : ∀ p ps, FP (p :: ps) = F p ++ FP ps) (hN : FP [] = []) {body : List S} (hb : ∀ env, exs g body env = exs g [.set 1 (.bin .Add (.slot 1) (.call f [.slot 3]))] env) : ∀ (ps : List (List Leaf)) (acc : List Str) (a0 a2 : D) (x3 : Option D),
    (∀ p ∈ ps, callR g f [.tuple (encT p)] = .ok (.tuple ((F p).map PyData.str))) → acc.length + (FP ps).length ≤ 1000000 →
    ∃ y3, forLoop (.nm 3) (exB g body) (encPs ps) [some (.dat a0), some (.dat (.tuple (acc.map PyData.str))), some (.dat a2), o2 x3] = .nx [some (.dat a0), some (.dat (.tuple ((acc ++ FP ps).map PyData.str))), some (.dat a2), o2 y3]
  | [], acc, a0, a2, x3, _, _ => ⟨x3, by rw [hN, List.append_nil]; rfl⟩
  | p :: ps, acc, a0, a2, x3, hc, hl => by
    rw [hP, List.length_append] at hl
    obtain ⟨y3, ih⟩ := part_loop hP hN hb ps (acc ++ F p) a0 a2 (some (.tuple (encT p))) (fun q hq => hc q (List.mem_cons_of_mem _ hq)) (by rw [List.length_append]; omega)
    have c1 := hc p List.mem_cons_self
    refine ⟨y3, ?_⟩
    rw [hP, ← List.append_assoc, ← ih, encPs_cons]
    simp (disch := (first | assumption | omega | (simp only [List.length_append, List.length_map, List.length_cons, List.length_nil, List.length_reverse, List.length_take, List.length_drop, List.length_singleton]; omega))) only [evs, strR_s, List.cons_append, List.nil_append, Bool.and_true, Bool.true_and, Bool.and_false, Bool.false_and, Bool.or_true, Bool.true_or, Bool.or_false, Bool.false_or, Bool.not_true, Bool.not_false, Bool.not_not, fl_nil, fl_cons, bnd_ok, aft_nx, aft_ct, aft_bk, aft_rt, aft_exc, wds, atI_0, atI_1, ixt_2, ixt_last, ixl_last, ixl_0, ixl_1, ex_seto, ex_app, ex_pop, ex_par, own_l, app_own, pop_own, par_ok, set_nil, set_cons, frz_nil, frz_cons, frz_own, frz_dat, frz_no, frz_o2, enum_nil, enum_cons, wipe_nil, wipe_cons, ex_forB, exB_cons, addT, addL, enc_line, enc_op, enc_nx, enc_cl, cut_to, cut_from, cut_from1, cut_from2, cut_fromS, cut_init, rev_tt, eq_ss, ne_ss, skw, ite_true_b, ite_false_b, beq_self_eq_true, if_true, if_false, Bool.false_eq_true, List.map_cons, List.map_nil, hb, c1, List.map_append]
    rfl
theorem leaf_lines {g : G} {n : Nat} (hT : ∀ l : Leaf, callR g "is_text" [l.enc] = .ok (.bool (match l with | .line _ => true | .letter _ _ => false))) (hc : ∀ p, dpT p + 1 ≤ n → (lnsT p).length ≤ 1000000 → callR g "lines" [.tuple (encT p)] = .ok (.tuple ((lnsT p).map PyData.str))) : ∀ (t : List Leaf) (acc : List Str) (a0 : D) (x2 x3 : Option D), dpT t ≤ n → acc.length + (lnsT t).length ≤ 1000000 →
    ∃ y2 y3, forLoop (.nm 2) (exB g B.l1_lines) (encT t) [some (.dat a0), some (.dat (.tuple (acc.map PyData.str))), o2 x2, o2 x3] = .nx [some (.dat a0), some (.dat (.tuple ((acc ++ lnsT t).map PyData.str))), o2 y2, o2 y3]
  | [], acc, a0, x2, x3, _, _ => ⟨x2, x3, by rw [show lnsT [] = [] from rfl, List.append_nil]; rfl⟩
  | .line s :: t, acc, a0, x2, x3, hd, hl => by
    have e : lnsT (.line s :: t) = s :: lnsT t := rfl
    have hd2 : dpT t ≤ n := Nat.le_trans (Nat.le_max_right _ _) hd
    rw [e, List.length_cons] at hl
    obtain ⟨y2, y3, ih⟩ := leaf_lines hT hc t (acc ++ [s]) a0 (some (.str s)) x3 hd2 (by rw [List.length_append, List.length_singleton]; omega)
    have c1 := hT (.line s)
    refine ⟨y2, y3, ?_⟩
    rw [e, show acc ++ s :: lnsT t = (acc ++ [s]) ++ lnsT t by rw [List.append_assoc]; rfl, ← ih, encT_cons]
    rw [enc_ln] at c1
    simp (disch := (first | assumption | omega | (simp only [List.length_append, List.length_map, List.length_cons, List.length_nil, List.length_reverse, List.length_take, List.length_drop, List.length_singleton]; omega))) only [evs, strR_s, List.cons_append, List.nil_append, Bool.and_true, Bool.true_and, Bool.and_false, Bool.false_and, Bool.or_true, Bool.true_or, Bool.or_false, Bool.false_or, Bool.not_true, Bool.not_false, Bool.not_not, fl_nil, fl_cons, bnd_ok, aft_nx, aft_ct, aft_bk, aft_rt, aft_exc, wds, atI_0, atI_1, ixt_2, ixt_last, ixl_last, ixl_0, ixl_1, ex_seto, ex_app, ex_pop, ex_par, own_l, app_own, pop_own, par_ok, set_nil, set_cons, frz_nil, frz_cons, frz_own, frz_dat, frz_no, frz_o2, enum_nil, enum_cons, wipe_nil, wipe_cons, ex_forB, exB_cons, addT, addL, enc_line, enc_op, enc_nx, enc_cl, cut_to, cut_from, cut_from1, cut_from2, cut_fromS, cut_init, rev_tt, eq_ss, ne_ss, skw, ite_true_b, ite_false_b, beq_self_eq_true, if_true, if_false, Bool.false_eq_true, List.map_cons, List.map_nil, B.u_l1_lines, enc_ln, c1, List.map_append]
    rfl
  | .letter nm ps :: t, acc, a0, x2, x3, hd, hl => by
    have e : lnsT (.letter nm ps :: t) = lnsP ps ++ lnsT t := rfl
    have hd1 : max (dpP ps + 1) (dpT t) ≤ n := hd
    have hd2 : dpT t ≤ n := Nat.le_trans (Nat.le_max_right _ _) hd1
    have hd3 : dpP ps + 1 ≤ n := Nat.le_trans (Nat.le_max_left _ _) hd1
    rw [e, List.length_append] at hl
    obtain ⟨z3, q⟩ := part_loop (g := g) (F := lnsT) (FP := lnsP) (fun _ _ => rfl) rfl (fun env => B.u_l2_lines g env) ps acc a0 (Leaf.enc (.letter nm ps)) x3 (fun p hp => hc p (Nat.le_trans (Nat.succ_le_succ (dpP_mem hp)) hd3) (by have := lnsP_mem hp; omega)) (by omega)
    obtain ⟨y2, y3, ih⟩ := leaf_lines hT hc t (acc ++ lnsP ps) a0 (some (Leaf.enc (.letter nm ps))) z3 hd2 (by rw [List.length_append]; omega)
    have c1 := hT (.letter nm ps)
    refine ⟨y2, y3, ?_⟩
    rw [e, ← List.append_assoc, ← ih, encT_cons]
    rw [enc_lt] at c1 q ⊢
    simp (disch := (first | assumption | omega | (simp only [List.length_append, List.length_map, List.length_cons, List.length_nil, List.length_reverse, List.length_take, List.length_drop, List.length_singleton]; omega))) only [evs, strR_s, List.cons_append, List.nil_append, Bool.and_true, Bool.true_and, Bool.and_false, Bool.false_and, Bool.or_true, Bool.true_or, Bool.or_false, Bool.false_or, Bool.not_true, Bool.not_false, Bool.not_not, fl_nil, fl_cons, bnd_ok, aft_nx, aft_ct, aft_bk, aft_rt, aft_exc, wds, atI_0, atI_1, ixt_2, ixt_last, ixl_last, ixl_0, ixl_1, ex_seto, ex_app, ex_pop, ex_par, own_l, app_own, pop_own, par_ok, set_nil, set_cons, frz_nil, frz_cons, frz_own, frz_dat, frz_no, frz_o2, enum_nil, enum_cons, wipe_nil, wipe_cons, ex_forB, exB_cons, addT, addL, enc_line, enc_op, enc_nx, enc_cl, cut_to, cut_from, cut_from1, cut_from2, cut_fromS, cut_init, rev_tt, eq_ss, ne_ss, skw, ite_true_b, ite_false_b, beq_self_eq_true, if_true, if_false, Bool.false_eq_true, List.map_cons, List.map_nil, B.u_l1_lines, c1, q]
    rfl
theorem call_lines (H : Has P "lines" 1 4 B.lines) (h : Has P "is_text" 1 1 B.is_text) : ∀ (n m : Nat) (t : List Leaf), dpT t ≤ n → (lnsT t).length ≤ 1000000 → callR (gOf P (m + n + 2)) "lines" [.tuple (encT t)] = .ok (.tuple ((lnsT t).map PyData.str))
  | n, m, t, hd, hl => by
    rw [H.body rfl]
    obtain ⟨y2, y3, q⟩ := leaf_lines (n := n) (fun l => call_is_text (m := m + n) h l) (fun p h2 h3 => by
      match n, h2 with
      | n + 1, h2 => exact call_lines H h n m p (Nat.le_of_succ_le_succ h2) h3) t [] (.tuple (encT t)) none none hd (by simpa using hl)
    simp only [evs, strR_s, List.cons_append, List.nil_append, Bool.and_true, Bool.true_and, Bool.and_false, Bool.false_and, Bool.or_true, Bool.true_or, Bool.or_false, Bool.false_or, Bool.not_true, Bool.not_false, Bool.not_not, fl_nil, fl_cons, bnd_ok, aft_nx, aft_ct, aft_bk, aft_rt, aft_exc, wds, atI_0, atI_1, ixt_2, ixt_last, ixl_last, ixl_0, ixl_1, ex_seto, ex_app, ex_pop, ex_par, own_l, app_own, pop_own, par_ok, set_nil, set_cons, frz_nil, frz_cons, frz_own, frz_dat, frz_no, frz_o2, enum_nil, enum_cons, wipe_nil, wipe_cons, ex_forB, exB_cons, addT, addL, enc_line, enc_op, enc_nx, enc_cl, cut_to, cut_from, cut_from1, cut_from2, cut_fromS, cut_init, rev_tt, eq_ss, ne_ss, skw, ite_true_b, ite_false_b, beq_self_eq_true, if_true, if_false, Bool.false_eq_true, List.map_cons, List.map_nil, B.lines]
    rw [show [some (Sl.dat (.tuple (encT t))), some (Sl.dat (.tuple [])), none, none] = [some (.dat (.tuple (encT t))), some (.dat (.tuple (([] : List Str).map PyData.str))), o2 none, o2 none] from rfl, q]
    simp only [evs, strR_s, List.cons_append, List.nil_append, Bool.and_true, Bool.true_and, Bool.and_false, Bool.false_and, Bool.or_true, Bool.true_or, Bool.or_false, Bool.false_or, Bool.not_true, Bool.not_false, Bool.not_not, fl_nil, fl_cons, bnd_ok, aft_nx, aft_ct, aft_bk, aft_rt, aft_exc, wds, atI_0, atI_1, ixt_2, ixt_last, ixl_last, ixl_0, ixl_1, ex_seto, ex_app, ex_pop, ex_par, own_l, app_own, pop_own, par_ok, set_nil, set_cons, frz_nil, frz_cons, frz_own, frz_dat, frz_no, frz_o2, enum_nil, enum_cons, wipe_nil, wipe_cons, ex_forB, exB_cons, addT, addL, enc_line, enc_op, enc_nx, enc_cl, cut_to, cut_from, cut_from1, cut_from2, cut_fromS, cut_init, rev_tt, eq_ss, ne_ss, skw, ite_true_b, ite_false_b, beq_self_eq_true, if_true, if_false, Bool.false_eq_true, List.map_cons, List.map_nil]
theorem leaf_letters {g : G} {n : Nat} (hT : ∀ l : Leaf, callR g "is_text" [l.enc] = .ok (.bool (match l with | .line _ => true | .letter _ _ => false))) (hc : ∀ p, dpT p + 1 ≤ n → (ltsT p).length ≤ 1000000 → callR g "letters" [.tuple (encT p)] = .ok (.tuple ((ltsT p).map PyData.str))) : ∀ (t : List Leaf) (acc : List Str) (a0 : D) (x2 x3 : Option D), dpT t ≤ n → acc.length + (ltsT t).length ≤ 1000000 →
    ∃ y2 y3, forLoop (.nm 2) (exB g B.l1_letters) (encT t) [some (.dat a0), some (.dat (.tuple (acc.map PyData.str))), o2 x2, o2 x3] = .nx [some (.dat a0), some (.dat (.tuple ((acc ++ ltsT t).map PyData.str))), o2 y2, o2 y3]
  | [], acc, a0, x2, x3, _, _ => ⟨x2, x3, by rw [show ltsT [] = [] from rfl, List.append_nil]; rfl⟩
  | .line s :: t, acc, a0, x2, x3, hd, hl => by
    have e : ltsT (.line s :: t) = ltsT t := rfl
    have hd2 : dpT t ≤ n := Nat.le_trans (Nat.le_max_right _ _) hd
    rw [e] at hl
    obtain ⟨y2, y3, ih⟩ := leaf_letters hT hc t acc a0 (some (.str s)) x3 hd2 hl
    have c1 := hT (.line s)
    refine ⟨y2, y3, ?_⟩
    rw [e, ← ih, encT_cons]
    rw [enc_ln] at c1
    simp (disch := (first | assumption | omega | (simp only [List.length_append, List.length_map, List.length_cons, List.length_nil, List.length_reverse, List.length_take, List.length_drop, List.length_singleton]; omega))) only [evs, strR_s, List.cons_append, List.nil_append, Bool.and_true, Bool.true_and, Bool.and_false, Bool.false_and, Bool.or_true, Bool.true_or, Bool.or_false, Bool.false_or, Bool.not_true, Bool.not_false, Bool.not_not, fl_nil, fl_cons, bnd_ok, aft_nx, aft_ct, aft_bk, aft_rt, aft_exc, wds, atI_0, atI_1, ixt_2, ixt_last, ixl_last, ixl_0, ixl_1, ex_seto, ex_app, ex_pop, ex_par, own_l, app_own, pop_own, par_ok, set_nil, set_cons, frz_nil, frz_cons, frz_own, frz_dat, frz_no, frz_o2, enum_nil, enum_cons, wipe_nil, wipe_cons, ex_forB, exB_cons, addT, addL, enc_line, enc_op, enc_nx, enc_cl, cut_to, cut_from, cut_from1, cut_from2, cut_fromS, cut_init, rev_tt, eq_ss, ne_ss, skw, ite_true_b, ite_false_b, beq_self_eq_true, if_true, if_false, Bool.false_eq_true, List.map_cons, List.map_nil, B.u_l1_letters, enc_ln, c1]
    rfl
  | .letter nm ps :: t, acc, a0, x2, x3, hd, hl => by
    have e : ltsT (.letter nm ps :: t) = nm :: (ltsP ps ++ ltsT t) := rfl
    have hd1 : max (dpP ps + 1) (dpT t) ≤ n := hd
    have hd2 : dpT t ≤ n := Nat.le_trans (Nat.le_max_right _ _) hd1
    have hd3 : dpP ps + 1 ≤ n := Nat.le_trans (Nat.le_max_left _ _) hd1
    rw [e, List.length_cons, List.length_append] at hl
    obtain ⟨z3, q⟩ := part_loop (g := g) (F := ltsT) (FP := ltsP) (fun _ _ => rfl) rfl (fun env => B.u_l2_letters g env) ps (acc ++ [nm]) a0 (Leaf.enc (.letter nm ps)) x3 (fun p hp => hc p (Nat.le_trans (Nat.succ_le_succ (dpP_mem hp)) hd3) (by have := ltsP_mem hp; omega)) (by rw [List.length_append, List.length_singleton]; omega)
    obtain ⟨y2, y3, ih⟩ := leaf_letters hT hc t (acc ++ [nm] ++ ltsP ps) a0 (some (Leaf.enc (.letter nm ps))) z3 hd2 (by rw [List.length_append, List.length_append, List.length_singleton]; omega)
    have c1 := hT (.letter nm ps)
    refine ⟨y2, y3, ?_⟩
    rw [e, show acc ++ nm :: (ltsP ps ++ ltsT t) = acc ++ [nm] ++ ltsP ps ++ ltsT t by simp only [List.append_assoc, List.cons_append, List.nil_append], ← ih, encT_cons]
    rw [enc_lt] at c1 q ⊢
    rw [List.map_append] at q
    simp (disch := (first | assumption | omega | (simp only [List.length_append, List.length_map, List.length_cons, List.length_nil, List.length_reverse, List.length_take, List.length_drop, List.length_singleton]; omega))) only [evs, strR_s, List.cons_append, List.nil_append, Bool.and_true, Bool.true_and, Bool.and_false, Bool.false_and, Bool.or_true, Bool.true_or, Bool.or_false, Bool.false_or, Bool.not_true, Bool.not_false, Bool.not_not, fl_nil, fl_cons, bnd_ok, aft_nx, aft_ct, aft_bk, aft_rt, aft_exc, wds, atI_0, atI_1, ixt_2, ixt_last, ixl_last, ixl_0, ixl_1, ex_seto, ex_app, ex_pop, ex_par, own_l, app_own, pop_own, par_ok, set_nil, set_cons, frz_nil, frz_cons, frz_own, frz_dat, frz_no, frz_o2, enum_nil, enum_cons, wipe_nil, wipe_cons, ex_forB, exB_cons, addT, addL, enc_line, enc_op, enc_nx, enc_cl, cut_to, cut_from, cut_from1, cut_from2, cut_fromS, cut_init, rev_tt, eq_ss, ne_ss, skw, ite_true_b, ite_false_b, beq_self_eq_true, if_true, if_false, Bool.false_eq_true, List.map_cons, List.map_nil, B.u_l1_letters, c1]
    simp (disch := (first | assumption | omega | (simp only [List.length_append, List.length_map, List.length_cons, List.length_nil, List.length_reverse, List.length_take, List.length_drop, List.length_singleton]; omega))) only [evs, strR_s, List.cons_append, List.nil_append, Bool.and_true, Bool.true_and, Bool.and_false, Bool.false_and, Bool.or_true, Bool.true_or, Bool.or_false, Bool.false_or, Bool.not_true, Bool.not_false, Bool.not_not, fl_nil, fl_cons, bnd_ok, aft_nx, aft_ct, aft_bk, aft_rt, aft_exc, wds, atI_0, atI_1, ixt_2, ixt_last, ixl_last, ixl_0, ixl_1, ex_seto, ex_app, ex_pop, ex_par, own_l, app_own, pop_own, par_ok, set_nil, set_cons, frz_nil, frz_cons, frz_own, frz_dat, frz_no, frz_o2, enum_nil, enum_cons, wipe_nil, wipe_cons, ex_forB, exB_cons, addT, addL, enc_line, enc_op, enc_nx, enc_cl, cut_to, cut_from, cut_from1, cut_from2, cut_fromS, cut_init, rev_tt, eq_ss, ne_ss, skw, ite_true_b, ite_false_b, beq_self_eq_true, if_true, if_false, Bool.false_eq_true, List.map_cons, List.map_nil] at q
    rw [q]
    rfl
theorem call_letters (H : Has P "letters" 1 4 B.letters) (h : Has P "is_text" 1 1 B.is_text) : ∀ (n m : Nat) (t : List Leaf), dpT t ≤ n → (ltsT t).length ≤ 1000000 → callR (gOf P (m + n + 2)) "letters" [.tuple (encT t)] = .ok (.tuple ((ltsT t).map PyData.str))
  | n, m, t, hd, hl => by
    rw [H.body rfl]
    obtain ⟨y2, y3, q⟩ := leaf_letters (n := n) (fun l => call_is_text (m := m + n) h l) (fun p h2 h3 => by
      match n, h2 with
      | n + 1, h2 => exact call_letters H h n m p (Nat.le_of_succ_le_succ h2) h3) t [] (.tuple (encT t)) none none hd (by simpa using hl)
    simp only [evs, strR_s, List.cons_append, List.nil_append, Bool.and_true, Bool.true_and, Bool.and_false, Bool.false_and, Bool.or_true, Bool.true_or, Bool.or_false, Bool.false_or, Bool.not_true, Bool.not_false, Bool.not_not, fl_nil, fl_cons, bnd_ok, aft_nx, aft_ct, aft_bk, aft_rt, aft_exc, wds, atI_0, atI_1, ixt_2, ixt_last, ixl_last, ixl_0, ixl_1, ex_seto, ex_app, ex_pop, ex_par, own_l, app_own, pop_own, par_ok, set_nil, set_cons, frz_nil, frz_cons, frz_own, frz_dat, frz_no, frz_o2, enum_nil, enum_cons, wipe_nil, wipe_cons, ex_forB, exB_cons, addT, addL, enc_line, enc_op, enc_nx, enc_cl, cut_to, cut_from, cut_from1, cut_from2, cut_fromS, cut_init, rev_tt, eq_ss, ne_ss, skw, ite_true_b, ite_false_b, beq_self_eq_true, if_true, if_false, Bool.false_eq_true, List.map_cons, List.map_nil, B.letters]
    rw [show [some (Sl.dat (.tuple (encT t))), some (Sl.dat (.tuple [])), none, none] = [some (.dat (.tuple (encT t))), some (.dat (.tuple (([] : List Str).map PyData.str))), o2 none, o2 none] from rfl, q]
    simp only [evs, strR_s, List.cons_append, List.nil_append, Bool.and_true, Bool.true_and, Bool.and_false, Bool.false_and, Bool.or_true, Bool.true_or, Bool.or_false, Bool.false_or, Bool.not_true, Bool.not_false, Bool.not_not, fl_nil, fl_cons, bnd_ok, aft_nx, aft_ct, aft_bk, aft_rt, aft_exc, wds, atI_0, atI_1, ixt_2, ixt_last, ixl_last, ixl_0, ixl_1, ex_seto, ex_app, ex_pop, ex_par, own_l, app_own, pop_own, par_ok, set_nil, set_cons, frz_nil, frz_cons, frz_own, frz_dat, frz_no, frz_o2, enum_nil, enum_cons, wipe_nil, wipe_cons, ex_forB, exB_cons, addT, addL, enc_line, enc_op, enc_nx, enc_cl, cut_to, cut_from, cut_from1, cut_from2, cut_fromS, cut_init, rev_tt, eq_ss, ne_ss, skw, ite_true_b, ite_false_b, beq_self_eq_true, if_true, if_false, Bool.false_eq_true, List.map_cons, List.map_nil]
/-! ### deep -/
theorem ints_map {α : Type} (f : α → Nat) (xs : List α) : intsOf (xs.map fun x => PyData.int (f x)) = some (xs.map fun x => (f x : Int)) := by
  induction xs with
  | nil => rfl
  | cons x xs ih =>
    show (intsOf (xs.map fun x => PyData.int (f x))).map ((f x : Int) :: ·) = _
    rw [ih]
    rfl
theorem maxL_nat {α : Type} (f : α → Nat) : ∀ (xs : List α) (a : Nat), maxL (a : Int) (xs.map fun x => (f x : Int)) = ((xs.foldl (fun a x => max a (f x)) a : Nat) : Int)
  | [], a => rfl
  | x :: xs, a => by
    rw [List.map_cons, List.foldl_cons, ← maxL_nat f xs, maxL]
    congr 1
    split <;> omega
theorem max_nat {α : Type} (f : α → Nat) (x : α) (xs : List α) : bltD .max1 [.list ((x :: xs).map fun x => PyData.int (f x))] = .ok (.int ((xs.foldl (fun a x => max a (f x)) (f x) : Nat) : Int)) := by
  show (match intsOf ((x :: xs).map fun x => PyData.int (f x)) with | some (m :: ns) => R.ok (PyData.int (maxL m ns)) | _ => .bad) = _
  rw [ints_map, List.map_cons]
  dsimp only
  rw [maxL_nat]
theorem foldl_max {α : Type} (f : α → Nat) : ∀ (xs : List α) (a : Nat), xs.foldl (fun a x => max a (f x)) a = max a (xs.foldl (fun a x => max a (f x)) 0)
  | [], a => (Nat.max_eq_left (Nat.zero_le _)).symm
  | x :: xs, a => by
    rw [List.foldl_cons, List.foldl_cons, foldl_max f xs (max a (f x)), foldl_max f xs (max 0 (f x))]
    omega
theorem dpP_fold : ∀ ps : List (List Leaf), ps.foldl (fun a p => max a (dpT p)) 0 = dpP ps
  | [] => rfl
  | p :: ps => by
    rw [List.foldl_cons, foldl_max, dpP_fold ps]
    show max (max 0 (dpT p)) (dpP ps) = max (dpT p) (dpP ps)
    omega
def isLt : Leaf → Bool
  | .line _ => false
  | .letter _ _ => true
theorem dpT_fold : ∀ t : List Leaf, (t.filter isLt).foldl (fun a l => max a l.dp) 0 = dpT t
  | [] => rfl
  | .line s :: t => by
    show (t.filter isLt).foldl (fun a l => max a l.dp) 0 = max 0 (dpT t)
    rw [dpT_fold t]
    omega
  | .letter n ps :: t => by
    show ((Leaf.letter n ps) :: t.filter isLt).foldl (fun a l => max a l.dp) 0 = max (Leaf.letter n ps).dp (dpT t)
    rw [List.foldl_cons, foldl_max, dpT_fold t]
    omega
theorem call_deep (H : Has P "deep" 1 3 B.deep) (h : Has P "is_text" 1 1 B.is_text) : ∀ (n m : Nat) (t : List Leaf), dpT t ≤ n → okT t = true → (rowsT t).length ≤ 1000000 → t.length ≤ 1000000 → callR (gOf P (m + n + 2)) "deep" [.tuple (encT t)] = .ok (.int (dpT t))
  | n, m, t, hd, hok, hr, hl => by
    rw [H.body rfl]
    have inner : ∀ l ∈ t, isLt l = true → ∀ (a0 : D) (x1 : Option Sl), ev (gOf P (m + n + 1)) false (.bin .Add (.cst (.int 1)) (.blt .max1 [B.c1_deep])) [some (.dat a0), none, some (.dat l.enc)] = .ok (.int (l.dp : Int)) := by
      intro l hl hk a0 x1
      cases l with
      | line s => cases hk
      | letter nm ps =>
        have hdl : dpP ps + 1 ≤ n := Nat.le_trans (dpT_mem hl) hd
        have hokl : (sk nm && (okP ps && !ps.isEmpty)) = true := okT_mem.mp hok _ hl
        simp only [Bool.and_eq_true, Bool.not_eq_true'] at hokl
        have rl : (rowsP nm false ps).length ≤ 1000000 := by
          have : ∀ t : List Leaf, Leaf.letter nm ps ∈ t → (rowsP nm false ps).length ≤ (rowsT t).length := by
            intro t
            induction t with
            | nil => exact fun h => nomatch h
            | cons q t ih =>
              intro h
              show _ ≤ (q.rows ++ rowsT t).length
              rw [List.length_append]
              rcases List.mem_cons.mp h with rfl | h
              · show _ ≤ (rowsP nm false ps ++ [Row.cl nm]).length + _
                rw [List.length_append]; omega
              · have := ih h; omega
          exact Nat.le_trans (this t hl) hr
        have pl : ∀ (b : Bool) (ps : List (List Leaf)), ps.length ≤ (rowsP nm b ps).length ∧ ∀ p ∈ ps, (rowsT p).length ≤ (rowsP nm b ps).length := by
          intro b ps
          induction ps generalizing b with
          | nil => exact ⟨Nat.le_refl _, fun _ h => nomatch h⟩
          | cons q ps ih =>
            obtain ⟨i1, i2⟩ := ih true
            have e : (rowsP nm b (q :: ps)).length = (rowsT q).length + (rowsP nm true ps).length + 1 := by
              show (rowsT q ++ rowsP nm true ps).length + 1 = _
              rw [List.length_append]
            refine ⟨by rw [e, List.length_cons]; omega, fun p hp => ?_⟩
            rw [e]
            rcases List.mem_cons.mp hp with rfl | hp
            · omega
            · have := i2 p hp; omega
        obtain ⟨pl1, pl2⟩ := pl false ps
        have tl : ∀ p ∈ ps, p.length ≤ 1000000 := by
          intro p hp
          have : ∀ t : List Leaf, t.length ≤ (rowsT t).length := by
            intro t
            induction t with
            | nil => exact Nat.le_refl _
            | cons q t ih =>
              show t.length + 1 ≤ (q.rows ++ rowsT t).length
              rw [List.length_append]
              have : 1 ≤ q.rows.length := by
                cases q with
                | line s => exact Nat.le_refl 1
                | letter a b =>
                  show 1 ≤ (rowsP a false b ++ [Row.cl a]).length
                  rw [List.length_append, List.length_singleton]; omega
              omega
          have h1 := this p
          have h2 := pl2 p hp
          omega
        have e1 : ev (gOf P (m + n + 1)) false B.c1_deep [some (.dat a0), none, some (.dat (Leaf.enc (.letter nm ps)))] = .ok (.list (ps.map fun p => PyData.int (dpT p : Nat))) := by
          refine ev_lcM (ec := fun p => .tuple (encT p)) (b := fun p => [some (.dat a0), some (.dat (.tuple (encT p))), some (.dat (Leaf.enc (.letter nm ps)))]) (by simp only [evs, strR_s, List.cons_append, List.nil_append, Bool.and_true, Bool.true_and, Bool.and_false, Bool.false_and, Bool.or_true, Bool.true_or, Bool.or_false, Bool.false_or, Bool.not_true, Bool.not_false, Bool.not_not, fl_nil, fl_cons, bnd_ok, aft_nx, aft_ct, aft_bk, aft_rt, aft_exc, wds, atI_0, atI_1, ixt_2, ixt_last, ixl_last, ixl_0, ixl_1, ex_seto, ex_app, ex_pop, ex_par, own_l, app_own, pop_own, par_ok, set_nil, set_cons, frz_nil, frz_cons, frz_own, frz_dat, frz_no, frz_o2, enum_nil, enum_cons, wipe_nil, wipe_cons, ex_forB, exB_cons, addT, addL, enc_line, enc_op, enc_nx, enc_cl, cut_to, cut_from, cut_from1, cut_from2, cut_fromS, cut_init, rev_tt, eq_ss, ne_ss, skw, ite_true_b, ite_false_b, beq_self_eq_true, if_true, if_false, Bool.false_eq_true, List.map_cons, List.map_nil, enc_lt, encPs_map]) (fun p hp => by simp only [evs, strR_s, List.cons_append, List.nil_append, Bool.and_true, Bool.true_and, Bool.and_false, Bool.false_and, Bool.or_true, Bool.true_or, Bool.or_false, Bool.false_or, Bool.not_true, Bool.not_false, Bool.not_not, fl_nil, fl_cons, bnd_ok, aft_nx, aft_ct, aft_bk, aft_rt, aft_exc, wds, atI_0, atI_1, ixt_2, ixt_last, ixl_last, ixl_0, ixl_1, ex_seto, ex_app, ex_pop, ex_par, own_l, app_own, pop_own, par_ok, set_nil, set_cons, frz_nil, frz_cons, frz_own, frz_dat, frz_no, frz_o2, enum_nil, enum_cons, wipe_nil, wipe_cons, ex_forB, exB_cons, addT, addL, enc_line, enc_op, enc_nx, enc_cl, cut_to, cut_from, cut_from1, cut_from2, cut_fromS, cut_init, rev_tt, eq_ss, ne_ss, skw, ite_true_b, ite_false_b, beq_self_eq_true, if_true, if_false, Bool.false_eq_true, List.map_cons, List.map_nil]) (fun p hp => ?_) (by simp only [lim]; omega)
          have c2 : callR (gOf P (m + n + 1)) "deep" [.tuple (encT p)] = .ok (.int (dpT p)) := by
            have hdp : dpT p + 1 ≤ n := Nat.le_trans (Nat.succ_le_succ (dpP_mem hp)) hdl
            match n, hdp with
            | n + 1, hdp => exact call_deep H h n m p (Nat.le_of_succ_le_succ hdp) (okP_mem.mp hokl.2.1 p hp) (by have := pl2 p hp; omega) (tl p hp)
          simp only [evs, strR_s, List.cons_append, List.nil_append, Bool.and_true, Bool.true_and, Bool.and_false, Bool.false_and, Bool.or_true, Bool.true_or, Bool.or_false, Bool.false_or, Bool.not_true, Bool.not_false, Bool.not_not, fl_nil, fl_cons, bnd_ok, aft_nx, aft_ct, aft_bk, aft_rt, aft_exc, wds, atI_0, atI_1, ixt_2, ixt_last, ixl_last, ixl_0, ixl_1, ex_seto, ex_app, ex_pop, ex_par, own_l, app_own, pop_own, par_ok, set_nil, set_cons, frz_nil, frz_cons, frz_own, frz_dat, frz_no, frz_o2, enum_nil, enum_cons, wipe_nil, wipe_cons, ex_forB, exB_cons, addT, addL, enc_line, enc_op, enc_nx, enc_cl, cut_to, cut_from, cut_from1, cut_from2, cut_fromS, cut_init, rev_tt, eq_ss, ne_ss, skw, ite_true_b, ite_false_b, beq_self_eq_true, if_true, if_false, Bool.false_eq_true, List.map_cons, List.map_nil, c2]
        cases ps with
        | nil => cases hokl.2.2
        | cons p ps =>
          simp only [evs, strR_s, List.cons_append, List.nil_append, Bool.and_true, Bool.true_and, Bool.and_false, Bool.false_and, Bool.or_true, Bool.true_or, Bool.or_false, Bool.false_or, Bool.not_true, Bool.not_false, Bool.not_not, fl_nil, fl_cons, bnd_ok, aft_nx, aft_ct, aft_bk, aft_rt, aft_exc, wds, atI_0, atI_1, ixt_2, ixt_last, ixl_last, ixl_0, ixl_1, ex_seto, ex_app, ex_pop, ex_par, own_l, app_own, pop_own, par_ok, set_nil, set_cons, frz_nil, frz_cons, frz_own, frz_dat, frz_no, frz_o2, enum_nil, enum_cons, wipe_nil, wipe_cons, ex_forB, exB_cons, addT, addL, enc_line, enc_op, enc_nx, enc_cl, cut_to, cut_from, cut_from1, cut_from2, cut_fromS, cut_init, rev_tt, eq_ss, ne_ss, skw, ite_true_b, ite_false_b, beq_self_eq_true, if_true, if_false, Bool.false_eq_true, List.map_cons, List.map_nil, e1]
          rw [← List.map_cons (f := fun p => PyData.int (dpT p : Nat)), max_nat dpT p ps]
          simp only [evs, strR_s, List.cons_append, List.nil_append, Bool.and_true, Bool.true_and, Bool.and_false, Bool.false_and, Bool.or_true, Bool.true_or, Bool.or_false, Bool.false_or, Bool.not_true, Bool.not_false, Bool.not_not, fl_nil, fl_cons, bnd_ok, aft_nx, aft_ct, aft_bk, aft_rt, aft_exc, wds, atI_0, atI_1, ixt_2, ixt_last, ixl_last, ixl_0, ixl_1, ex_seto, ex_app, ex_pop, ex_par, own_l, app_own, pop_own, par_ok, set_nil, set_cons, frz_nil, frz_cons, frz_own, frz_dat, frz_no, frz_o2, enum_nil, enum_cons, wipe_nil, wipe_cons, ex_forB, exB_cons, addT, addL, enc_line, enc_op, enc_nx, enc_cl, cut_to, cut_from, cut_from1, cut_from2, cut_fromS, cut_init, rev_tt, eq_ss, ne_ss, skw, ite_true_b, ite_false_b, beq_self_eq_true, if_true, if_false, Bool.false_eq_true, List.map_cons, List.map_nil]
          have : (ps.foldl (fun a x => max a (dpT x)) (dpT p)) = dpP (p :: ps) := by
            rw [← dpP_fold (p :: ps), List.foldl_cons, Nat.zero_max]
          rw [this]
          show R.ok (PyData.int (1 + (dpP (p :: ps) : Int))) = .ok (.int ((dpP (p :: ps) + 1 : Nat) : Int))
          congr 2
          omega
    have e2 : ev (gOf P (m + n + 1)) false B.c2_deep [some (.dat (.tuple (encT t))), none, none] = .ok (.list ((t.filter isLt).map fun l => PyData.int (l.dp : Nat))) := by
      refine ev_lcT (ec := Leaf.enc) (b := fun l => [some (.dat (.tuple (encT t))), none, some (.dat l.enc)]) (by simp only [evs, strR_s, List.cons_append, List.nil_append, Bool.and_true, Bool.true_and, Bool.and_false, Bool.false_and, Bool.or_true, Bool.true_or, Bool.or_false, Bool.false_or, Bool.not_true, Bool.not_false, Bool.not_not, fl_nil, fl_cons, bnd_ok, aft_nx, aft_ct, aft_bk, aft_rt, aft_exc, wds, atI_0, atI_1, ixt_2, ixt_last, ixl_last, ixl_0, ixl_1, ex_seto, ex_app, ex_pop, ex_par, own_l, app_own, pop_own, par_ok, set_nil, set_cons, frz_nil, frz_cons, frz_own, frz_dat, frz_no, frz_o2, enum_nil, enum_cons, wipe_nil, wipe_cons, ex_forB, exB_cons, addT, addL, enc_line, enc_op, enc_nx, enc_cl, cut_to, cut_from, cut_from1, cut_from2, cut_fromS, cut_init, rev_tt, eq_ss, ne_ss, skw, ite_true_b, ite_false_b, beq_self_eq_true, if_true, if_false, Bool.false_eq_true, List.map_cons, List.map_nil, encT_map]) (fun l hl => by simp only [evs, strR_s, List.cons_append, List.nil_append, Bool.and_true, Bool.true_and, Bool.and_false, Bool.false_and, Bool.or_true, Bool.true_or, Bool.or_false, Bool.false_or, Bool.not_true, Bool.not_false, Bool.not_not, fl_nil, fl_cons, bnd_ok, aft_nx, aft_ct, aft_bk, aft_rt, aft_exc, wds, atI_0, atI_1, ixt_2, ixt_last, ixl_last, ixl_0, ixl_1, ex_seto, ex_app, ex_pop, ex_par, own_l, app_own, pop_own, par_ok, set_nil, set_cons, frz_nil, frz_cons, frz_own, frz_dat, frz_no, frz_o2, enum_nil, enum_cons, wipe_nil, wipe_cons, ex_forB, exB_cons, addT, addL, enc_line, enc_op, enc_nx, enc_cl, cut_to, cut_from, cut_from1, cut_from2, cut_fromS, cut_init, rev_tt, eq_ss, ne_ss, skw, ite_true_b, ite_false_b, beq_self_eq_true, if_true, if_false, Bool.false_eq_true, List.map_cons, List.map_nil]) (fun l hl => ?_) (fun l hl hk => inner l hl hk _ none) (by simp only [lim]; omega)
      have c1 := call_is_text (m := m + n) h l
      simp only [evs, strR_s, List.cons_append, List.nil_append, Bool.and_true, Bool.true_and, Bool.and_false, Bool.false_and, Bool.or_true, Bool.true_or, Bool.or_false, Bool.false_or, Bool.not_true, Bool.not_false, Bool.not_not, fl_nil, fl_cons, bnd_ok, aft_nx, aft_ct, aft_bk, aft_rt, aft_exc, wds, atI_0, atI_1, ixt_2, ixt_last, ixl_last, ixl_0, ixl_1, ex_seto, ex_app, ex_pop, ex_par, own_l, app_own, pop_own, par_ok, set_nil, set_cons, frz_nil, frz_cons, frz_own, frz_dat, frz_no, frz_o2, enum_nil, enum_cons, wipe_nil, wipe_cons, ex_forB, exB_cons, addT, addL, enc_line, enc_op, enc_nx, enc_cl, cut_to, cut_from, cut_from1, cut_from2, cut_fromS, cut_init, rev_tt, eq_ss, ne_ss, skw, ite_true_b, ite_false_b, beq_self_eq_true, if_true, if_false, Bool.false_eq_true, List.map_cons, List.map_nil, c1]
      cases l <;> rfl
    have hfl : (t.filter isLt).length ≤ 1000000 := Nat.le_trans (List.length_filter_le _ _) hl
    have e3 : bltD .max1 [.list ([.int 0] ++ (t.filter isLt).map fun l => PyData.int (l.dp : Nat))] = .ok (.int (dpT t : Nat)) := by
      have := max_nat (fun o : Option Leaf => match o with | none => 0 | some l => l.dp) none ((t.filter isLt).map some)
      rw [List.map_cons, List.map_map] at this
      refine this.trans ?_
      rw [List.foldl_map]
      have : (t.filter isLt).foldl (fun a l => max a l.dp) 0 = dpT t := dpT_fold t
      exact congrArg (fun n : Nat => R.ok (PyData.int (n : Int))) this
    simp (disch := (first | assumption | omega | (simp only [List.length_append, List.length_map, List.length_cons, List.length_nil, List.length_reverse, List.length_take, List.length_drop, List.length_singleton]; omega))) only [evs, strR_s, List.cons_append, List.nil_append, Bool.and_true, Bool.true_and, Bool.and_false, Bool.false_and, Bool.or_true, Bool.true_or, Bool.or_false, Bool.false_or, Bool.not_true, Bool.not_false, Bool.not_not, fl_nil, fl_cons, bnd_ok, aft_nx, aft_ct, aft_bk, aft_rt, aft_exc, wds, atI_0, atI_1, ixt_2, ixt_last, ixl_last, ixl_0, ixl_1, ex_seto, ex_app, ex_pop, ex_par, own_l, app_own, pop_own, par_ok, set_nil, set_cons, frz_nil, frz_cons, frz_own, frz_dat, frz_no, frz_o2, enum_nil, enum_cons, wipe_nil, wipe_cons, ex_forB, exB_cons, addT, addL, enc_line, enc_op, enc_nx, enc_cl, cut_to, cut_from, cut_from1, cut_from2, cut_fromS, cut_init, rev_tt, eq_ss, ne_ss, skw, ite_true_b, ite_false_b, beq_self_eq_true, if_true, if_false, Bool.false_eq_true, List.map_cons, List.map_nil, B.deep, e2]
    simp only [evs, strR_s, List.cons_append, List.nil_append, Bool.and_true, Bool.true_and, Bool.and_false, Bool.false_and, Bool.or_true, Bool.true_or, Bool.or_false, Bool.false_or, Bool.not_true, Bool.not_false, Bool.not_not, fl_nil, fl_cons, bnd_ok, aft_nx, aft_ct, aft_bk, aft_rt, aft_exc, wds, atI_0, atI_1, ixt_2, ixt_last, ixl_last, ixl_0, ixl_1, ex_seto, ex_app, ex_pop, ex_par, own_l, app_own, pop_own, par_ok, set_nil, set_cons, frz_nil, frz_cons, frz_own, frz_dat, frz_no, frz_o2, enum_nil, enum_cons, wipe_nil, wipe_cons, ex_forB, exB_cons, addT, addL, enc_line, enc_op, enc_nx, enc_cl, cut_to, cut_from, cut_from1, cut_from2, cut_fromS, cut_init, rev_tt, eq_ss, ne_ss, skw, ite_true_b, ite_false_b, beq_self_eq_true, if_true, if_false, Bool.false_eq_true, List.map_cons, List.map_nil] at e3
    rw [e3]
    simp only [evs, strR_s, List.cons_append, List.nil_append, Bool.and_true, Bool.true_and, Bool.and_false, Bool.false_and, Bool.or_true, Bool.true_or, Bool.or_false, Bool.false_or, Bool.not_true, Bool.not_false, Bool.not_not, fl_nil, fl_cons, bnd_ok, aft_nx, aft_ct, aft_bk, aft_rt, aft_exc, wds, atI_0, atI_1, ixt_2, ixt_last, ixl_last, ixl_0, ixl_1, ex_seto, ex_app, ex_pop, ex_par, own_l, app_own, pop_own, par_ok, set_nil, set_cons, frz_nil, frz_cons, frz_own, frz_dat, frz_no, frz_o2, enum_nil, enum_cons, wipe_nil, wipe_cons, ex_forB, exB_cons, addT, addL, enc_line, enc_op, enc_nx, enc_cl, cut_to, cut_from, cut_from1, cut_from2, cut_fromS, cut_init, rev_tt, eq_ss, ne_ss, skw, ite_true_b, ite_false_b, beq_self_eq_true, if_true, if_false, Bool.false_eq_true, List.map_cons, List.map_nil]
/-! ### the little ones -/
theorem call_joined (H : Has P "joined" 2 2 B.joined) (t u : List Leaf) (hl : t.length + u.length ≤ 1000000) : callR (gOf P (m + 1)) "joined" [.tuple (encT t), .tuple (encT u)] = .ok (.tuple (encT (t ++ u))) := by
  rw [H.body rfl, encT_app]
  have h1 := encT_len t
  have h2 := encT_len u
  simp (disch := (first | assumption | omega | (simp only [List.length_append, List.length_map, List.length_cons, List.length_nil, List.length_reverse, List.length_take, List.length_drop, List.length_singleton]; omega))) only [evs, strR_s, List.cons_append, List.nil_append, Bool.and_true, Bool.true_and, Bool.and_false, Bool.false_and, Bool.or_true, Bool.true_or, Bool.or_false, Bool.false_or, Bool.not_true, Bool.not_false, Bool.not_not, fl_nil, fl_cons, bnd_ok, aft_nx, aft_ct, aft_bk, aft_rt, aft_exc, wds, atI_0, atI_1, ixt_2, ixt_last, ixl_last, ixl_0, ixl_1, ex_seto, ex_app, ex_pop, ex_par, own_l, app_own, pop_own, par_ok, set_nil, set_cons, frz_nil, frz_cons, frz_own, frz_dat, frz_no, frz_o2, enum_nil, enum_cons, wipe_nil, wipe_cons, ex_forB, exB_cons, addT, addL, enc_line, enc_op, enc_nx, enc_cl, cut_to, cut_from, cut_from1, cut_from2, cut_fromS, cut_init, rev_tt, eq_ss, ne_ss, skw, ite_true_b, ite_false_b, beq_self_eq_true, if_true, if_false, Bool.false_eq_true, List.map_cons, List.map_nil, B.joined]
theorem call_wrapped (H : Has P "wrapped" 2 2 B.wrapped) (t : List Leaf) (n : Str) : callR (gOf P (m + 1)) "wrapped" [.tuple (encT t), .str n] = .ok (.tuple (encT [.letter n [t]])) := by
  rw [H.body rfl]
  simp (disch := (first | assumption | omega | (simp only [List.length_append, List.length_map, List.length_cons, List.length_nil, List.length_reverse, List.length_take, List.length_drop, List.length_singleton]; omega))) only [evs, strR_s, List.cons_append, List.nil_append, Bool.and_true, Bool.true_and, Bool.and_false, Bool.false_and, Bool.or_true, Bool.true_or, Bool.or_false, Bool.false_or, Bool.not_true, Bool.not_false, Bool.not_not, fl_nil, fl_cons, bnd_ok, aft_nx, aft_ct, aft_bk, aft_rt, aft_exc, wds, atI_0, atI_1, ixt_2, ixt_last, ixl_last, ixl_0, ixl_1, ex_seto, ex_app, ex_pop, ex_par, own_l, app_own, pop_own, par_ok, set_nil, set_cons, frz_nil, frz_cons, frz_own, frz_dat, frz_no, frz_o2, enum_nil, enum_cons, wipe_nil, wipe_cons, ex_forB, exB_cons, addT, addL, enc_line, enc_op, enc_nx, enc_cl, cut_to, cut_from, cut_from1, cut_from2, cut_fromS, cut_init, rev_tt, eq_ss, ne_ss, skw, ite_true_b, ite_false_b, beq_self_eq_true, if_true, if_false, Bool.false_eq_true, List.map_cons, List.map_nil, B.wrapped]
  rfl
theorem call_flat (H : Has P "flat" 1 1 B.flat) {n k : Nat} {t : List Leaf} (hc : callR (gOf P n) "lines" [.tuple (encT t)] = .ok (.tuple ((lnsT t).map PyData.str))) : callR (gOf P (n + 1)) "flat" [.tuple (encT t)] = .ok (.tuple ((lnsT t).map PyData.str)) := by
  rw [H.body rfl]
  simp (disch := (first | assumption | omega | (simp only [List.length_append, List.length_map, List.length_cons, List.length_nil, List.length_reverse, List.length_take, List.length_drop, List.length_singleton]; omega))) only [evs, strR_s, List.cons_append, List.nil_append, Bool.and_true, Bool.true_and, Bool.and_false, Bool.false_and, Bool.or_true, Bool.true_or, Bool.or_false, Bool.false_or, Bool.not_true, Bool.not_false, Bool.not_not, fl_nil, fl_cons, bnd_ok, aft_nx, aft_ct, aft_bk, aft_rt, aft_exc, wds, atI_0, atI_1, ixt_2, ixt_last, ixl_last, ixl_0, ixl_1, ex_seto, ex_app, ex_pop, ex_par, own_l, app_own, pop_own, par_ok, set_nil, set_cons, frz_nil, frz_cons, frz_own, frz_dat, frz_no, frz_o2, enum_nil, enum_cons, wipe_nil, wipe_cons, ex_forB, exB_cons, addT, addL, enc_line, enc_op, enc_nx, enc_cl, cut_to, cut_from, cut_from1, cut_from2, cut_fromS, cut_init, rev_tt, eq_ss, ne_ss, skw, ite_true_b, ite_false_b, beq_self_eq_true, if_true, if_false, Bool.false_eq_true, List.map_cons, List.map_nil, B.flat, hc]
theorem call_split (H : Has P "split" 2 2 B.split) (t : List Leaf) (k : Int) : callR (gOf P (m + 1)) "split" [.tuple (encT t), .int k] = if 0 ≤ k ∧ k ≤ t.length then .ok (.tuple [.tuple (encT (t.take k.toNat)), .tuple (encT (t.drop k.toNat))]) else .exc "NoPart" := by
  rw [H.body rfl]
  have hl := encT_len t
  have hc : (decide (0 ≤ k) && decide (k ≤ ((encT t).length : Int))) = decide (0 ≤ k ∧ k ≤ (t.length : Int)) := by
    rw [hl, Bool.eq_iff_iff, Bool.and_eq_true, decide_eq_true_eq, decide_eq_true_eq, decide_eq_true_eq]
  simp (disch := (first | assumption | omega | (simp only [List.length_append, List.length_map, List.length_cons, List.length_nil, List.length_reverse, List.length_take, List.length_drop, List.length_singleton]; omega))) only [evs, strR_s, List.cons_append, List.nil_append, Bool.and_true, Bool.true_and, Bool.and_false, Bool.false_and, Bool.or_true, Bool.true_or, Bool.or_false, Bool.false_or, Bool.not_true, Bool.not_false, Bool.not_not, fl_nil, fl_cons, bnd_ok, aft_nx, aft_ct, aft_bk, aft_rt, aft_exc, wds, atI_0, atI_1, ixt_2, ixt_last, ixl_last, ixl_0, ixl_1, ex_seto, ex_app, ex_pop, ex_par, own_l, app_own, pop_own, par_ok, set_nil, set_cons, frz_nil, frz_cons, frz_own, frz_dat, frz_no, frz_o2, enum_nil, enum_cons, wipe_nil, wipe_cons, ex_forB, exB_cons, addT, addL, enc_line, enc_op, enc_nx, enc_cl, cut_to, cut_from, cut_from1, cut_from2, cut_fromS, cut_init, rev_tt, eq_ss, ne_ss, skw, ite_true_b, ite_false_b, beq_self_eq_true, if_true, if_false, Bool.false_eq_true, List.map_cons, List.map_nil, B.split, hc, if_b]
  by_cases h : 0 ≤ k ∧ k ≤ (t.length : Int)
  · have hk : k = (k.toNat : Int) := (Int.toNat_of_nonneg h.1).symm
    rw [decide_eq_true h, if_pos h]
    rw [hk]
    simp (disch := (first | assumption | omega | (simp only [List.length_append, List.length_map, List.length_cons, List.length_nil, List.length_reverse, List.length_take, List.length_drop, List.length_singleton]; omega))) only [evs, strR_s, List.cons_append, List.nil_append, Bool.and_true, Bool.true_and, Bool.and_false, Bool.false_and, Bool.or_true, Bool.true_or, Bool.or_false, Bool.false_or, Bool.not_true, Bool.not_false, Bool.not_not, fl_nil, fl_cons, bnd_ok, aft_nx, aft_ct, aft_bk, aft_rt, aft_exc, wds, atI_0, atI_1, ixt_2, ixt_last, ixl_last, ixl_0, ixl_1, ex_seto, ex_app, ex_pop, ex_par, own_l, app_own, pop_own, par_ok, set_nil, set_cons, frz_nil, frz_cons, frz_own, frz_dat, frz_no, frz_o2, enum_nil, enum_cons, wipe_nil, wipe_cons, ex_forB, exB_cons, addT, addL, enc_line, enc_op, enc_nx, enc_cl, cut_to, cut_from, cut_from1, cut_from2, cut_fromS, cut_init, rev_tt, eq_ss, ne_ss, skw, ite_true_b, ite_false_b, beq_self_eq_true, if_true, if_false, Bool.false_eq_true, List.map_cons, List.map_nil, encT_map, List.map_take, List.map_drop, Int.toNat_natCast]
  · rw [decide_eq_false h, if_neg h]
    simp (disch := (first | assumption | omega | (simp only [List.length_append, List.length_map, List.length_cons, List.length_nil, List.length_reverse, List.length_take, List.length_drop, List.length_singleton]; omega))) only [evs, strR_s, List.cons_append, List.nil_append, Bool.and_true, Bool.true_and, Bool.and_false, Bool.false_and, Bool.or_true, Bool.true_or, Bool.or_false, Bool.false_or, Bool.not_true, Bool.not_false, Bool.not_not, fl_nil, fl_cons, bnd_ok, aft_nx, aft_ct, aft_bk, aft_rt, aft_exc, wds, atI_0, atI_1, ixt_2, ixt_last, ixl_last, ixl_0, ixl_1, ex_seto, ex_app, ex_pop, ex_par, own_l, app_own, pop_own, par_ok, set_nil, set_cons, frz_nil, frz_cons, frz_own, frz_dat, frz_no, frz_o2, enum_nil, enum_cons, wipe_nil, wipe_cons, ex_forB, exB_cons, addT, addL, enc_line, enc_op, enc_nx, enc_cl, cut_to, cut_from, cut_from1, cut_from2, cut_fromS, cut_init, rev_tt, eq_ss, ne_ss, skw, ite_true_b, ite_false_b, beq_self_eq_true, if_true, if_false, Bool.false_eq_true, List.map_cons, List.map_nil]
end
end Ev
/-! EvTf: trees may be looked at; what is good about trees. -/
namespace Ev
open PySem PySem.Spec PyProof.Rows L2
theorem row1 (q : Leaf) : 1 ≤ q.rows.length := by
  cases q with
  | line s => exact Nat.le_refl 1
  | letter a b =>
    show 1 ≤ (rowsP a false b ++ [Row.cl a]).length
    rw [List.length_append, List.length_singleton]; omega
theorem len_rows : ∀ t : List Leaf, t.length ≤ (rowsT t).length
  | [] => Nat.le_refl _
  | q :: t => by
    have h1 := len_rows t
    have h2 := row1 q
    show t.length + 1 ≤ (q.rows ++ rowsT t).length
    rw [List.length_append]
    omega
theorem rows_mem : ∀ {t : List Leaf} {l : Leaf}, l ∈ t → l.rows.length ≤ (rowsT t).length
  | q :: t, l, h => by
    show _ ≤ (q.rows ++ rowsT t).length
    rw [List.length_append]
    rcases List.mem_cons.mp h with rfl | h
    · omega
    · have := rows_mem h; omega
theorem rowsP_len (n : Str) : ∀ (ps : List (List Leaf)) (b : Bool), ps.length ≤ (rowsP n b ps).length
  | [], _ => Nat.le_refl _
  | q :: ps, b => by
    have := rowsP_len n ps true
    show ps.length + 1 ≤ (rowsT q ++ rowsP n true ps).length + 1
    rw [List.length_append]
    omega
theorem rowsP_mem (n : Str) : ∀ {ps : List (List Leaf)} (b : Bool) {p : List Leaf}, p ∈ ps → (rowsT p).length ≤ (rowsP n b ps).length
  | q :: ps, b, p, h => by
    show _ ≤ (rowsT q ++ rowsP n true ps).length + 1
    rw [List.length_append]
    rcases List.mem_cons.mp h with rfl | h
    · omega
    · have := rowsP_mem n true h; omega
theorem lt_rows (n : Str) (ps : List (List Leaf)) : (Leaf.letter n ps).rows.length = (rowsP n false ps).length + 1 := by
  show (rowsP n false ps ++ [Row.cl n]).length = _
  rw [List.length_append, List.length_singleton]
theorem leaf_tm : ∀ (d : Nat) (l : Leaf), l.ok = true → l.dp ≤ d → l.rows.length ≤ 1000000 → Tm (3 * d) l.enc
  | d, .line s, h, _, _ => sk_tm h
  | d + 1, .letter n ps, h, hd, hr => by
    have h' : (sk n && (okP ps && !ps.isEmpty)) = true := h
    simp only [Bool.and_eq_true] at h'
    have hd' : dpP ps ≤ d := Nat.le_of_succ_le_succ hd
    rw [lt_rows] at hr
    have l1 := rowsP_len n ps false
    rw [enc_lt]
    show Tm (3 * d + 1 + 1 + 1) _
    refine tm_2 (sk_tm h'.1) ?_
    rw [encPs_map]
    refine tm_map (fun p hp => ?_) (by simp only [lim]; omega)
    have l2 := rowsP_mem n false hp
    have l3 := len_rows p
    rw [encT_map]
    exact tm_map (fun l hl => leaf_tm d l (okT_mem.mp (okP_mem.mp h'.2.1 p hp) l hl) (Nat.le_trans (dpT_mem hl) (Nat.le_trans (dpP_mem hp) hd')) (by have := rows_mem hl; omega)) (by simp only [lim]; omega)
  | 0, .letter n ps, h, hd, hr => absurd (show dpP ps + 1 ≤ 0 from hd) (by omega)
theorem tree_tm {d : Nat} {t : List Leaf} (h : okT t = true) (hd : dpT t ≤ d) (hr : (rowsT t).length ≤ 1000000) : Tm (3 * d + 1) (.tuple (encT t)) := by
  have l3 := len_rows t
  rw [encT_map]
  exact tm_map (fun l hl => leaf_tm d l (okT_mem.mp h l hl) (Nat.le_trans (dpT_mem hl) hd) (by have := rows_mem hl; omega)) (by simp only [lim]; omega)
mutual
theorem Leaf.nb : ∀ (l : Leaf), Ev.nb l.enc = true
  | .line s => rfl
  | .letter n ps => by
    show (true && ((nbs (encPs ps)) && true)) = true
    rw [nbPs ps]
    rfl
theorem nbT : ∀ (t : List Leaf), nbs (encT t) = true
  | [] => rfl
  | l :: t => by
    show (Ev.nb l.enc && nbs (encT t)) = true
    rw [Leaf.nb l, nbT t]
    rfl
theorem nbPs : ∀ (t : List (List Leaf)), nbs (encPs t) = true
  | [] => rfl
  | l :: t => by
    show (nbs (encT l) && nbs (encPs t)) = true
    rw [nbT l, nbPs t]
    rfl
end
mutual
theorem Leaf.inj : ∀ (l k : Leaf), l.enc = k.enc → l = k
  | .line s, .line z, h => by
    rw [enc_ln, enc_ln] at h
    injection h with h
    rw [h]
  | .letter n ps, .letter m qs, h => by
    rw [enc_lt, enc_lt] at h
    injection h with h
    injection h with h1 h2
    injection h1 with h1
    injection h2 with h2 h3
    injection h2 with h2
    rw [h1, encPs_inj ps qs h2]
  | .line _, .letter _ _, h => by rw [enc_ln, enc_lt] at h; cases h
  | .letter _ _, .line _, h => by rw [enc_ln, enc_lt] at h; cases h
theorem encT_inj : ∀ (t u : List Leaf), encT t = encT u → t = u
  | [], [], _ => rfl
  | l :: t, k :: u, h => by
    rw [encT_cons, encT_cons] at h
    injection h with h1 h2
    rw [Leaf.inj l k h1, encT_inj t u h2]
  | [], _ :: _, h => nomatch h
  | _ :: _, [], h => nomatch h
theorem encPs_inj : ∀ (t u : List (List Leaf)), encPs t = encPs u → t = u
  | [], [], _ => rfl
  | l :: t, k :: u, h => by
    rw [encPs_cons, encPs_cons] at h
    injection h with h1 h2
    injection h1 with h1
    rw [encT_inj l k h1, encPs_inj t u h2]
  | [], _ :: _, h => nomatch h
  | _ :: _, [], h => nomatch h
end
theorem strs_tm {n : Nat} {xs : List Str} (h : ∀ x ∈ xs, sk x = true) (hl : xs.length ≤ 1000000) : Tm (n + 1) (.tuple (xs.map PyData.str)) := tm_map (fun x hx => sk_tm (h x hx)) (by simp only [lim]; omega)
/-- a tree that is not too large -/
structure TGood (t : List Leaf) : Prop where
  ok : okT t = true
  dp : dpT t ≤ 6
  rows : (rowsT t).length ≤ 100000
theorem TGood.tm {t : List Leaf} (h : TGood t) : Tm 19 (.tuple (encT t)) := tree_tm (d := 6) h.ok h.dp (by have := h.rows; omega)
theorem TGood.shp {t : List Leaf} (h : TGood t) : shp (.tuple (encT t)) = true := h.tm.shp (by decide)
theorem TGood.len {t : List Leaf} (h : TGood t) : t.length ≤ 100000 := Nat.le_trans (len_rows t) h.rows
theorem TGood.lns {t : List Leaf} (h : TGood t) : (lnsT t).length ≤ 100000 := by have := cntT t; have := h.rows; omega
theorem TGood.lts {t : List Leaf} (h : TGood t) : (ltsT t).length ≤ 100000 := by have := cntT t; have := h.rows; omega
theorem TGood.lnsT {t : List Leaf} (h : TGood t) : Tm 1 (.tuple ((lnsT t).map PyData.str)) := strs_tm (lnsT_sk t h.ok).1 (by have := h.lns; omega)
theorem TGood.ltsT {t : List Leaf} (h : TGood t) : Tm 1 (.tuple ((ltsT t).map PyData.str)) := strs_tm (lnsT_sk t h.ok).2 (by have := h.lts; omega)
theorem TGood.left {t u : List Leaf} (h : TGood (t ++ u)) : TGood t := by
  obtain ⟨h1, h2, h3⟩ := h
  rw [okT_app, Bool.and_eq_true] at h1
  rw [dpT_app] at h2
  rw [rowsT_app, List.length_append] at h3
  exact ⟨h1.1, by omega, by omega⟩
theorem TGood.right {t u : List Leaf} (h : TGood (t ++ u)) : TGood u := by
  obtain ⟨h1, h2, h3⟩ := h
  rw [okT_app, Bool.and_eq_true] at h1
  rw [dpT_app] at h2
  rw [rowsT_app, List.length_append] at h3
  exact ⟨h1.2, by omega, by omega⟩
theorem TGood.take {t : List Leaf} (h : TGood t) (k : Nat) : TGood (t.take k) := by
  rw [← List.take_append_drop k t] at h
  exact h.left
theorem TGood.drop {t : List Leaf} (h : TGood t) (k : Nat) : TGood (t.drop k) := by
  rw [← List.take_append_drop k t] at h
  exact h.right
theorem TGood.nil : TGood [] := ⟨rfl, by decide, by decide⟩
theorem TGood.drawn {d : Nat} {t : List Leaf} (h : DTree d t) (hd : d ≤ 3) : TGood t := by
  obtain ⟨h1, h2, h3, _⟩ := h.all
  refine ⟨h1, by omega, Nat.le_trans h3 ?_⟩
  have : d = 0 ∨ d = 1 ∨ d = 2 ∨ d = 3 := by omega
  rcases this with rfl | rfl | rfl | rfl <;> decide
theorem lines_good : ∀ {ls : List Str}, (∀ x ∈ ls, sk x = true) → ls.length ≤ 100000 → TGood (ls.map Leaf.line) ∧ rowsT (ls.map Leaf.line) = ls.map Row.line ∧ dpT (ls.map Leaf.line) = 0 ∧ lnsT (ls.map Leaf.line) = ls ∧ ltsT (ls.map Leaf.line) = [] := by
  intro ls h hl
  have h1 : okT (ls.map Leaf.line) = true := okT_mem.mpr fun l hl => by
    obtain ⟨s, hs, rfl⟩ := List.mem_map.mp hl
    exact h s hs
  have h2 : rowsT (ls.map Leaf.line) = ls.map Row.line ∧ dpT (ls.map Leaf.line) = 0 ∧ lnsT (ls.map Leaf.line) = ls ∧ ltsT (ls.map Leaf.line) = [] := by
    clear h hl h1
    induction ls with
    | nil => exact ⟨rfl, rfl, rfl, rfl⟩
    | cons s ls ih =>
      obtain ⟨a, b, c, d⟩ := ih
      refine ⟨?_, ?_, ?_, ?_⟩
      · show Row.line s :: rowsT (ls.map Leaf.line) = _
        rw [a]; rfl
      · show max 0 (dpT (ls.map Leaf.line)) = 0
        rw [b]; rfl
      · show s :: lnsT (ls.map Leaf.line) = _
        rw [c]
      · exact d
  exact ⟨⟨h1, by rw [h2.2.1]; decide, by rw [h2.1, List.length_map]; exact hl⟩, h2⟩
theorem enc_lines (ls : List Str) : encT (ls.map Leaf.line) = ls.map PyData.str := by
  rw [encT_map, List.map_map]
  rfl
theorem wrap_good {t : List Leaf} {n : Str} (h : okT t = true) (hd : dpT t ≤ 5) (hr : (rowsT t).length ≤ 99998) (hn : sk n = true) : TGood [.letter n [t]] := by
  refine ⟨?_, ?_, ?_⟩
  · show ((sk n && ((okT t && true) && true)) && true) = true
    rw [hn, h]; rfl
  · show max (max (dpT t) 0 + 1) 0 ≤ 6
    omega
  · show (((Row.op n :: (rowsT t ++ [])) ++ [Row.cl n]) ++ []).length ≤ 100000
    simp only [List.append_nil, List.length_append, List.length_cons, List.length_nil]
    omega
theorem wrap_lns (t : List Leaf) (n : Str) : lnsT [.letter n [t]] = lnsT t := by
  show ((lnsT t ++ []) ++ []) = _
  rw [List.append_nil, List.append_nil]
theorem wrap_lts (t : List Leaf) (n : Str) : ltsT [.letter n [t]] = n :: ltsT t := by
  show ((n :: (ltsT t ++ [])) ++ []) = _
  rw [List.append_nil, List.append_nil]
theorem wrap_dp (t : List Leaf) (n : Str) : dpT [.letter n [t]] = dpT t + 1 := by
  show max (max (dpT t) 0 + 1) 0 = _
  omega
structure HasTe (P : Pr) : Prop where
  is_text : Has P "is_text" 1 1 B.is_text
  deep : Has P "deep" 1 3 B.deep
  lines : Has P "lines" 1 4 B.lines
  letters : Has P "letters" 1 4 B.letters
section
variable {P : Pr} {m : Nat} (H : HasTe P) {t : List Leaf}
include H
theorem HasTe.c_lines (h : TGood t) : callR (gOf P (m + 8)) "lines" [.tuple (encT t)] = .ok (.tuple ((Ev.lnsT t).map PyData.str)) := call_lines H.lines H.is_text 6 m t h.dp (by have := h.lns; omega)
theorem HasTe.c_letters (h : TGood t) : callR (gOf P (m + 8)) "letters" [.tuple (encT t)] = .ok (.tuple ((Ev.ltsT t).map PyData.str)) := call_letters H.letters H.is_text 6 m t h.dp (by have := h.lts; omega)
theorem HasTe.c_deep (h : TGood t) : callR (gOf P (m + 8)) "deep" [.tuple (encT t)] = .ok (.int (dpT t)) := call_deep H.deep H.is_text 6 m t h.dp h.ok (by have := h.rows; omega) (by have := h.len; omega)
end
theorem max2_nat (a b : Nat) : bltD .max2 [.int a, .int b] = .ok (.int ((max a b : Nat) : Int)) := by
  show R.ok (PyData.int (if (b : Int) > a then b else a)) = _
  congr 2
  split <;> omega
theorem loop_all {tg : Tg} {g : G} {b : List S} (I : Env → Prop) : ∀ (ds : List D), (∀ d ∈ ds, ∀ env, I env → ∃ e1, bindT tg d env = .ok e1 ∧ ∃ e2, (exB g b e1 = .nx e2 ∨ exB g b e1 = .ct e2) ∧ I e2) → ∀ env, I env → ∃ env', forLoop tg (exB g b) ds env = .nx env' ∧ I env'
  | [], _, env, h => ⟨env, rfl, h⟩
  | d :: ds, hs, env, h => by
    obtain ⟨e1, h1, e2, h2, h3⟩ := hs d List.mem_cons_self env h
    obtain ⟨e3, h4, h5⟩ := loop_all I ds (fun x hx => hs x (List.mem_cons_of_mem _ hx)) e2 h3
    refine ⟨e3, ?_, h5⟩
    rw [fl_cons, h1, bnd_ok]
    rcases h2 with h2 | h2 <;> rw [h2] <;> exact h4
theorem rng_nat {n : Nat} {d : D} (h : d ∈ rngL 0 ((n : Int) + 1)) : ∃ s : Nat, d = .int (s : Int) ∧ s ≤ n := by
  obtain ⟨k, e, h1, h2⟩ := rngL_mem h
  exact ⟨k.toNat, by rw [e, Int.toNat_of_nonneg h1], by omega⟩
/-- the tellers' answers -/
theorem ref_eq {k : Nat} (h : k ≤ 3) : cmpD .NotEq (.tuple [.str "refused", .int (k : Int)]) (.tuple [.str "refused", .int (k : Int)]) = .ok (.bool false) := by
  have : k = 0 ∨ k = 1 ∨ k = 2 ∨ k = 3 := by omega
  rcases this with rfl | rfl | rfl | rfl <;> kernel_rfl
theorem ref1 : cmpD .NotEq (.tuple [.str "refused", .int 1]) (.tuple [.str "refused", .int 1]) = .ok (.bool false) := ref_eq (k := 1) (by decide)
theorem ref0 : cmpD .NotEq (.tuple [.str "refused", .int 0]) (.tuple [.str "refused", .int 0]) = .ok (.bool false) := ref_eq (k := 0) (by decide)
end Ev
/-! EvRo: rows_of. -/
namespace Ev
open PySem PySem.Spec PyProof.Rows L2
structure HasRo (P : Pr) : Prop where
  rows_of : Has P "rows_of" 1 6 B.rows_of
  g1 : P.gl "OPEN" = some (.str "open")
  g2 : P.gl "LINE" = some (.str "line")
  g3 : P.gl "CLOSE" = some (.str "close")
  g4 : P.gl "NEXT" = some (.str "next")
theorem ro_parts {g : G} (g4 : globR g "NEXT" = .ok (.str "next")) {name : Str} : ∀ (ps : List (List Leaf)) (acc : List Row) (a0 a2 a4 : D) (x5 : Option D),
    (∀ p ∈ ps, callR g "rows_of" [.tuple (encT p)] = .ok (.tuple ((rowsT p).map Row.enc))) → acc.length + (rowsP name true ps).length ≤ 1000000 →
    ∃ y5, forLoop (.nm 5) (exB g B.l2_rows_of) (encPs ps) [some (.dat a0), some (.dat (.tuple (acc.map Row.enc))), some (.dat a2), some (.dat (.str name)), some (.dat a4), o2 x5] = .nx [some (.dat a0), some (.dat (.tuple ((acc ++ rowsP name true ps).map Row.enc))), some (.dat a2), some (.dat (.str name)), some (.dat a4), o2 y5]
  | [], acc, a0, a2, a4, x5, _, _ => ⟨x5, by rw [show rowsP name true [] = [] from rfl, List.append_nil]; rfl⟩
  | p :: ps, acc, a0, a2, a4, x5, hc, hl => by
    have hl' : acc.length + (((rowsT p ++ rowsP name true ps).length) + 1) ≤ 1000000 := hl
    rw [List.length_append] at hl'
    obtain ⟨y5, ih⟩ := ro_parts (name := name) g4 ps (acc ++ (.nx name :: rowsT p)) a0 a2 a4 (some (.tuple (encT p))) (fun q hq => hc q (List.mem_cons_of_mem _ hq)) (by rw [List.length_append, List.length_cons]; omega)
    have c1 := hc p List.mem_cons_self
    refine ⟨y5, ?_⟩
    rw [show rowsP name true (p :: ps) = .nx name :: (rowsT p ++ rowsP name true ps) from rfl, encPs_cons]
    rw [List.append_assoc] at ih
    simp (disch := (first | assumption | omega | (simp only [List.length_append, List.length_map, List.length_cons, List.length_nil, List.length_reverse, List.length_take, List.length_drop, List.length_singleton]; omega))) only [evs, strR_s, List.cons_append, List.nil_append, Bool.and_true, Bool.true_and, Bool.and_false, Bool.false_and, Bool.or_true, Bool.true_or, Bool.or_false, Bool.false_or, Bool.not_true, Bool.not_false, Bool.not_not, fl_nil, fl_cons, bnd_ok, aft_nx, aft_ct, aft_bk, aft_rt, aft_exc, wds, atI_0, atI_1, ixt_2, ixt_last, ixl_last, ixl_0, ixl_1, ex_seto, ex_app, ex_pop, ex_par, own_l, app_own, pop_own, par_ok, set_nil, set_cons, frz_nil, frz_cons, frz_own, frz_dat, frz_no, frz_o2, enum_nil, enum_cons, wipe_nil, wipe_cons, ex_forB, exB_cons, addT, addL, enc_line, enc_op, enc_nx, enc_cl, cut_to, cut_from, cut_from1, cut_from2, cut_fromS, cut_init, rev_tt, eq_ss, ne_ss, skw, ite_true_b, ite_false_b, beq_self_eq_true, if_true, if_false, Bool.false_eq_true, List.map_cons, List.map_nil, B.u_l2_rows_of, c1, g4]
    simpa only [List.map_append, List.map_cons, List.append_assoc, List.cons_append, List.nil_append, o2_some, enc_nx] using ih
theorem ro_leaves {g : G} {n : Nat} (g1 : globR g "OPEN" = .ok (.str "open")) (g2 : globR g "LINE" = .ok (.str "line")) (g3 : globR g "CLOSE" = .ok (.str "close")) (g4 : globR g "NEXT" = .ok (.str "next")) (hc : ∀ p, okT p = true → dpT p + 1 ≤ n → (rowsT p).length ≤ 1000000 → callR g "rows_of" [.tuple (encT p)] = .ok (.tuple ((rowsT p).map Row.enc))) : ∀ (t : List Leaf) (acc : List Row) (a0 : D) (x2 x3 x4 x5 : Option D),
    okT t = true → dpT t ≤ n → acc.length + (rowsT t).length ≤ 1000000 →
    ∃ y2 y3 y4 y5, forLoop (.nm 2) (exB g B.l1_rows_of) (encT t) [some (.dat a0), some (.dat (.tuple (acc.map Row.enc))), o2 x2, o2 x3, o2 x4, o2 x5] = .nx [some (.dat a0), some (.dat (.tuple ((acc ++ rowsT t).map Row.enc))), o2 y2, o2 y3, o2 y4, o2 y5]
  | [], acc, a0, x2, x3, x4, x5, _, _, _ => ⟨x2, x3, x4, x5, by rw [show rowsT [] = [] from rfl, List.append_nil]; rfl⟩
  | .line s :: t, acc, a0, x2, x3, x4, x5, hok, hd, hl => by
    have hl' : acc.length + ((rowsT t).length + 1) ≤ 1000000 := by
      have : (rowsT (.line s :: t)).length = (rowsT t).length + 1 := rfl
      omega
    have hd' : dpT t ≤ n := Nat.le_trans (Nat.le_max_right _ _) hd
    have hok' : (sk s && okT t) = true := hok
    rw [Bool.and_eq_true] at hok'
    obtain ⟨y2, y3, y4, y5, ih⟩ := ro_leaves g1 g2 g3 g4 hc t (acc ++ [.line s]) a0 (some (.str s)) x3 x4 x5 hok'.2 hd' (by rw [List.length_append, List.length_singleton]; omega)
    refine ⟨y2, y3, y4, y5, ?_⟩
    rw [encT_cons, enc_ln, show rowsT (.line s :: t) = .line s :: rowsT t from rfl]
    simp (disch := (first | assumption | omega | (simp only [List.length_append, List.length_map, List.length_cons, List.length_nil, List.length_reverse, List.length_take, List.length_drop, List.length_singleton]; omega))) only [evs, strR_s, List.cons_append, List.nil_append, Bool.and_true, Bool.true_and, Bool.and_false, Bool.false_and, Bool.or_true, Bool.true_or, Bool.or_false, Bool.false_or, Bool.not_true, Bool.not_false, Bool.not_not, fl_nil, fl_cons, bnd_ok, aft_nx, aft_ct, aft_bk, aft_rt, aft_exc, wds, atI_0, atI_1, ixt_2, ixt_last, ixl_last, ixl_0, ixl_1, ex_seto, ex_app, ex_pop, ex_par, own_l, app_own, pop_own, par_ok, set_nil, set_cons, frz_nil, frz_cons, frz_own, frz_dat, frz_no, frz_o2, enum_nil, enum_cons, wipe_nil, wipe_cons, ex_forB, exB_cons, addT, addL, enc_line, enc_op, enc_nx, enc_cl, cut_to, cut_from, cut_from1, cut_from2, cut_fromS, cut_init, rev_tt, eq_ss, ne_ss, skw, ite_true_b, ite_false_b, beq_self_eq_true, if_true, if_false, Bool.false_eq_true, List.map_cons, List.map_nil, B.u_l1_rows_of, g2]
    simpa only [List.map_append, List.map_cons, List.map_nil, List.append_assoc, List.cons_append, List.nil_append, o2_some, enc_line] using ih
  | .letter nm [] :: t, acc, a0, x2, x3, x4, x5, hok, hd, hl => by
    have hok' : ((sk nm && (true && false)) && okT t) = true := hok
    rw [Bool.and_false, Bool.and_false] at hok'
    cases hok'
  | .letter nm (p :: ps) :: t, acc, a0, x2, x3, x4, x5, hok, hd, hl => by
    have e1 : rowsT (.letter nm (p :: ps) :: t) = ((.op nm :: (rowsT p ++ rowsP nm true ps)) ++ [.cl nm]) ++ rowsT t := rfl
    have hl' : acc.length + ((rowsT p).length + (rowsP nm true ps).length + 2 + (rowsT t).length) ≤ 1000000 := by
      rw [e1] at hl
      simp only [List.length_append, List.length_cons, List.length_nil] at hl
      omega
    have hd1 : max (max (dpT p) (dpP ps) + 1) (dpT t) ≤ n := hd
    have hd2 : dpT t ≤ n := by omega
    have hok' : ((sk nm && ((okT p && okP ps) && true)) && okT t) = true := hok
    simp only [Bool.and_eq_true] at hok'
    have c1 := hc p hok'.1.2.1.1 (by omega) (by omega)
    obtain ⟨z5, q⟩ := ro_parts (g := g) (name := nm) g4 ps (acc ++ (.op nm :: rowsT p)) a0 (Leaf.enc (.letter nm (p :: ps))) (.tuple (encPs (p :: ps))) x5 (fun q hq => hc q (okP_mem.mp hok'.1.2.1.2 q hq) (by have := dpP_mem hq; omega) (by have := rowsP_mem nm true hq; omega)) (by rw [List.length_append, List.length_cons]; omega)
    obtain ⟨y2, y3, y4, y5, ih⟩ := ro_leaves g1 g2 g3 g4 hc t (acc ++ ((.op nm :: (rowsT p ++ rowsP nm true ps)) ++ [.cl nm])) a0 (some (Leaf.enc (.letter nm (p :: ps)))) (some (.str nm)) (some (.tuple (encPs (p :: ps)))) z5 hok'.2 hd2 (by simp only [List.length_append, List.length_cons, List.length_nil]; omega)
    refine ⟨y2, y3, y4, y5, ?_⟩
    rw [encT_cons, e1]
    rw [enc_lt] at q ih ⊢
    simp (disch := (first | assumption | omega | (simp only [List.length_append, List.length_map, List.length_cons, List.length_nil, List.length_reverse, List.length_take, List.length_drop, List.length_singleton]; omega))) only [evs, strR_s, List.cons_append, List.nil_append, Bool.and_true, Bool.true_and, Bool.and_false, Bool.false_and, Bool.or_true, Bool.true_or, Bool.or_false, Bool.false_or, Bool.not_true, Bool.not_false, Bool.not_not, fl_nil, fl_cons, bnd_ok, aft_nx, aft_ct, aft_bk, aft_rt, aft_exc, wds, atI_0, atI_1, ixt_2, ixt_last, ixl_last, ixl_0, ixl_1, ex_seto, ex_app, ex_pop, ex_par, own_l, app_own, pop_own, par_ok, set_nil, set_cons, frz_nil, frz_cons, frz_own, frz_dat, frz_no, frz_o2, enum_nil, enum_cons, wipe_nil, wipe_cons, ex_forB, exB_cons, addT, addL, enc_line, enc_op, enc_nx, enc_cl, cut_to, cut_from, cut_from1, cut_from2, cut_fromS, cut_init, rev_tt, eq_ss, ne_ss, skw, ite_true_b, ite_false_b, beq_self_eq_true, if_true, if_false, Bool.false_eq_true, List.map_cons, List.map_nil, B.u_l1_rows_of, g1, g3, encPs_cons, c1, List.drop_succ_cons, List.drop_zero]
    simp only [List.map_append, List.map_cons, List.map_nil, List.append_assoc, List.cons_append, List.nil_append, enc_op, encPs_cons] at q
    simp only [List.append_assoc, List.cons_append, List.nil_append]
    rw [q]
    simp (disch := (first | assumption | omega | (simp only [List.length_append, List.length_map, List.length_cons, List.length_nil, List.length_reverse, List.length_take, List.length_drop, List.length_singleton]; omega))) only [evs, strR_s, List.cons_append, List.nil_append, Bool.and_true, Bool.true_and, Bool.and_false, Bool.false_and, Bool.or_true, Bool.true_or, Bool.or_false, Bool.false_or, Bool.not_true, Bool.not_false, Bool.not_not, fl_nil, fl_cons, bnd_ok, aft_nx, aft_ct, aft_bk, aft_rt, aft_exc, wds, atI_0, atI_1, ixt_2, ixt_last, ixl_last, ixl_0, ixl_1, ex_seto, ex_app, ex_pop, ex_par, own_l, app_own, pop_own, par_ok, set_nil, set_cons, frz_nil, frz_cons, frz_own, frz_dat, frz_no, frz_o2, enum_nil, enum_cons, wipe_nil, wipe_cons, ex_forB, exB_cons, addT, addL, enc_line, enc_op, enc_nx, enc_cl, cut_to, cut_from, cut_from1, cut_from2, cut_fromS, cut_init, rev_tt, eq_ss, ne_ss, skw, ite_true_b, ite_false_b, beq_self_eq_true, if_true, if_false, Bool.false_eq_true, List.map_cons, List.map_nil, g3]
    simpa only [List.map_append, List.map_cons, List.map_nil, List.append_assoc, List.cons_append, List.nil_append, o2_some, enc_cl, enc_op, encPs_cons] using ih
theorem call_rows_of {P : Pr} (H : HasRo P) : ∀ (n m : Nat) (t : List Leaf), okT t = true → dpT t ≤ n → (rowsT t).length ≤ 1000000 → callR (gOf P (m + n + 1)) "rows_of" [.tuple (encT t)] = .ok (.tuple ((rowsT t).map Row.enc))
  | n, m, t, hok, hd, hl => by
    rw [H.rows_of.body rfl]
    obtain ⟨y2, y3, y4, y5, q⟩ := ro_leaves (g := gOf P (m + n)) (n := n) (glob_ok (g := gOf P (m + n)) H.g1) (glob_ok (g := gOf P (m + n)) H.g2) (glob_ok (g := gOf P (m + n)) H.g3) (glob_ok (g := gOf P (m + n)) H.g4) (fun p h1 h2 h3 => by
      match n, h2 with
      | n + 1, h2 => exact call_rows_of H n m p h1 (Nat.le_of_succ_le_succ h2) h3) t [] (.tuple (encT t)) none none none none hok hd (by simpa using hl)
    simp only [evs, strR_s, List.cons_append, List.nil_append, Bool.and_true, Bool.true_and, Bool.and_false, Bool.false_and, Bool.or_true, Bool.true_or, Bool.or_false, Bool.false_or, Bool.not_true, Bool.not_false, Bool.not_not, fl_nil, fl_cons, bnd_ok, aft_nx, aft_ct, aft_bk, aft_rt, aft_exc, wds, atI_0, atI_1, ixt_2, ixt_last, ixl_last, ixl_0, ixl_1, ex_seto, ex_app, ex_pop, ex_par, own_l, app_own, pop_own, par_ok, set_nil, set_cons, frz_nil, frz_cons, frz_own, frz_dat, frz_no, frz_o2, enum_nil, enum_cons, wipe_nil, wipe_cons, ex_forB, exB_cons, addT, addL, enc_line, enc_op, enc_nx, enc_cl, cut_to, cut_from, cut_from1, cut_from2, cut_fromS, cut_init, rev_tt, eq_ss, ne_ss, skw, ite_true_b, ite_false_b, beq_self_eq_true, if_true, if_false, Bool.false_eq_true, List.map_cons, List.map_nil, B.rows_of]
    rw [show [some (Sl.dat (.tuple (encT t))), some (Sl.dat (.tuple [])), none, none, none, none] = [some (.dat (.tuple (encT t))), some (.dat (.tuple (([] : List Row).map Row.enc))), o2 none, o2 none, o2 none, o2 none] from rfl, q]
    simp only [evs, strR_s, List.cons_append, List.nil_append, Bool.and_true, Bool.true_and, Bool.and_false, Bool.false_and, Bool.or_true, Bool.true_or, Bool.or_false, Bool.false_or, Bool.not_true, Bool.not_false, Bool.not_not, fl_nil, fl_cons, bnd_ok, aft_nx, aft_ct, aft_bk, aft_rt, aft_exc, wds, atI_0, atI_1, ixt_2, ixt_last, ixl_last, ixl_0, ixl_1, ex_seto, ex_app, ex_pop, ex_par, own_l, app_own, pop_own, par_ok, set_nil, set_cons, frz_nil, frz_cons, frz_own, frz_dat, frz_no, frz_o2, enum_nil, enum_cons, wipe_nil, wipe_cons, ex_forB, exB_cons, addT, addL, enc_line, enc_op, enc_nx, enc_cl, cut_to, cut_from, cut_from1, cut_from2, cut_fromS, cut_init, rev_tt, eq_ss, ne_ss, skw, ite_true_b, ite_false_b, beq_self_eq_true, if_true, if_false, Bool.false_eq_true, List.map_cons, List.map_nil]
end Ev
/-! EvTs: trees swapped, ways, lines found. -/
namespace Ev
open PySem PySem.Spec PyProof.Rows L2
mutual
def Leaf.swap : Leaf → Leaf
  | .line s => .line s
  | .letter n ps => .letter n (swapP ps)
termination_by structural l => l
def swapT : List Leaf → List Leaf
  | [] => []
  | l :: t => l.swap :: swapT t
termination_by structural l => l
/-- the parts, the last one first -/
def swapP : List (List Leaf) → List (List Leaf)
  | [] => []
  | p :: ps => swapP ps ++ [swapT p]
termination_by structural l => l
end
theorem swapT_map : ∀ t : List Leaf, swapT t = t.map Leaf.swap
  | [] => rfl
  | l :: t => congrArg (l.swap :: ·) (swapT_map t)
theorem swapP_map : ∀ ps : List (List Leaf), swapP ps = ps.reverse.map swapT
  | [] => rfl
  | p :: ps => by
    show swapP ps ++ [swapT p] = _
    rw [swapP_map ps, List.reverse_cons, List.map_append]
    rfl
theorem swapP_snoc (ps : List (List Leaf)) (p : List Leaf) : swapP (ps ++ [p]) = swapT p :: swapP ps := by
  rw [swapP_map, swapP_map, List.reverse_append]
  rfl
mutual
theorem Leaf.swap2 : ∀ l : Leaf, l.swap.swap = l
  | .line s => rfl
  | .letter n ps => congrArg (Leaf.letter n) (swapP2 ps)
termination_by structural l => l
theorem swapT2 : ∀ t : List Leaf, swapT (swapT t) = t
  | [] => rfl
  | l :: t => by
    show l.swap.swap :: swapT (swapT t) = _
    rw [Leaf.swap2 l, swapT2 t]
termination_by structural l => l
theorem swapP2 : ∀ ps : List (List Leaf), swapP (swapP ps) = ps
  | [] => rfl
  | p :: ps => by
    show swapP (swapP ps ++ [swapT p]) = _
    rw [swapP_snoc, swapT2 p, swapP2 ps]
termination_by structural l => l
end
theorem dpP_app' (ps qs : List (List Leaf)) : dpP (ps ++ qs) = max (dpP ps) (dpP qs) := by
  induction ps with
  | nil => show _ = max 0 _; rw [Nat.zero_max]; rfl
  | cons p ps ih =>
    show max (dpT p) (dpP (ps ++ qs)) = max (max (dpT p) (dpP ps)) (dpP qs)
    rw [ih]; omega
theorem okP_app' (ps qs : List (List Leaf)) : okP (ps ++ qs) = (okP ps && okP qs) := by
  induction ps with
  | nil => rfl
  | cons p ps ih =>
    show (okT p && okP (ps ++ qs)) = ((okT p && okP ps) && okP qs)
    rw [ih, Bool.and_assoc]
theorem lnsP_app : ∀ (ps qs : List (List Leaf)), lnsP (ps ++ qs) = lnsP ps ++ lnsP qs
  | [], qs => rfl
  | p :: ps, qs => by
    show lnsT p ++ lnsP (ps ++ qs) = (lnsT p ++ lnsP ps) ++ lnsP qs
    rw [lnsP_app ps qs, List.append_assoc]
theorem ltsP_app : ∀ (ps qs : List (List Leaf)), ltsP (ps ++ qs) = ltsP ps ++ ltsP qs
  | [], qs => rfl
  | p :: ps, qs => by
    show ltsT p ++ ltsP (ps ++ qs) = (ltsT p ++ ltsP ps) ++ ltsP qs
    rw [ltsP_app ps qs, List.append_assoc]
/-- the rows of parts, but for their order -/
theorem rowsP_app (n : Str) : ∀ (ps qs : List (List Leaf)), rowsP n true (ps ++ qs) = rowsP n true ps ++ rowsP n true qs
  | [], qs => rfl
  | p :: ps, qs => by
    show nxt true n :: (rowsT p ++ rowsP n true (ps ++ qs)) = (nxt true n :: (rowsT p ++ rowsP n true ps)) ++ rowsP n true qs
    rw [rowsP_app n ps qs, List.cons_append, List.append_assoc]
mutual
theorem Leaf.swap_all : ∀ l : Leaf, l.swap.ok = l.ok ∧ l.swap.dp = l.dp ∧ l.swap.lns.Perm l.lns ∧ l.swap.lts.Perm l.lts ∧ l.swap.rows.Perm l.rows
  | .line s => ⟨rfl, rfl, .refl _, .refl _, .refl _⟩
  | .letter n ps => by
    obtain ⟨h1, h2, h3, h4, h5, h6⟩ := swapP_all n ps
    have e : (swapP ps).length = ps.length := by rw [swapP_map, List.length_map, List.length_reverse]
    refine ⟨?_, congrArg (· + 1) h2, h3, h4.cons n, ?_⟩
    · show (sk n && (okP (swapP ps) && !(swapP ps).isEmpty)) = (sk n && (okP ps && !ps.isEmpty))
      rw [h1]
      have : (swapP ps).isEmpty = ps.isEmpty := by
        cases ps with
        | nil => rfl
        | cons p ps =>
          show (swapP ps ++ [swapT p]).isEmpty = false
          simp
      rw [this]
    · show (rowsP n false (swapP ps) ++ [Row.cl n]).Perm (rowsP n false ps ++ [Row.cl n])
      exact h6.append_right _
termination_by structural l => l
theorem swapT_all : ∀ t : List Leaf, okT (swapT t) = okT t ∧ dpT (swapT t) = dpT t ∧ (lnsT (swapT t)).Perm (lnsT t) ∧ (ltsT (swapT t)).Perm (ltsT t) ∧ (rowsT (swapT t)).Perm (rowsT t)
  | [] => ⟨rfl, rfl, .refl _, .refl _, .refl _⟩
  | l :: t => by
    obtain ⟨a1, a2, a3, a4, a5⟩ := Leaf.swap_all l
    obtain ⟨b1, b2, b3, b4, b5⟩ := swapT_all t
    refine ⟨?_, ?_, a3.append b3, a4.append b4, a5.append b5⟩
    · show (l.swap.ok && okT (swapT t)) = (l.ok && okT t)
      rw [a1, b1]
    · show max l.swap.dp (dpT (swapT t)) = max l.dp (dpT t)
      rw [a2, b2]
termination_by structural l => l
theorem swapP_all (n : Str) : ∀ ps : List (List Leaf), okP (swapP ps) = okP ps ∧ dpP (swapP ps) = dpP ps ∧ (lnsP (swapP ps)).Perm (lnsP ps) ∧ (ltsP (swapP ps)).Perm (ltsP ps) ∧ (rowsP n true (swapP ps)).Perm (rowsP n true ps) ∧ (rowsP n false (swapP ps)).Perm (rowsP n false ps)
  | [] => ⟨rfl, rfl, .refl _, .refl _, .refl _, .refl _⟩
  | p :: ps => by
    obtain ⟨a1, a2, a3, a4, a5⟩ := swapT_all p
    obtain ⟨b1, b2, b3, b4, b5, b6⟩ := swapP_all n ps
    have e1 : okP [swapT p] = okT (swapT p) := by show (okT (swapT p) && true) = _; rw [Bool.and_true]
    have e2 : dpP [swapT p] = dpT (swapT p) := by show max (dpT (swapT p)) 0 = _; omega
    have e3 : lnsP [swapT p] = lnsT (swapT p) := by show lnsT (swapT p) ++ [] = _; rw [List.append_nil]
    have e4 : ltsP [swapT p] = ltsT (swapT p) := by show ltsT (swapT p) ++ [] = _; rw [List.append_nil]
    have e5 : ∀ b, rowsP n b [swapT p] = nxt b n :: rowsT (swapT p) := fun b => by show nxt b n :: (rowsT (swapT p) ++ []) = _; rw [List.append_nil]
    have tr : (rowsP n true (swapP ps ++ [swapT p])).Perm (rowsP n true (p :: ps)) := by
      rw [rowsP_app, e5]
      exact (List.perm_append_comm).trans ((a5.append b5).cons _)
    refine ⟨?_, ?_, ?_, ?_, tr, ?_⟩
    · show okP (swapP ps ++ [swapT p]) = (okT p && okP ps)
      rw [okP_app', e1, a1, b1, Bool.and_comm]
    · show dpP (swapP ps ++ [swapT p]) = max (dpT p) (dpP ps)
      rw [dpP_app', e2, a2, b2, Nat.max_comm]
    · show (lnsP (swapP ps ++ [swapT p])).Perm (lnsT p ++ lnsP ps)
      rw [lnsP_app, e3]
      exact (List.perm_append_comm).trans (a3.append b3)
    · show (ltsP (swapP ps ++ [swapT p])).Perm (ltsT p ++ ltsP ps)
      rw [ltsP_app, e4]
      exact (List.perm_append_comm).trans (a4.append b4)
    · have fl : ∀ qs : List (List Leaf), qs ≠ [] → (nxt true n :: rowsP n false qs).Perm (nxt false n :: rowsP n true qs) := by
        intro qs hq
        cases qs with
        | nil => exact absurd rfl hq
        | cons q qs => exact List.Perm.swap _ _ _
      have ne : swapP (p :: ps) ≠ [] := by
        show swapP ps ++ [swapT p] ≠ []
        simp
      have q1 := fl _ ne
      have q2 := fl (p :: ps) (by simp)
      exact List.Perm.cons_inv (q1.trans ((tr.cons _).trans q2.symm))
termination_by structural l => l
end
theorem TGood.swap {t : List Leaf} (h : TGood t) : TGood (swapT t) := by
  obtain ⟨h1, h2, _, _, h5⟩ := swapT_all t
  exact ⟨by rw [h1]; exact h.ok, by rw [h2]; exact h.dp, by rw [h5.length_eq]; exact h.rows⟩
theorem encPs_rev (ps : List (List Leaf)) : (encPs ps).reverse = encPs ps.reverse := by rw [encPs_map, encPs_map, List.map_reverse]
/-! ### swapped -/
section
variable {P : Pr} {m : Nat}
theorem sw_loop {g : G} {n : Nat} (hT : ∀ l : Leaf, callR g "is_text" [l.enc] = .ok (.bool (match l with | .line _ => true | .letter _ _ => false))) (hc : ∀ p, dpT p + 1 ≤ n → (rowsT p).length ≤ 1000000 → callR g "swapped" [.tuple (encT p)] = .ok (.tuple (encT (swapT p)))) :
    ∀ (t acc : List Leaf) (a0 : D) (x2 x3 : Option D), dpT t ≤ n → acc.length + (rowsT t).length ≤ 1000000 →
    ∃ y2 y3, forLoop (.nm 2) (exB g B.l1_swapped) (encT t) [some (.dat a0), some (.own (encT acc)), o2 x2, o2 x3] = .nx [some (.dat a0), some (.own (encT (acc ++ swapT t))), o2 y2, o2 y3]
  | [], acc, a0, x2, x3, _, _ => ⟨x2, x3, by rw [show swapT [] = [] from rfl, List.append_nil]; rfl⟩
  | .line s :: t, acc, a0, x2, x3, hd, hl => by
    have hd2 : dpT t ≤ n := Nat.le_trans (Nat.le_max_right _ _) hd
    have hl' : acc.length + ((rowsT t).length + 1) ≤ 1000000 := hl
    obtain ⟨y2, y3, ih⟩ := sw_loop hT hc t (acc ++ [.line s]) a0 (some (.str s)) x3 hd2 (by rw [List.length_append, List.length_singleton]; omega)
    have c1 := hT (.line s)
    rw [enc_ln] at c1
    have la : (encT acc).length ≤ 1000000 := by rw [encT_len]; omega
    refine ⟨y2, y3, ?_⟩
    rw [show swapT (.line s :: t) = .line s :: swapT t from rfl, show acc ++ .line s :: swapT t = (acc ++ [.line s]) ++ swapT t by rw [List.append_assoc]; rfl, ← ih, encT_cons, encT_app]
    simp (disch := (first | assumption | omega | (simp only [List.length_append, List.length_map, List.length_cons, List.length_nil, List.length_reverse, List.length_take, List.length_drop, List.length_singleton]; omega))) only [evs, strR_s, List.cons_append, List.nil_append, Bool.and_true, Bool.true_and, Bool.and_false, Bool.false_and, Bool.or_true, Bool.true_or, Bool.or_false, Bool.false_or, Bool.not_true, Bool.not_false, Bool.not_not, fl_nil, fl_cons, bnd_ok, aft_nx, aft_ct, aft_bk, aft_rt, aft_exc, wds, atI_0, atI_1, ixt_2, ixt_last, ixl_last, ixl_0, ixl_1, ex_seto, ex_app, ex_pop, ex_par, own_l, app_own, pop_own, par_ok, set_nil, set_cons, frz_nil, frz_cons, frz_own, frz_dat, frz_no, frz_o2, enum_nil, enum_cons, wipe_nil, wipe_cons, ex_forB, exB_cons, addT, addL, enc_line, enc_op, enc_nx, enc_cl, cut_to, cut_from, cut_from1, cut_from2, cut_fromS, cut_init, rev_tt, eq_ss, ne_ss, skw, ite_true_b, ite_false_b, beq_self_eq_true, if_true, if_false, Bool.false_eq_true, List.map_cons, List.map_nil, B.u_l1_swapped, enc_ln, c1]
    rfl
  | .letter nm ps :: t, acc, a0, x2, x3, hd, hl => by
    have hd1 : max (dpP ps + 1) (dpT t) ≤ n := hd
    have hd2 : dpT t ≤ n := Nat.le_trans (Nat.le_max_right _ _) hd1
    have hd3 : dpP ps + 1 ≤ n := Nat.le_trans (Nat.le_max_left _ _) hd1
    have hl' : acc.length + ((rowsP nm false ps).length + 1 + (rowsT t).length) ≤ 1000000 := by
      have : (rowsT (.letter nm ps :: t)).length = (rowsP nm false ps ++ [Row.cl nm]).length + (rowsT t).length := List.length_append
      rw [List.length_append, List.length_singleton] at this
      omega
    obtain ⟨y2, y3, ih⟩ := sw_loop hT hc t (acc ++ [.letter nm (swapP ps)]) a0 (some (Leaf.enc (.letter nm (swapP ps)))) x3 hd2 (by rw [List.length_append, List.length_singleton]; omega)
    have c1 := hT (.letter nm ps)
    rw [enc_lt] at c1
    have pl := rowsP_len nm ps false
    have e1 : ev g false B.c1_swapped [some (.dat a0), some (.own (encT acc)), some (.dat (Leaf.enc (.letter nm ps))), o2 x3] = .ok (.list (encPs (swapP ps))) := by
      have := ev_lcM (g := g) (env := [some (.dat a0), some (.own (encT acc)), some (.dat (Leaf.enc (.letter nm ps))), o2 x3]) (ws := [3]) (tg := .nm 3) (it := .sq (.rev (.ix (.slot 2) (.cst (.int 1))))) (e := .call "swapped" [.slot 3]) (xs := ps.reverse) (ec := fun p => .tuple (encT p)) (b := fun p => [some (.dat a0), some (.own (encT acc)), some (.dat (Leaf.enc (.letter nm ps))), some (.dat (.tuple (encT p)))]) (f := fun p => .tuple (encT (swapT p)))
        (by simp only [evs, strR_s, List.cons_append, List.nil_append, Bool.and_true, Bool.true_and, Bool.and_false, Bool.false_and, Bool.or_true, Bool.true_or, Bool.or_false, Bool.false_or, Bool.not_true, Bool.not_false, Bool.not_not, fl_nil, fl_cons, bnd_ok, aft_nx, aft_ct, aft_bk, aft_rt, aft_exc, wds, atI_0, atI_1, ixt_2, ixt_last, ixl_last, ixl_0, ixl_1, ex_seto, ex_app, ex_pop, ex_par, own_l, app_own, pop_own, par_ok, set_nil, set_cons, frz_nil, frz_cons, frz_own, frz_dat, frz_no, frz_o2, enum_nil, enum_cons, wipe_nil, wipe_cons, ex_forB, exB_cons, addT, addL, enc_line, enc_op, enc_nx, enc_cl, cut_to, cut_from, cut_from1, cut_from2, cut_fromS, cut_init, rev_tt, eq_ss, ne_ss, skw, ite_true_b, ite_false_b, beq_self_eq_true, if_true, if_false, Bool.false_eq_true, List.map_cons, List.map_nil, enc_lt, encPs_map, List.map_reverse]) (fun p hp => by simp only [evs, strR_s, List.cons_append, List.nil_append, Bool.and_true, Bool.true_and, Bool.and_false, Bool.false_and, Bool.or_true, Bool.true_or, Bool.or_false, Bool.false_or, Bool.not_true, Bool.not_false, Bool.not_not, fl_nil, fl_cons, bnd_ok, aft_nx, aft_ct, aft_bk, aft_rt, aft_exc, wds, atI_0, atI_1, ixt_2, ixt_last, ixl_last, ixl_0, ixl_1, ex_seto, ex_app, ex_pop, ex_par, own_l, app_own, pop_own, par_ok, set_nil, set_cons, frz_nil, frz_cons, frz_own, frz_dat, frz_no, frz_o2, enum_nil, enum_cons, wipe_nil, wipe_cons, ex_forB, exB_cons, addT, addL, enc_line, enc_op, enc_nx, enc_cl, cut_to, cut_from, cut_from1, cut_from2, cut_fromS, cut_init, rev_tt, eq_ss, ne_ss, skw, ite_true_b, ite_false_b, beq_self_eq_true, if_true, if_false, Bool.false_eq_true, List.map_cons, List.map_nil]) (fun p hp => by
          have hm := List.mem_reverse.mp hp
          have c2 := hc p (Nat.le_trans (Nat.succ_le_succ (dpP_mem hm)) hd3) (by have := rowsP_mem nm false hm; omega)
          simp only [evs, strR_s, List.cons_append, List.nil_append, Bool.and_true, Bool.true_and, Bool.and_false, Bool.false_and, Bool.or_true, Bool.true_or, Bool.or_false, Bool.false_or, Bool.not_true, Bool.not_false, Bool.not_not, fl_nil, fl_cons, bnd_ok, aft_nx, aft_ct, aft_bk, aft_rt, aft_exc, wds, atI_0, atI_1, ixt_2, ixt_last, ixl_last, ixl_0, ixl_1, ex_seto, ex_app, ex_pop, ex_par, own_l, app_own, pop_own, par_ok, set_nil, set_cons, frz_nil, frz_cons, frz_own, frz_dat, frz_no, frz_o2, enum_nil, enum_cons, wipe_nil, wipe_cons, ex_forB, exB_cons, addT, addL, enc_line, enc_op, enc_nx, enc_cl, cut_to, cut_from, cut_from1, cut_from2, cut_fromS, cut_init, rev_tt, eq_ss, ne_ss, skw, ite_true_b, ite_false_b, beq_self_eq_true, if_true, if_false, Bool.false_eq_true, List.map_cons, List.map_nil, c2]) (by rw [List.length_reverse]; simp only [lim]; omega)
      rw [B.c1_swapped, this, swapP_map, encPs_map, List.map_map]
      rfl
    have la : (encT acc).length ≤ 1000000 := by rw [encT_len]; omega
    refine ⟨y2, y3, ?_⟩
    rw [show swapT (.letter nm ps :: t) = .letter nm (swapP ps) :: swapT t from rfl, show acc ++ .letter nm (swapP ps) :: swapT t = (acc ++ [.letter nm (swapP ps)]) ++ swapT t by rw [List.append_assoc]; rfl, ← ih, encT_cons, encT_app]
    rw [enc_lt] at e1 ⊢
    simp (disch := (first | assumption | omega | (simp only [List.length_append, List.length_map, List.length_cons, List.length_nil, List.length_reverse, List.length_take, List.length_drop, List.length_singleton]; omega))) only [evs, strR_s, List.cons_append, List.nil_append, Bool.and_true, Bool.true_and, Bool.and_false, Bool.false_and, Bool.or_true, Bool.true_or, Bool.or_false, Bool.false_or, Bool.not_true, Bool.not_false, Bool.not_not, fl_nil, fl_cons, bnd_ok, aft_nx, aft_ct, aft_bk, aft_rt, aft_exc, wds, atI_0, atI_1, ixt_2, ixt_last, ixl_last, ixl_0, ixl_1, ex_seto, ex_app, ex_pop, ex_par, own_l, app_own, pop_own, par_ok, set_nil, set_cons, frz_nil, frz_cons, frz_own, frz_dat, frz_no, frz_o2, enum_nil, enum_cons, wipe_nil, wipe_cons, ex_forB, exB_cons, addT, addL, enc_line, enc_op, enc_nx, enc_cl, cut_to, cut_from, cut_from1, cut_from2, cut_fromS, cut_init, rev_tt, eq_ss, ne_ss, skw, ite_true_b, ite_false_b, beq_self_eq_true, if_true, if_false, Bool.false_eq_true, List.map_cons, List.map_nil, B.u_l1_swapped, c1, e1]
    rfl
theorem call_swapped (H : Has P "swapped" 1 4 B.swapped) (h : Has P "is_text" 1 1 B.is_text) : ∀ (n m : Nat) (t : List Leaf), dpT t ≤ n → (rowsT t).length ≤ 1000000 → callR (gOf P (m + n + 2)) "swapped" [.tuple (encT t)] = .ok (.tuple (encT (swapT t)))
  | n, m, t, hd, hl => by
    rw [H.body rfl]
    obtain ⟨y2, y3, q⟩ := sw_loop (n := n) (fun l => call_is_text (m := m + n) h l) (fun p h2 h3 => by
      match n, h2 with
      | n + 1, h2 => exact call_swapped H h n m p (Nat.le_of_succ_le_succ h2) h3) t [] (.tuple (encT t)) none none hd (by simpa using hl)
    rw [List.nil_append] at q
    simp only [evs, strR_s, List.cons_append, List.nil_append, Bool.and_true, Bool.true_and, Bool.and_false, Bool.false_and, Bool.or_true, Bool.true_or, Bool.or_false, Bool.false_or, Bool.not_true, Bool.not_false, Bool.not_not, fl_nil, fl_cons, bnd_ok, aft_nx, aft_ct, aft_bk, aft_rt, aft_exc, wds, atI_0, atI_1, ixt_2, ixt_last, ixl_last, ixl_0, ixl_1, ex_seto, ex_app, ex_pop, ex_par, own_l, app_own, pop_own, par_ok, set_nil, set_cons, frz_nil, frz_cons, frz_own, frz_dat, frz_no, frz_o2, enum_nil, enum_cons, wipe_nil, wipe_cons, ex_forB, exB_cons, addT, addL, enc_line, enc_op, enc_nx, enc_cl, cut_to, cut_from, cut_from1, cut_from2, cut_fromS, cut_init, rev_tt, eq_ss, ne_ss, skw, ite_true_b, ite_false_b, beq_self_eq_true, if_true, if_false, Bool.false_eq_true, List.map_cons, List.map_nil, B.swapped]
    rw [show [some (Sl.dat (.tuple (encT t))), some (Sl.own []), none, none] = [some (.dat (.tuple (encT t))), some (.own (encT [])), o2 none, o2 none] from rfl, q]
    simp only [evs, strR_s, List.cons_append, List.nil_append, Bool.and_true, Bool.true_and, Bool.and_false, Bool.false_and, Bool.or_true, Bool.true_or, Bool.or_false, Bool.false_or, Bool.not_true, Bool.not_false, Bool.not_not, fl_nil, fl_cons, bnd_ok, aft_nx, aft_ct, aft_bk, aft_rt, aft_exc, wds, atI_0, atI_1, ixt_2, ixt_last, ixl_last, ixl_0, ixl_1, ex_seto, ex_app, ex_pop, ex_par, own_l, app_own, pop_own, par_ok, set_nil, set_cons, frz_nil, frz_cons, frz_own, frz_dat, frz_no, frz_o2, enum_nil, enum_cons, wipe_nil, wipe_cons, ex_forB, exB_cons, addT, addL, enc_line, enc_op, enc_nx, enc_cl, cut_to, cut_from, cut_from1, cut_from2, cut_fromS, cut_init, rev_tt, eq_ss, ne_ss, skw, ite_true_b, ite_false_b, beq_self_eq_true, if_true, if_false, Bool.false_eq_true, List.map_cons, List.map_nil]
end
end Ev
/-! EvTg: parts and lines by their ways. -/
namespace Ev
open PySem PySem.Spec PyProof.Rows L2
/-! ### ways -/
def getI {α : Type} (xs : List α) (i : Int) : Option α := if 0 ≤ i then xs[i.toNat]? else none
theorem getI_cut {α : Type} {xs : List α} {i : Int} (h : ¬ (0 ≤ i ∧ i < xs.length)) : getI xs i = none := by
  unfold getI
  split
  · exact List.getElem?_eq_none (by omega)
  · rfl
theorem getI_some {α : Type} {xs : List α} {i : Int} (h0 : 0 ≤ i) (h1 : i < xs.length) : ∃ (k : Nat) (x : α), i = (k : Int) ∧ xs[k]? = some x ∧ getI xs i = some x := by
  refine ⟨i.toNat, xs[i.toNat]'(by omega), (Int.toNat_of_nonneg h0).symm, List.getElem?_eq_getElem _, ?_⟩
  unfold getI
  rw [if_pos h0, List.getElem?_eq_getElem (by omega)]
def partAt : List Int → List Leaf → Option (List Leaf)
  | [], t => some t
  | [_], _ => none
  | i :: j :: w, t => match getI t i with
    | some (.letter _ ps) => match getI ps j with
      | some p => partAt w p
      | none => none
    | _ => none
def ansP : Option (List Leaf) → R D
  | some p => .ok (.tuple (encT p))
  | none => .exc "NoPart"
theorem encPs_len (ps : List (List Leaf)) : (encPs ps).length = ps.length := by rw [encPs_map, List.length_map]
theorem encT_get {t : List Leaf} {k : Nat} {l : Leaf} (h : t[k]? = some l) : (encT t)[k]? = some l.enc := by rw [encT_map, List.getElem?_map, h]; rfl
theorem encPs_get {t : List (List Leaf)} {k : Nat} {p : List Leaf} (h : t[k]? = some p) : (encPs t)[k]? = some (.tuple (encT p)) := by rw [encPs_map, List.getElem?_map, h]; rfl
section
variable {P : Pr} {m : Nat}
theorem call_part_at (H : Has P "part_at" 2 3 B.part_at) (h : Has P "is_text" 1 1 B.is_text) : ∀ (n m : Nat) (w : List Int) (t : List Leaf), w.length ≤ n → callR (gOf P (m + n + 2)) "part_at" [.tuple (encT t), .tuple (w.map PyData.int)] = ansP (partAt w t)
  | n, m, [], t, hn => by
    rw [H.body rfl]
    simp (disch := (first | assumption | omega | (simp only [List.length_append, List.length_map, List.length_cons, List.length_nil, List.length_reverse, List.length_take, List.length_drop, List.length_singleton]; omega))) only [evs, strR_s, List.cons_append, List.nil_append, Bool.and_true, Bool.true_and, Bool.and_false, Bool.false_and, Bool.or_true, Bool.true_or, Bool.or_false, Bool.false_or, Bool.not_true, Bool.not_false, Bool.not_not, fl_nil, fl_cons, bnd_ok, aft_nx, aft_ct, aft_bk, aft_rt, aft_exc, wds, atI_0, atI_1, ixt_2, ixt_last, ixl_last, ixl_0, ixl_1, ex_seto, ex_app, ex_pop, ex_par, own_l, app_own, pop_own, par_ok, set_nil, set_cons, frz_nil, frz_cons, frz_own, frz_dat, frz_no, frz_o2, enum_nil, enum_cons, wipe_nil, wipe_cons, ex_forB, exB_cons, addT, addL, enc_line, enc_op, enc_nx, enc_cl, cut_to, cut_from, cut_from1, cut_from2, cut_fromS, cut_init, rev_tt, eq_ss, ne_ss, skw, ite_true_b, ite_false_b, beq_self_eq_true, if_true, if_false, Bool.false_eq_true, List.map_cons, List.map_nil, B.part_at]
    rfl
  | n, m, [i], t, hn => by
    rw [H.body rfl]
    simp (disch := (first | assumption | omega | (simp only [List.length_append, List.length_map, List.length_cons, List.length_nil, List.length_reverse, List.length_take, List.length_drop, List.length_singleton]; omega))) only [evs, strR_s, List.cons_append, List.nil_append, Bool.and_true, Bool.true_and, Bool.and_false, Bool.false_and, Bool.or_true, Bool.true_or, Bool.or_false, Bool.false_or, Bool.not_true, Bool.not_false, Bool.not_not, fl_nil, fl_cons, bnd_ok, aft_nx, aft_ct, aft_bk, aft_rt, aft_exc, wds, atI_0, atI_1, ixt_2, ixt_last, ixl_last, ixl_0, ixl_1, ex_seto, ex_app, ex_pop, ex_par, own_l, app_own, pop_own, par_ok, set_nil, set_cons, frz_nil, frz_cons, frz_own, frz_dat, frz_no, frz_o2, enum_nil, enum_cons, wipe_nil, wipe_cons, ex_forB, exB_cons, addT, addL, enc_line, enc_op, enc_nx, enc_cl, cut_to, cut_from, cut_from1, cut_from2, cut_fromS, cut_init, rev_tt, eq_ss, ne_ss, skw, ite_true_b, ite_false_b, beq_self_eq_true, if_true, if_false, Bool.false_eq_true, List.map_cons, List.map_nil, B.part_at, List.length_cons, List.length_nil]
    rfl
  | 0, m, i :: j :: w, t, hn => by simp at hn
  | n + 1, m, i :: j :: w, t, hn => by
    have hn' : w.length ≤ n := by simp only [List.length_cons] at hn; omega
    rw [H.body rfl]
    have l1 : decide ((((w.map PyData.int).length + 1 + 1 : Nat) : Int) = 0) = false := decide_eq_false (by omega)
    have l1' : ((((w.map PyData.int).length + 1 + 1 : Nat) : Int) == 0) = false := by rw [beq_eq_false_iff_ne]; omega
    have l2 : decide ((((w.map PyData.int).length + 1 + 1 : Nat) : Int) < 2) = false := decide_eq_false (by omega)
    have el := encT_len t
    by_cases hi : 0 ≤ i ∧ i < (t.length : Int)
    · obtain ⟨k, l, rfl, hk, hg⟩ := getI_some hi.1 hi.2
      have x1 := ixt_nat (encT_get hk)
      have c1 := call_is_text (m := m + (n + 1)) h l
      have d1 : decide ((0 : Int) ≤ (k : Int)) = true := decide_eq_true hi.1
      have d2 : decide ((k : Int) < ((encT t).length : Int)) = true := decide_eq_true (by rw [el]; exact hi.2)
      cases l with
      | line s =>
        have e : partAt ((k : Int) :: j :: w) t = none := by rw [partAt, hg]
        rw [e]
        rw [enc_ln] at c1 x1
        simp (disch := (first | assumption | omega | (simp only [List.length_append, List.length_map, List.length_cons, List.length_nil, List.length_reverse, List.length_take, List.length_drop, List.length_singleton]; omega))) only [evs, strR_s, List.cons_append, List.nil_append, Bool.and_true, Bool.true_and, Bool.and_false, Bool.false_and, Bool.or_true, Bool.true_or, Bool.or_false, Bool.false_or, Bool.not_true, Bool.not_false, Bool.not_not, fl_nil, fl_cons, bnd_ok, aft_nx, aft_ct, aft_bk, aft_rt, aft_exc, wds, atI_0, atI_1, ixt_2, ixt_last, ixl_last, ixl_0, ixl_1, ex_seto, ex_app, ex_pop, ex_par, own_l, app_own, pop_own, par_ok, set_nil, set_cons, frz_nil, frz_cons, frz_own, frz_dat, frz_no, frz_o2, enum_nil, enum_cons, wipe_nil, wipe_cons, ex_forB, exB_cons, addT, addL, enc_line, enc_op, enc_nx, enc_cl, cut_to, cut_from, cut_from1, cut_from2, cut_fromS, cut_init, rev_tt, eq_ss, ne_ss, skw, ite_true_b, ite_false_b, beq_self_eq_true, if_true, if_false, Bool.false_eq_true, List.map_cons, List.map_nil, B.part_at, List.length_cons, l1, l1', l2, x1, c1, d1, d2]
        rfl
      | letter nm ps =>
        rw [enc_lt] at c1 x1
        have ep := encPs_len ps
        by_cases hj : 0 ≤ j ∧ j < (ps.length : Int)
        · obtain ⟨k2, p, rfl, hk2, hg2⟩ := getI_some hj.1 hj.2
          have x2 := ixt_nat (encPs_get hk2)
          have d3 : decide ((0 : Int) ≤ (k2 : Int)) = true := decide_eq_true hj.1
          have d4 : decide ((k2 : Int) < ((encPs ps).length : Int)) = true := decide_eq_true (by rw [ep]; exact hj.2)
          have e : partAt ((k : Int) :: (k2 : Int) :: w) t = partAt w p := by rw [partAt, hg]; show (match getI ps (k2 : Int) with | some p => partAt w p | none => none) = _; rw [hg2]
          have ih := call_part_at H h n m w p hn'
          rw [e]
          simp (disch := (first | assumption | omega | (simp only [List.length_append, List.length_map, List.length_cons, List.length_nil, List.length_reverse, List.length_take, List.length_drop, List.length_singleton]; omega))) only [evs, strR_s, List.cons_append, List.nil_append, Bool.and_true, Bool.true_and, Bool.and_false, Bool.false_and, Bool.or_true, Bool.true_or, Bool.or_false, Bool.false_or, Bool.not_true, Bool.not_false, Bool.not_not, fl_nil, fl_cons, bnd_ok, aft_nx, aft_ct, aft_bk, aft_rt, aft_exc, wds, atI_0, atI_1, ixt_2, ixt_last, ixl_last, ixl_0, ixl_1, ex_seto, ex_app, ex_pop, ex_par, own_l, app_own, pop_own, par_ok, set_nil, set_cons, frz_nil, frz_cons, frz_own, frz_dat, frz_no, frz_o2, enum_nil, enum_cons, wipe_nil, wipe_cons, ex_forB, exB_cons, addT, addL, enc_line, enc_op, enc_nx, enc_cl, cut_to, cut_from, cut_from1, cut_from2, cut_fromS, cut_init, rev_tt, eq_ss, ne_ss, skw, ite_true_b, ite_false_b, beq_self_eq_true, if_true, if_false, Bool.false_eq_true, List.map_cons, List.map_nil, B.part_at, List.length_cons, l1, l1', l2, x1, c1, d1, d2, x2, d3, d4, List.drop_succ_cons, List.drop_zero]
          have ih' : callR (gOf P (m + (n + 1) + 1)) "part_at" [.tuple (encT p), .tuple (w.map PyData.int)] = ansP (partAt w p) := ih
          rw [ih']
          cases partAt w p <;> rfl
        · have e : partAt ((k : Int) :: j :: w) t = none := by rw [partAt, hg]; show (match getI ps j with | some p => partAt w p | none => none) = _; rw [getI_cut hj]
          have d3 : (decide ((0 : Int) ≤ j) && decide (j < ((encPs ps).length : Int))) = false := by
            rw [ep, Bool.eq_false_iff]
            intro z
            rw [Bool.and_eq_true, decide_eq_true_eq, decide_eq_true_eq] at z
            exact hj z
          rw [e]
          simp (disch := (first | assumption | omega | (simp only [List.length_append, List.length_map, List.length_cons, List.length_nil, List.length_reverse, List.length_take, List.length_drop, List.length_singleton]; omega))) only [evs, strR_s, List.cons_append, List.nil_append, Bool.and_true, Bool.true_and, Bool.and_false, Bool.false_and, Bool.or_true, Bool.true_or, Bool.or_false, Bool.false_or, Bool.not_true, Bool.not_false, Bool.not_not, fl_nil, fl_cons, bnd_ok, aft_nx, aft_ct, aft_bk, aft_rt, aft_exc, wds, atI_0, atI_1, ixt_2, ixt_last, ixl_last, ixl_0, ixl_1, ex_seto, ex_app, ex_pop, ex_par, own_l, app_own, pop_own, par_ok, set_nil, set_cons, frz_nil, frz_cons, frz_own, frz_dat, frz_no, frz_o2, enum_nil, enum_cons, wipe_nil, wipe_cons, ex_forB, exB_cons, addT, addL, enc_line, enc_op, enc_nx, enc_cl, cut_to, cut_from, cut_from1, cut_from2, cut_fromS, cut_init, rev_tt, eq_ss, ne_ss, skw, ite_true_b, ite_false_b, beq_self_eq_true, if_true, if_false, Bool.false_eq_true, List.map_cons, List.map_nil, B.part_at, List.length_cons, l1, l1', l2, x1, c1, d1, d2, d3]
          rfl
    · have e : partAt (i :: j :: w) t = none := by rw [partAt, getI_cut hi]
      have d3 : (decide ((0 : Int) ≤ i) && decide (i < ((encT t).length : Int))) = false := by
        rw [el, Bool.eq_false_iff]
        intro z
        rw [Bool.and_eq_true, decide_eq_true_eq, decide_eq_true_eq] at z
        exact hi z
      rw [e]
      simp (disch := (first | assumption | omega | (simp only [List.length_append, List.length_map, List.length_cons, List.length_nil, List.length_reverse, List.length_take, List.length_drop, List.length_singleton]; omega))) only [evs, strR_s, List.cons_append, List.nil_append, Bool.and_true, Bool.true_and, Bool.and_false, Bool.false_and, Bool.or_true, Bool.true_or, Bool.or_false, Bool.false_or, Bool.not_true, Bool.not_false, Bool.not_not, fl_nil, fl_cons, bnd_ok, aft_nx, aft_ct, aft_bk, aft_rt, aft_exc, wds, atI_0, atI_1, ixt_2, ixt_last, ixl_last, ixl_0, ixl_1, ex_seto, ex_app, ex_pop, ex_par, own_l, app_own, pop_own, par_ok, set_nil, set_cons, frz_nil, frz_cons, frz_own, frz_dat, frz_no, frz_o2, enum_nil, enum_cons, wipe_nil, wipe_cons, ex_forB, exB_cons, addT, addL, enc_line, enc_op, enc_nx, enc_cl, cut_to, cut_from, cut_from1, cut_from2, cut_fromS, cut_init, rev_tt, eq_ss, ne_ss, skw, ite_true_b, ite_false_b, beq_self_eq_true, if_true, if_false, Bool.false_eq_true, List.map_cons, List.map_nil, B.part_at, List.length_cons, l1, l1', l2, d3]
      rfl
end

/-! ### lines found -/
def isLn (x : Str) : Leaf → Bool
  | .line s => s == x
  | .letter _ _ => false
/-- a line of the tree itself -/
def hasLn (x : Str) (t : List Leaf) : Bool := t.any (isLn x)
mutual
def Leaf.fnd (x : Str) (i : Int) : Leaf → Option (List Int)
  | .line _ => none
  | .letter _ ps => fndP x i 0 ps
termination_by structural l => l
def fndL (x : Str) (i : Int) : List Leaf → Option (List Int)
  | [] => none
  | l :: t => (l.fnd x i).or (fndL x (i + 1) t)
termination_by structural l => l
def fndP (x : Str) (i j : Int) : List (List Leaf) → Option (List Int)
  | [] => none
  | p :: ps => ((if hasLn x p then some [] else fndL x 0 p).map fun w => i :: j :: w).or (fndP x i (j + 1) ps)
termination_by structural l => l
end
def fndT (x : Str) (t : List Leaf) : Option (List Int) := if hasLn x t then some [] else fndL x 0 t
theorem fndP_cons (x : Str) (i j : Int) (p : List Leaf) (ps : List (List Leaf)) : fndP x i j (p :: ps) = ((fndT x p).map fun w => i :: j :: w).or (fndP x i (j + 1) ps) := rfl
def encW : Option (List Int) → D
  | none => .none
  | some w => .tuple (w.map PyData.int)
mutual
theorem Leaf.fnd_len (x : Str) : ∀ (l : Leaf) (i : Int) (w : List Int), l.fnd x i = some w → w.length ≤ 2 * l.dp
  | .line _, i, w, h => by cases h
  | .letter n ps, i, w, h => by
    have := fndP_len x ps i 0 w h
    show w.length ≤ 2 * (dpP ps + 1)
    omega
termination_by structural l => l
theorem fndL_len (x : Str) : ∀ (t : List Leaf) (i : Int) (w : List Int), fndL x i t = some w → w.length ≤ 2 * dpT t
  | [], i, w, h => by cases h
  | l :: t, i, w, h => by
    have h' : (l.fnd x i).or (fndL x (i + 1) t) = some w := h
    show w.length ≤ 2 * max l.dp (dpT t)
    cases e : l.fnd x i with
    | some v =>
      rw [e] at h'
      cases h'
      have := Leaf.fnd_len x l i _ e
      omega
    | none =>
      rw [e] at h'
      have := fndL_len x t (i + 1) w h'
      omega
termination_by structural l => l
theorem fndP_len (x : Str) : ∀ (ps : List (List Leaf)) (i j : Int) (w : List Int), fndP x i j ps = some w → w.length ≤ 2 * dpP ps + 2
  | [], i, j, w, h => by cases h
  | p :: ps, i, j, w, h => by
    have h' : ((if hasLn x p then some [] else fndL x 0 p).map fun w => i :: j :: w).or (fndP x i (j + 1) ps) = some w := h
    show w.length ≤ 2 * max (dpT p) (dpP ps) + 2
    cases hp : hasLn x p with
    | true =>
      rw [hp, if_pos rfl] at h'
      have e : i :: j :: [] = w := Option.some.inj h'
      rw [← e]
      simp
    | false =>
      rw [hp, if_neg Bool.false_ne_true] at h'
      cases e : fndL x 0 p with
      | some v =>
        rw [e] at h'
        have e2 : i :: j :: v = w := Option.some.inj h'
        have := fndL_len x p 0 v e
        rw [← e2]
        simp only [List.length_cons]
        omega
      | none =>
        rw [e] at h'
        have := fndP_len x ps i (j + 1) w h'
        omega
termination_by structural l => l
end
theorem fndT_len {x : Str} {t : List Leaf} {w : List Int} (h : fndT x t = some w) : w.length ≤ 2 * dpT t := by
  unfold fndT at h
  split at h
  · cases h; simp
  · exact fndL_len x t 0 w h
theorem eqv_str (a b : Str) : PyData.eqv (.str a) (.str b) = (a == b) := by rw [PyData.eqv]
theorem tmL {n : Nat} {xs : List D} (h : Tm n (.tuple xs)) : Tm n (.list xs) := by cases n <;> exact h
/-- a text in a list of texts -/
theorem in_strs {x : Str} {ls : List Str} (hx : sk x = true) (h : ∀ s ∈ ls, sk s = true) (hl : ls.length ≤ 1000000) : cmpD .In (.str x) (.list (ls.map PyData.str)) = .ok (.bool (ls.contains x)) := by
  have s1 : shp (.str x) = true := (sk_tm (n := 0) hx).shp (by decide)
  have s2 : shp (.list (ls.map PyData.str)) = true := (tmL (strs_tm (n := 0) h hl)).shp (by decide)
  show (if shp (.str x) && shp (.list (ls.map PyData.str)) then R.ok (PyData.bool ((ls.map PyData.str).any fun z => PyData.eqv z (.str x))) else .bad) = _
  rw [s1, s2, Bool.and_true, if_pos rfl, List.any_map]
  congr 2
  rw [Bool.eq_iff_iff, List.any_eq_true, List.contains_iff_mem]
  constructor
  · rintro ⟨y, hy, e⟩
    have e' : (y == x) = true := (eqv_str y x).symm.trans e
    rw [beq_iff_eq] at e'
    rw [← e']; exact hy
  · intro hx
    exact ⟨x, hx, (eqv_str x x).trans (beq_self_eq_true x)⟩
/-- the lines of the tree itself -/
def lnsD : List Leaf → List Str
  | [] => []
  | .line s :: t => s :: lnsD t
  | .letter _ _ :: t => lnsD t
theorem lnsD_mem : ∀ (t : List Leaf) (s : Str), s ∈ lnsD t → s ∈ lnsT t
  | [], s, h => nomatch h
  | .line z :: t, s, h => by
    show s ∈ z :: lnsT t
    rcases List.mem_cons.mp (show s ∈ z :: lnsD t from h) with e | e
    · rw [e]; exact List.mem_cons_self
    · exact List.mem_cons_of_mem _ (lnsD_mem t s e)
  | .letter n ps :: t, s, h => List.mem_append_right _ (lnsD_mem t s h)
theorem lnsD_len : ∀ t : List Leaf, (lnsD t).length ≤ t.length
  | [] => Nat.le_refl _
  | .line s :: t => Nat.succ_le_succ (lnsD_len t)
  | .letter n ps :: t => Nat.le_succ_of_le (lnsD_len t)
theorem lnsD_has (x : Str) : ∀ t : List Leaf, (lnsD t).contains x = hasLn x t
  | [] => rfl
  | .line s :: t => by
    show (x == s || (lnsD t).contains x) = (s == x || hasLn x t)
    rw [lnsD_has x t, Bool.beq_comm]
  | .letter n ps :: t => by
    show (lnsD t).contains x = (false || hasLn x t)
    rw [lnsD_has x t, Bool.false_or]
theorem lnsD_filter : ∀ t : List Leaf, (t.filter fun l => !isLt l).map Leaf.enc = (lnsD t).map PyData.str
  | [] => rfl
  | .line s :: t => by
    rw [List.filter_cons, if_pos (show (!isLt (Leaf.line s)) = true from rfl), List.map_cons, lnsD_filter t]; rfl
  | .letter n ps :: t => by
    rw [List.filter_cons, if_neg (show ¬ (!isLt (Leaf.letter n ps)) = true from fun z => nomatch (show false = true from z)), lnsD_filter t]; rfl
section
variable {P : Pr} {m : Nat}
theorem isnot_w (o : Option (List Int)) : isD true (encW o) .none = .ok (.bool o.isSome) := by cases o <;> rfl
theorem fp_loop {g : G} {x : Str} (a0 : D) (i : Int) (a3 : D) : ∀ (ps : List (List Leaf)) (j : Int) (x4 x5 x6 : Option D), (∀ p ∈ ps, callR g "found" [.tuple (encT p), .str x] = .ok (encW (fndT x p)) ∧ 2 * dpT p ≤ 1000) →
    match fndP x i j ps with
    | some w => forLoop (.tp [.nm 4, .nm 5]) (exB g B.l2_found) (enumFrom j (encPs ps)) [some (.dat a0), some (.dat (.str x)), some (.dat (.int i)), some (.dat a3), o2 x4, o2 x5, o2 x6] = .rt (.tuple (w.map PyData.int))
    | none => ∃ y4 y5 y6, forLoop (.tp [.nm 4, .nm 5]) (exB g B.l2_found) (enumFrom j (encPs ps)) [some (.dat a0), some (.dat (.str x)), some (.dat (.int i)), some (.dat a3), o2 x4, o2 x5, o2 x6] = .nx [some (.dat a0), some (.dat (.str x)), some (.dat (.int i)), some (.dat a3), o2 y4, o2 y5, o2 y6]
  | [], j, x4, x5, x6, _ => ⟨x4, x5, x6, rfl⟩
  | p :: ps, j, x4, x5, x6, hc => by
    obtain ⟨c1, hb⟩ := hc p List.mem_cons_self
    rw [fndP_cons]
    cases e : fndT x p with
    | some w =>
      rw [e] at c1
      have hw := fndT_len e
      have hw' : (w.map PyData.int).length ≤ 1000 := by rw [List.length_map]; omega
      have q1 : isD true (.tuple (w.map PyData.int)) .none = .ok (.bool true) := rfl
      show forLoop _ _ _ _ = .rt (.tuple ((i :: j :: w).map PyData.int))
      have c2 : callR g "found" [.tuple (encT p), .str x] = .ok (.tuple (w.map PyData.int)) := c1
      rw [encPs_cons]
      simp (disch := (first | assumption | omega | (simp only [List.length_append, List.length_map, List.length_cons, List.length_nil, List.length_reverse, List.length_take, List.length_drop, List.length_singleton]; omega))) only [evs, strR_s, List.cons_append, List.nil_append, Bool.and_true, Bool.true_and, Bool.and_false, Bool.false_and, Bool.or_true, Bool.true_or, Bool.or_false, Bool.false_or, Bool.not_true, Bool.not_false, Bool.not_not, fl_nil, fl_cons, bnd_ok, aft_nx, aft_ct, aft_bk, aft_rt, aft_exc, wds, atI_0, atI_1, ixt_2, ixt_last, ixl_last, ixl_0, ixl_1, ex_seto, ex_app, ex_pop, ex_par, own_l, app_own, pop_own, par_ok, set_nil, set_cons, frz_nil, frz_cons, frz_own, frz_dat, frz_no, frz_o2, enum_nil, enum_cons, wipe_nil, wipe_cons, ex_forB, exB_cons, addT, addL, enc_line, enc_op, enc_nx, enc_cl, cut_to, cut_from, cut_from1, cut_from2, cut_fromS, cut_init, rev_tt, eq_ss, ne_ss, skw, ite_true_b, ite_false_b, beq_self_eq_true, if_true, if_false, Bool.false_eq_true, List.map_cons, List.map_nil, B.u_l2_found, c2, List.map_cons]
    | none =>
      rw [e] at c1
      have c2 : callR g "found" [.tuple (encT p), .str x] = .ok .none := c1
      have ih := fp_loop a0 i a3 ps (j + 1) (some (.int j)) (some (.tuple (encT p))) (some .none) (fun q hq => hc q (List.mem_cons_of_mem _ hq))
      show match fndP x i (j + 1) ps with
        | some w => _
        | none => _
      have st : ∀ r, forLoop (.tp [.nm 4, .nm 5]) (exB g B.l2_found) (enumFrom (j + 1) (encPs ps)) [some (.dat a0), some (.dat (.str x)), some (.dat (.int i)), some (.dat a3), o2 (some (.int j)), o2 (some (.tuple (encT p))), o2 (some .none)] = r →
          forLoop (.tp [.nm 4, .nm 5]) (exB g B.l2_found) (enumFrom j (encPs (p :: ps))) [some (.dat a0), some (.dat (.str x)), some (.dat (.int i)), some (.dat a3), o2 x4, o2 x5, o2 x6] = r := by
        intro r hr
        rw [← hr, encPs_cons]
        simp (disch := (first | assumption | omega | (simp only [List.length_append, List.length_map, List.length_cons, List.length_nil, List.length_reverse, List.length_take, List.length_drop, List.length_singleton]; omega))) only [evs, strR_s, List.cons_append, List.nil_append, Bool.and_true, Bool.true_and, Bool.and_false, Bool.false_and, Bool.or_true, Bool.true_or, Bool.or_false, Bool.false_or, Bool.not_true, Bool.not_false, Bool.not_not, fl_nil, fl_cons, bnd_ok, aft_nx, aft_ct, aft_bk, aft_rt, aft_exc, wds, atI_0, atI_1, ixt_2, ixt_last, ixl_last, ixl_0, ixl_1, ex_seto, ex_app, ex_pop, ex_par, own_l, app_own, pop_own, par_ok, set_nil, set_cons, frz_nil, frz_cons, frz_own, frz_dat, frz_no, frz_o2, enum_nil, enum_cons, wipe_nil, wipe_cons, ex_forB, exB_cons, addT, addL, enc_line, enc_op, enc_nx, enc_cl, cut_to, cut_from, cut_from1, cut_from2, cut_fromS, cut_init, rev_tt, eq_ss, ne_ss, skw, ite_true_b, ite_false_b, beq_self_eq_true, if_true, if_false, Bool.false_eq_true, List.map_cons, List.map_nil, B.u_l2_found, c2]
        rfl
      cases e2 : fndP x i (j + 1) ps with
      | some w => rw [e2] at ih; exact st _ ih
      | none =>
        rw [e2] at ih
        obtain ⟨y4, y5, y6, q⟩ := ih
        exact ⟨y4, y5, y6, st _ q⟩
theorem fl_loop {g : G} {x : Str} {n : Nat} (a0 : D) (hT : ∀ l : Leaf, callR g "is_text" [l.enc] = .ok (.bool (match l with | .line _ => true | .letter _ _ => false))) (hc : ∀ p, okT p = true → dpT p + 1 ≤ n → (rowsT p).length ≤ 1000000 → callR g "found" [.tuple (encT p), .str x] = .ok (encW (fndT x p))) (hn : n ≤ 100) :
    ∀ (t : List Leaf) (i : Int) (x2 x3 x4 x5 x6 : Option D), okT t = true → dpT t ≤ n → (rowsT t).length ≤ 1000000 →
    match fndL x i t with
    | some w => forLoop (.tp [.nm 2, .nm 3]) (exB g B.l1_found) (enumFrom i (encT t)) [some (.dat a0), some (.dat (.str x)), o2 x2, o2 x3, o2 x4, o2 x5, o2 x6] = .rt (.tuple (w.map PyData.int))
    | none => ∃ y2 y3 y4 y5 y6, forLoop (.tp [.nm 2, .nm 3]) (exB g B.l1_found) (enumFrom i (encT t)) [some (.dat a0), some (.dat (.str x)), o2 x2, o2 x3, o2 x4, o2 x5, o2 x6] = .nx [some (.dat a0), some (.dat (.str x)), o2 y2, o2 y3, o2 y4, o2 y5, o2 y6]
  | [], i, x2, x3, x4, x5, x6, _, _, _ => ⟨x2, x3, x4, x5, x6, rfl⟩
  | .line s :: t, i, x2, x3, x4, x5, x6, hok, hd, hr => by
    have hd2 : dpT t ≤ n := Nat.le_trans (Nat.le_max_right _ _) hd
    have hok2 : okT t = true := by
      have : (sk s && okT t) = true := hok
      rw [Bool.and_eq_true] at this
      exact this.2
    have hr2 : (rowsT t).length ≤ 1000000 := by
      have : (rowsT (.line s :: t)).length = (rowsT t).length + 1 := rfl
      omega
    have c1 := hT (.line s)
    rw [enc_ln] at c1
    have ih := fl_loop a0 hT hc hn t (i + 1) (some (.int i)) (some (.str s)) x4 x5 x6 hok2 hd2 hr2
    have st : ∀ r, forLoop (.tp [.nm 2, .nm 3]) (exB g B.l1_found) (enumFrom (i + 1) (encT t)) [some (.dat a0), some (.dat (.str x)), o2 (some (.int i)), o2 (some (.str s)), o2 x4, o2 x5, o2 x6] = r →
        forLoop (.tp [.nm 2, .nm 3]) (exB g B.l1_found) (enumFrom i (encT (.line s :: t))) [some (.dat a0), some (.dat (.str x)), o2 x2, o2 x3, o2 x4, o2 x5, o2 x6] = r := by
      intro r hr
      rw [← hr, encT_cons]
      simp (disch := (first | assumption | omega | (simp only [List.length_append, List.length_map, List.length_cons, List.length_nil, List.length_reverse, List.length_take, List.length_drop, List.length_singleton]; omega))) only [evs, strR_s, List.cons_append, List.nil_append, Bool.and_true, Bool.true_and, Bool.and_false, Bool.false_and, Bool.or_true, Bool.true_or, Bool.or_false, Bool.false_or, Bool.not_true, Bool.not_false, Bool.not_not, fl_nil, fl_cons, bnd_ok, aft_nx, aft_ct, aft_bk, aft_rt, aft_exc, wds, atI_0, atI_1, ixt_2, ixt_last, ixl_last, ixl_0, ixl_1, ex_seto, ex_app, ex_pop, ex_par, own_l, app_own, pop_own, par_ok, set_nil, set_cons, frz_nil, frz_cons, frz_own, frz_dat, frz_no, frz_o2, enum_nil, enum_cons, wipe_nil, wipe_cons, ex_forB, exB_cons, addT, addL, enc_line, enc_op, enc_nx, enc_cl, cut_to, cut_from, cut_from1, cut_from2, cut_fromS, cut_init, rev_tt, eq_ss, ne_ss, skw, ite_true_b, ite_false_b, beq_self_eq_true, if_true, if_false, Bool.false_eq_true, List.map_cons, List.map_nil, B.u_l1_found, enc_ln, c1]
      rfl
    show match fndL x (i + 1) t with
      | some w => _
      | none => _
    cases e2 : fndL x (i + 1) t with
    | some w => rw [e2] at ih; exact st _ ih
    | none =>
      rw [e2] at ih
      obtain ⟨y2, y3, y4, y5, y6, q⟩ := ih
      exact ⟨y2, y3, y4, y5, y6, st _ q⟩
  | .letter nm ps :: t, i, x2, x3, x4, x5, x6, hok, hd, hr => by
    have hd1 : max (dpP ps + 1) (dpT t) ≤ n := hd
    have hd2 : dpT t ≤ n := Nat.le_trans (Nat.le_max_right _ _) hd1
    have hd3 : dpP ps + 1 ≤ n := Nat.le_trans (Nat.le_max_left _ _) hd1
    have hok' : ((sk nm && (okP ps && !ps.isEmpty)) && okT t) = true := hok
    simp only [Bool.and_eq_true] at hok'
    have hr' : (rowsP nm false ps).length + 1 + (rowsT t).length ≤ 1000000 := by
      have : (rowsT (.letter nm ps :: t)).length = (rowsP nm false ps ++ [Row.cl nm]).length + (rowsT t).length := List.length_append
      rw [List.length_append, List.length_singleton] at this
      omega
    have c1 := hT (.letter nm ps)
    have q := fp_loop (g := g) (x := x) a0 i (Leaf.enc (.letter nm ps)) ps 0 x4 x5 x6 fun p hp => by
      have d1 := dpP_mem hp
      exact ⟨hc p (okP_mem.mp hok'.1.2.1 p hp) (by omega) (by have := rowsP_mem nm false hp; omega), by omega⟩
    rw [enc_lt] at c1 q
    show match (fndP x i 0 ps).or (fndL x (i + 1) t) with
      | some w => _
      | none => _
    cases e : fndP x i 0 ps with
    | some w =>
      rw [e] at q
      show forLoop _ _ _ _ = _
      rw [encT_cons, enc_lt]
      simp (disch := (first | assumption | omega | (simp only [List.length_append, List.length_map, List.length_cons, List.length_nil, List.length_reverse, List.length_take, List.length_drop, List.length_singleton]; omega))) only [evs, strR_s, List.cons_append, List.nil_append, Bool.and_true, Bool.true_and, Bool.and_false, Bool.false_and, Bool.or_true, Bool.true_or, Bool.or_false, Bool.false_or, Bool.not_true, Bool.not_false, Bool.not_not, fl_nil, fl_cons, bnd_ok, aft_nx, aft_ct, aft_bk, aft_rt, aft_exc, wds, atI_0, atI_1, ixt_2, ixt_last, ixl_last, ixl_0, ixl_1, ex_seto, ex_app, ex_pop, ex_par, own_l, app_own, pop_own, par_ok, set_nil, set_cons, frz_nil, frz_cons, frz_own, frz_dat, frz_no, frz_o2, enum_nil, enum_cons, wipe_nil, wipe_cons, ex_forB, exB_cons, addT, addL, enc_line, enc_op, enc_nx, enc_cl, cut_to, cut_from, cut_from1, cut_from2, cut_fromS, cut_init, rev_tt, eq_ss, ne_ss, skw, ite_true_b, ite_false_b, beq_self_eq_true, if_true, if_false, Bool.false_eq_true, List.map_cons, List.map_nil, B.u_l1_found, c1, q]
    | none =>
      rw [e] at q
      obtain ⟨z4, z5, z6, q⟩ := q
      have ih := fl_loop a0 hT hc hn t (i + 1) (some (.int i)) (some (Leaf.enc (.letter nm ps))) z4 z5 z6 hok'.2 hd2 (by omega)
      have st : ∀ r, forLoop (.tp [.nm 2, .nm 3]) (exB g B.l1_found) (enumFrom (i + 1) (encT t)) [some (.dat a0), some (.dat (.str x)), o2 (some (.int i)), o2 (some (Leaf.enc (.letter nm ps))), o2 z4, o2 z5, o2 z6] = r →
          forLoop (.tp [.nm 2, .nm 3]) (exB g B.l1_found) (enumFrom i (encT (.letter nm ps :: t))) [some (.dat a0), some (.dat (.str x)), o2 x2, o2 x3, o2 x4, o2 x5, o2 x6] = r := by
        intro r hr
        rw [← hr, encT_cons, enc_lt]
        simp (disch := (first | assumption | omega | (simp only [List.length_append, List.length_map, List.length_cons, List.length_nil, List.length_reverse, List.length_take, List.length_drop, List.length_singleton]; omega))) only [evs, strR_s, List.cons_append, List.nil_append, Bool.and_true, Bool.true_and, Bool.and_false, Bool.false_and, Bool.or_true, Bool.true_or, Bool.or_false, Bool.false_or, Bool.not_true, Bool.not_false, Bool.not_not, fl_nil, fl_cons, bnd_ok, aft_nx, aft_ct, aft_bk, aft_rt, aft_exc, wds, atI_0, atI_1, ixt_2, ixt_last, ixl_last, ixl_0, ixl_1, ex_seto, ex_app, ex_pop, ex_par, own_l, app_own, pop_own, par_ok, set_nil, set_cons, frz_nil, frz_cons, frz_own, frz_dat, frz_no, frz_o2, enum_nil, enum_cons, wipe_nil, wipe_cons, ex_forB, exB_cons, addT, addL, enc_line, enc_op, enc_nx, enc_cl, cut_to, cut_from, cut_from1, cut_from2, cut_fromS, cut_init, rev_tt, eq_ss, ne_ss, skw, ite_true_b, ite_false_b, beq_self_eq_true, if_true, if_false, Bool.false_eq_true, List.map_cons, List.map_nil, B.u_l1_found, c1, q]
        rfl
      show match fndL x (i + 1) t with
        | some w => _
        | none => _
      cases e2 : fndL x (i + 1) t with
      | some w => rw [e2] at ih; exact st _ ih
      | none =>
        rw [e2] at ih
        obtain ⟨y2, y3, y4, y5, y6, q⟩ := ih
        exact ⟨y2, y3, y4, y5, y6, st _ q⟩
theorem call_found (H : Has P "found" 2 7 B.found) (h : Has P "is_text" 1 1 B.is_text) {x : Str} (hx : sk x = true) : ∀ (n m : Nat) (t : List Leaf), n ≤ 100 → okT t = true → dpT t ≤ n → (rowsT t).length ≤ 1000000 → callR (gOf P (m + n + 2)) "found" [.tuple (encT t), .str x] = .ok (encW (fndT x t))
  | n, m, t, hn, hok, hd, hr => by
    rw [H.body rfl]
    have e1 : ev (gOf P (m + n + 1)) false B.c1_found [some (.dat (.tuple (encT t))), some (.dat (.str x)), none, none, none, none, none] = .ok (.list ((lnsD t).map PyData.str)) := by
      rw [← lnsD_filter]
      refine ev_lcT (ec := Leaf.enc) (b := fun l => [some (.dat (.tuple (encT t))), some (.dat (.str x)), none, some (.dat l.enc), none, none, none]) (by simp only [evs, strR_s, List.cons_append, List.nil_append, Bool.and_true, Bool.true_and, Bool.and_false, Bool.false_and, Bool.or_true, Bool.true_or, Bool.or_false, Bool.false_or, Bool.not_true, Bool.not_false, Bool.not_not, fl_nil, fl_cons, bnd_ok, aft_nx, aft_ct, aft_bk, aft_rt, aft_exc, wds, atI_0, atI_1, ixt_2, ixt_last, ixl_last, ixl_0, ixl_1, ex_seto, ex_app, ex_pop, ex_par, own_l, app_own, pop_own, par_ok, set_nil, set_cons, frz_nil, frz_cons, frz_own, frz_dat, frz_no, frz_o2, enum_nil, enum_cons, wipe_nil, wipe_cons, ex_forB, exB_cons, addT, addL, enc_line, enc_op, enc_nx, enc_cl, cut_to, cut_from, cut_from1, cut_from2, cut_fromS, cut_init, rev_tt, eq_ss, ne_ss, skw, ite_true_b, ite_false_b, beq_self_eq_true, if_true, if_false, Bool.false_eq_true, List.map_cons, List.map_nil, encT_map]) (fun l hl => by simp only [evs, strR_s, List.cons_append, List.nil_append, Bool.and_true, Bool.true_and, Bool.and_false, Bool.false_and, Bool.or_true, Bool.true_or, Bool.or_false, Bool.false_or, Bool.not_true, Bool.not_false, Bool.not_not, fl_nil, fl_cons, bnd_ok, aft_nx, aft_ct, aft_bk, aft_rt, aft_exc, wds, atI_0, atI_1, ixt_2, ixt_last, ixl_last, ixl_0, ixl_1, ex_seto, ex_app, ex_pop, ex_par, own_l, app_own, pop_own, par_ok, set_nil, set_cons, frz_nil, frz_cons, frz_own, frz_dat, frz_no, frz_o2, enum_nil, enum_cons, wipe_nil, wipe_cons, ex_forB, exB_cons, addT, addL, enc_line, enc_op, enc_nx, enc_cl, cut_to, cut_from, cut_from1, cut_from2, cut_fromS, cut_init, rev_tt, eq_ss, ne_ss, skw, ite_true_b, ite_false_b, beq_self_eq_true, if_true, if_false, Bool.false_eq_true, List.map_cons, List.map_nil]) (fun l hl => ?_) (fun l hl hk => by simp only [evs, strR_s, List.cons_append, List.nil_append, Bool.and_true, Bool.true_and, Bool.and_false, Bool.false_and, Bool.or_true, Bool.true_or, Bool.or_false, Bool.false_or, Bool.not_true, Bool.not_false, Bool.not_not, fl_nil, fl_cons, bnd_ok, aft_nx, aft_ct, aft_bk, aft_rt, aft_exc, wds, atI_0, atI_1, ixt_2, ixt_last, ixl_last, ixl_0, ixl_1, ex_seto, ex_app, ex_pop, ex_par, own_l, app_own, pop_own, par_ok, set_nil, set_cons, frz_nil, frz_cons, frz_own, frz_dat, frz_no, frz_o2, enum_nil, enum_cons, wipe_nil, wipe_cons, ex_forB, exB_cons, addT, addL, enc_line, enc_op, enc_nx, enc_cl, cut_to, cut_from, cut_from1, cut_from2, cut_fromS, cut_init, rev_tt, eq_ss, ne_ss, skw, ite_true_b, ite_false_b, beq_self_eq_true, if_true, if_false, Bool.false_eq_true, List.map_cons, List.map_nil]) (by have := len_rows t; simp only [lim]; omega)
      have c1 := call_is_text (m := m + n) h l
      simp only [evs, strR_s, List.cons_append, List.nil_append, Bool.and_true, Bool.true_and, Bool.and_false, Bool.false_and, Bool.or_true, Bool.true_or, Bool.or_false, Bool.false_or, Bool.not_true, Bool.not_false, Bool.not_not, fl_nil, fl_cons, bnd_ok, aft_nx, aft_ct, aft_bk, aft_rt, aft_exc, wds, atI_0, atI_1, ixt_2, ixt_last, ixl_last, ixl_0, ixl_1, ex_seto, ex_app, ex_pop, ex_par, own_l, app_own, pop_own, par_ok, set_nil, set_cons, frz_nil, frz_cons, frz_own, frz_dat, frz_no, frz_o2, enum_nil, enum_cons, wipe_nil, wipe_cons, ex_forB, exB_cons, addT, addL, enc_line, enc_op, enc_nx, enc_cl, cut_to, cut_from, cut_from1, cut_from2, cut_fromS, cut_init, rev_tt, eq_ss, ne_ss, skw, ite_true_b, ite_false_b, beq_self_eq_true, if_true, if_false, Bool.false_eq_true, List.map_cons, List.map_nil, c1]
      cases l <;> rfl
    have e2 := in_strs (x := x) (ls := lnsD t) hx (fun s hs => (lnsT_sk t hok).1 s (lnsD_mem t s hs)) (by have := lnsD_len t; have := len_rows t; omega)
    rw [lnsD_has] at e2
    have q := fl_loop (g := gOf P (m + n + 1)) (x := x) (n := n) (.tuple (encT t)) (fun l => call_is_text (m := m + n) h l) (fun p h1 h2 h3 => by
      match n, h2 with
      | n + 1, h2 => exact call_found H h hx n m p (by omega) h1 (Nat.le_of_succ_le_succ h2) h3) hn t 0 none none none none none hok hd hr
    unfold fndT
    cases hh : hasLn x t with
    | true =>
      rw [hh] at e2
      simp (disch := (first | assumption | omega | (simp only [List.length_append, List.length_map, List.length_cons, List.length_nil, List.length_reverse, List.length_take, List.length_drop, List.length_singleton]; omega))) only [evs, strR_s, List.cons_append, List.nil_append, Bool.and_true, Bool.true_and, Bool.and_false, Bool.false_and, Bool.or_true, Bool.true_or, Bool.or_false, Bool.false_or, Bool.not_true, Bool.not_false, Bool.not_not, fl_nil, fl_cons, bnd_ok, aft_nx, aft_ct, aft_bk, aft_rt, aft_exc, wds, atI_0, atI_1, ixt_2, ixt_last, ixl_last, ixl_0, ixl_1, ex_seto, ex_app, ex_pop, ex_par, own_l, app_own, pop_own, par_ok, set_nil, set_cons, frz_nil, frz_cons, frz_own, frz_dat, frz_no, frz_o2, enum_nil, enum_cons, wipe_nil, wipe_cons, ex_forB, exB_cons, addT, addL, enc_line, enc_op, enc_nx, enc_cl, cut_to, cut_from, cut_from1, cut_from2, cut_fromS, cut_init, rev_tt, eq_ss, ne_ss, skw, ite_true_b, ite_false_b, beq_self_eq_true, if_true, if_false, Bool.false_eq_true, List.map_cons, List.map_nil, B.found, e1, e2]
      rfl
    | false =>
      rw [hh] at e2
      rw [if_neg Bool.false_ne_true]
      cases e : fndL x 0 t with
      | some w =>
        rw [e] at q
        simp (disch := (first | assumption | omega | (simp only [List.length_append, List.length_map, List.length_cons, List.length_nil, List.length_reverse, List.length_take, List.length_drop, List.length_singleton]; omega))) only [evs, strR_s, List.cons_append, List.nil_append, Bool.and_true, Bool.true_and, Bool.and_false, Bool.false_and, Bool.or_true, Bool.true_or, Bool.or_false, Bool.false_or, Bool.not_true, Bool.not_false, Bool.not_not, fl_nil, fl_cons, bnd_ok, aft_nx, aft_ct, aft_bk, aft_rt, aft_exc, wds, atI_0, atI_1, ixt_2, ixt_last, ixl_last, ixl_0, ixl_1, ex_seto, ex_app, ex_pop, ex_par, own_l, app_own, pop_own, par_ok, set_nil, set_cons, frz_nil, frz_cons, frz_own, frz_dat, frz_no, frz_o2, enum_nil, enum_cons, wipe_nil, wipe_cons, ex_forB, exB_cons, addT, addL, enc_line, enc_op, enc_nx, enc_cl, cut_to, cut_from, cut_from1, cut_from2, cut_fromS, cut_init, rev_tt, eq_ss, ne_ss, skw, ite_true_b, ite_false_b, beq_self_eq_true, if_true, if_false, Bool.false_eq_true, List.map_cons, List.map_nil, B.found, e1, e2]
        rw [show [some (Sl.dat (.tuple (encT t))), some (Sl.dat (.str x)), none, none, none, none, none] = [some (.dat (.tuple (encT t))), some (.dat (.str x)), o2 none, o2 none, o2 none, o2 none, o2 none] from rfl, q]
        rfl
      | none =>
        rw [e] at q
        obtain ⟨y2, y3, y4, y5, y6, q⟩ := q
        simp (disch := (first | assumption | omega | (simp only [List.length_append, List.length_map, List.length_cons, List.length_nil, List.length_reverse, List.length_take, List.length_drop, List.length_singleton]; omega))) only [evs, strR_s, List.cons_append, List.nil_append, Bool.and_true, Bool.true_and, Bool.and_false, Bool.false_and, Bool.or_true, Bool.true_or, Bool.or_false, Bool.false_or, Bool.not_true, Bool.not_false, Bool.not_not, fl_nil, fl_cons, bnd_ok, aft_nx, aft_ct, aft_bk, aft_rt, aft_exc, wds, atI_0, atI_1, ixt_2, ixt_last, ixl_last, ixl_0, ixl_1, ex_seto, ex_app, ex_pop, ex_par, own_l, app_own, pop_own, par_ok, set_nil, set_cons, frz_nil, frz_cons, frz_own, frz_dat, frz_no, frz_o2, enum_nil, enum_cons, wipe_nil, wipe_cons, ex_forB, exB_cons, addT, addL, enc_line, enc_op, enc_nx, enc_cl, cut_to, cut_from, cut_from1, cut_from2, cut_fromS, cut_init, rev_tt, eq_ss, ne_ss, skw, ite_true_b, ite_false_b, beq_self_eq_true, if_true, if_false, Bool.false_eq_true, List.map_cons, List.map_nil, B.found, e1, e2]
        rw [show [some (Sl.dat (.tuple (encT t))), some (Sl.dat (.str x)), none, none, none, none, none] = [some (.dat (.tuple (encT t))), some (.dat (.str x)), o2 none, o2 none, o2 none, o2 none, o2 none] from rfl, q]
        simp only [evs, strR_s, List.cons_append, List.nil_append, Bool.and_true, Bool.true_and, Bool.and_false, Bool.false_and, Bool.or_true, Bool.true_or, Bool.or_false, Bool.false_or, Bool.not_true, Bool.not_false, Bool.not_not, fl_nil, fl_cons, bnd_ok, aft_nx, aft_ct, aft_bk, aft_rt, aft_exc, wds, atI_0, atI_1, ixt_2, ixt_last, ixl_last, ixl_0, ixl_1, ex_seto, ex_app, ex_pop, ex_par, own_l, app_own, pop_own, par_ok, set_nil, set_cons, frz_nil, frz_cons, frz_own, frz_dat, frz_no, frz_o2, enum_nil, enum_cons, wipe_nil, wipe_cons, ex_forB, exB_cons, addT, addL, enc_line, enc_op, enc_nx, enc_cl, cut_to, cut_from, cut_from1, cut_from2, cut_fromS, cut_init, rev_tt, eq_ss, ne_ss, skw, ite_true_b, ite_false_b, beq_self_eq_true, if_true, if_false, Bool.false_eq_true, List.map_cons, List.map_nil]
        rfl
end
end Ev
/-! EvK1: what is drawn is told; spoilt things. -/
namespace Ev
open PySem PySem.Spec PyProof.Rows L2
def wordTs : List Str := ["line", "open", "next", "close"]
def litTs : List Str := wordTs ++ nameTs ++ lineTs ++ leafTs
theorem litOk : ∀ z ∈ litTs, (decide (z.length ≤ 100) && PyData.strOk z) = true := by decide +kernel
theorem line_ok : ∀ z ∈ lineTs ++ leafTs, isLineS z = true := by decide +kernel
theorem name_ok : ∀ z ∈ nameTs, isNameS z = true := by decide +kernel
theorem tmS {n : Nat} {z : Str} (h : z ∈ litTs) : Tm n (.str z) := by
  have := litOk z h
  rw [Bool.and_eq_true, decide_eq_true_eq] at this
  cases n <;> exact ⟨lim2 (by omega), this.2⟩
theorem mem_line {z : Str} (h : z ∈ lineTs) : z ∈ litTs := by
  simp only [litTs, List.mem_append]; exact .inl (.inr h)
theorem mem_leaf {z : Str} (h : z ∈ leafTs) : z ∈ litTs := by
  simp only [litTs, List.mem_append]; exact .inr h
theorem mem_name {z : Str} (h : z ∈ nameTs) : z ∈ litTs := by
  simp only [litTs, List.mem_append]; exact .inl (.inl (.inr h))
theorem mem_word {z : Str} (h : z ∈ wordTs) : z ∈ litTs := by
  simp only [litTs, List.mem_append]; exact .inl (.inl (.inl h))
/-- built of tuples and few texts -/
def Src : Nat → D → Prop
  | _, .str z => z ∈ litTs
  | n + 1, .tuple xs => xs.length ≤ 14 ∧ ∀ x ∈ xs, Src n x
  | _, _ => False
theorem Src.tm : ∀ {n : Nat} {d : D}, Src n d → Tm n d
  | n, .str z, h => by
    have h' : z ∈ litTs := by cases n <;> exact h
    exact tmS h'
  | n + 1, .tuple xs, h => ⟨lim2 (by have := h.1; omega), fun x hx => Src.tm (h.2 x hx)⟩
  | 0, .tuple _, h => h.elim
  | n, .none, h => by cases n <;> exact h.elim
  | n, .bool _, h => by cases n <;> exact h.elim
  | n, .int _, h => by cases n <;> exact h.elim
  | n, .list _, h => by cases n <;> exact h.elim
  | n, .dict _, h => by cases n <;> exact h.elim
theorem Src.str {n : Nat} {z : Str} (h : z ∈ litTs) : Src n (.str z) := by cases n <;> exact h
theorem row_src {r : Row} (h : DRow r) : Src 1 r.enc := by
  have two : ∀ {a b : Str}, a ∈ litTs → b ∈ litTs → Src 1 (.tuple [.str a, .str b]) := fun ha hb =>
    ⟨(show 2 ≤ 14 by decide), fun x hx => by
      simp only [List.mem_cons, List.not_mem_nil, or_false] at hx
      rcases hx with rfl | rfl
      · exact ha
      · exact hb⟩
  cases r with
  | line s => exact two (mem_word (by decide +kernel)) (mem_line h)
  | op s => exact two (mem_word (by decide +kernel)) (mem_name h)
  | nx s => exact two (mem_word (by decide +kernel)) (mem_name h)
  | cl s => exact two (mem_word (by decide +kernel)) (mem_name h)
theorem rows_src {rs : List Row} (h : ∀ r ∈ rs, DRow r) (hl : rs.length ≤ 14) : Src 2 (.tuple (rs.map Row.enc)) :=
  ⟨by rw [List.length_map]; exact hl, fun x hx => by
    obtain ⟨r, hr, e⟩ := List.mem_map.mp hx
    rw [← e]; exact row_src (h r hr)⟩
theorem row_told {r : Row} (h : DRow r) : isRowD r.enc = true := by
  cases r with
  | line s =>
    show isRowD (.tuple [.str "line", .str s]) = true
    rw [isRowD, isLineD]
    rw [line_ok s (List.mem_append_left _ h), show PyData.eqv (.str "line") (.str "line") = true by decide +kernel, Bool.and_self, Bool.or_true]
  | op s =>
    show isRowD (.tuple [.str "open", .str s]) = true
    rw [isRowD, isBorderD, isStrD, isNameD]
    rw [name_ok s h, show inB (.str "open") = true by decide +kernel]
    rfl
  | nx s =>
    show isRowD (.tuple [.str "next", .str s]) = true
    rw [isRowD, isBorderD, isStrD, isNameD]
    rw [name_ok s h, show inB (.str "next") = true by decide +kernel]
    rfl
  | cl s =>
    show isRowD (.tuple [.str "close", .str s]) = true
    rw [isRowD, isBorderD, isStrD, isNameD]
    rw [name_ok s h, show inB (.str "close") = true by decide +kernel]
    rfl
theorem rows_told {rs : List Row} (h : ∀ r ∈ rs, DRow r) (hl : rs.length ≤ 14) : areRowsD (.tuple (rs.map Row.enc)) = true := by
  rw [areRowsD, List.length_map, decide_eq_true hl, Bool.true_and, List.all_map, List.all_eq_true]
  exact fun r hr => row_told (h r hr)
theorem LOk.src : ∀ (d : Nat) (l : Leaf), LOk d l → Src (3 * d) l.enc
  | 0, l, ⟨s, hs, e⟩ => by rw [e]; exact mem_leaf hs
  | d + 1, l, .inl ⟨s, hs, e⟩ => by rw [e]; exact Src.str (mem_leaf hs)
  | d + 1, l, .inr ⟨n, ps, e, hn, h1, h3, hp⟩ => by
    rw [e]
    show Src (3 * d + 1 + 1 + 1) (.tuple [.str n, .tuple (encPs ps)])
    refine ⟨(show 2 ≤ 14 by decide), fun x hx => ?_⟩
    simp only [List.mem_cons, List.not_mem_nil, or_false] at hx
    rcases hx with rfl | rfl
    · exact Src.str (mem_name hn)
    · refine ⟨by rw [encPs_map, List.length_map]; omega, fun x hx => ?_⟩
      rw [encPs_map] at hx
      obtain ⟨p, hpp, rfl⟩ := List.mem_map.mp hx
      obtain ⟨q1, q2⟩ := hp p hpp
      refine ⟨by rw [encT_len]; omega, fun x hx => ?_⟩
      rw [encT_map] at hx
      obtain ⟨y, hy, rfl⟩ := List.mem_map.mp hx
      exact LOk.src d y (q2 y hy)
theorem tree_src {d : Nat} {t : List Leaf} (h : DTree d t) : Src (3 * d + 1) (.tuple (encT t)) :=
  ⟨by rw [encT_len]; have := h.1; omega, fun x hx => by
    rw [encT_map] at hx
    obtain ⟨y, hy, rfl⟩ := List.mem_map.mp hx
    exact LOk.src d y (h.2 y hy)⟩
theorem LOk.told : ∀ (d n : Nat) (l : Leaf), LOk d l → d ≤ n → (isLineD l.enc || isLetterD (isTreeN n) l.enc) = true
  | 0, n, l, ⟨s, hs, e⟩, _ => by rw [e]; show (isLineS s || _) = true; rw [line_ok s (List.mem_append_right _ hs)]; rfl
  | d + 1, n, l, .inl ⟨s, hs, e⟩, _ => by rw [e]; show (isLineS s || _) = true; rw [line_ok s (List.mem_append_right _ hs)]; rfl
  | d + 1, n + 1, l, .inr ⟨nm, ps, e, hn, h1, h3, hp⟩, hd => by
    rw [e]
    show (_ || (isNameS nm && (decide (0 < (encPs ps).length) && (encPs ps).all (isTreeN (n + 1))))) = true
    rw [name_ok nm hn, encPs_map, List.length_map, decide_eq_true (show 0 < ps.length by omega)]
    rw [Bool.true_and, Bool.true_and, Bool.or_eq_true]
    refine .inr (List.all_eq_true.mpr fun x hx => ?_)
    obtain ⟨p, hpp, rfl⟩ := List.mem_map.mp hx
    show (encT p).all (fun l => isLineD l || isLetterD (isTreeN n) l) = true
    refine List.all_eq_true.mpr fun x hx => ?_
    rw [encT_map] at hx
    obtain ⟨y, hy, rfl⟩ := List.mem_map.mp hx
    exact LOk.told d n y ((hp p hpp).2 y hy) (by omega)
  | d + 1, 0, _, .inr _, hd => absurd hd (by omega)
theorem tree_told {d n : Nat} {t : List Leaf} (h : DTree d t) (hn : d ≤ n) : isTreeN (n + 1) (.tuple (encT t)) = true := by
  show (encT t).all (fun l => isLineD l || isLetterD (isTreeN n) l) = true
  refine List.all_eq_true.mpr fun x hx => ?_
  rw [encT_map] at hx
  obtain ⟨y, hy, rfl⟩ := List.mem_map.mp hx
  exact LOk.told d n y (h.2 y hy) hn
end Ev
/-! EvTp: lines found, lists sorted, trees told: plain facts. -/
namespace Ev
open PySem PySem.Spec PyProof.Rows L2
/-! ### found -/
mutual
theorem Leaf.fnd_iff (x : Str) : ∀ (l : Leaf) (i : Int), (l.fnd x i).isSome = (!isLn x l && decide (x ∈ l.lns))
  | .line s, i => by
    show false = (!(s == x) && decide (x ∈ [s]))
    cases h : (s == x) with
    | true => rfl
    | false =>
      rw [beq_eq_false_iff_ne] at h
      rw [decide_eq_false (fun z => h (List.mem_singleton.mp z).symm)]; rfl
  | .letter n ps, i => by
    show (fndP x i 0 ps).isSome = (!false && decide (x ∈ lnsP ps))
    rw [fndP_iff x ps i 0]; rfl
termination_by structural l => l
theorem fndL_iff (x : Str) : ∀ (t : List Leaf) (i : Int), hasLn x t = false → (fndL x i t).isSome = decide (x ∈ lnsT t)
  | [], i, h => (decide_eq_false (fun z => nomatch z)).symm
  | l :: t, i, h => by
    have h' : (isLn x l || hasLn x t) = false := h
    rw [Bool.or_eq_false_iff] at h'
    have q := fndL_iff x t (i + 1) h'.2
    have r := Leaf.fnd_iff x l i
    rw [h'.1] at r
    show ((l.fnd x i).or (fndL x (i + 1) t)).isSome = decide (x ∈ l.lns ++ lnsT t)
    rw [Option.isSome_or, q, r, Bool.not_false, Bool.true_and, Bool.eq_iff_iff, Bool.or_eq_true, decide_eq_true_eq, decide_eq_true_eq, decide_eq_true_eq, List.mem_append]
termination_by structural l => l
theorem fndP_iff (x : Str) : ∀ (ps : List (List Leaf)) (i j : Int), (fndP x i j ps).isSome = decide (x ∈ lnsP ps)
  | [], i, j => (decide_eq_false (fun z => nomatch z)).symm
  | p :: ps, i, j => by
    have q := fndP_iff x ps i (j + 1)
    show (((if hasLn x p then some [] else fndL x 0 p).map fun w => i :: j :: w).or (fndP x i (j + 1) ps)).isSome = decide (x ∈ lnsT p ++ lnsP ps)
    rw [Option.isSome_or, q, Option.isSome_map]
    cases hp : hasLn x p with
    | true =>
      rw [if_pos rfl]
      have : x ∈ lnsT p := by
        rw [← lnsD_has] at hp
        exact lnsD_mem p x (List.contains_iff_mem.mp hp)
      rw [decide_eq_true (List.mem_append_left _ this)]
      rfl
    | false =>
      rw [if_neg Bool.false_ne_true, fndL_iff x p 0 hp, Bool.eq_iff_iff, Bool.or_eq_true, decide_eq_true_eq, decide_eq_true_eq, decide_eq_true_eq, List.mem_append]
termination_by structural l => l
end
theorem fndT_iff (x : Str) (t : List Leaf) : (fndT x t).isSome = decide (x ∈ lnsT t) := by
  unfold fndT
  cases h : hasLn x t with
  | true =>
    rw [if_pos rfl]
    rw [← lnsD_has] at h
    rw [decide_eq_true (lnsD_mem t x (List.contains_iff_mem.mp h))]
    rfl
  | false => rw [if_neg Bool.false_ne_true, fndL_iff x t 0 h]
/-- a way that is found leads to a part with the line -/
theorem getI_nat {α : Type} {xs : List α} {k : Nat} : getI xs (k : Int) = xs[k]? := by
  unfold getI
  rw [if_pos (Int.natCast_nonneg k), Int.toNat_natCast]
theorem or_some {α : Type} {a b : Option α} {x : α} (h : a.or b = some x) : a = some x ∨ (a = none ∧ b = some x) := by
  cases a with
  | none => exact .inr ⟨rfl, h⟩
  | some y => exact .inl h
mutual
theorem Leaf.fnd_at (x : Str) : ∀ (l : Leaf) (i : Int) (w : List Int), l.fnd x i = some w → ∃ (n : Str) (ps : List (List Leaf)) (j : Nat) (v : List Int) (p q : List Leaf), l = .letter n ps ∧ w = i :: (j : Int) :: v ∧ ps[j]? = some p ∧ partAt v p = some q ∧ hasLn x q = true
  | .line _, i, w, h => by cases h
  | .letter n ps, i, w, h => by
    obtain ⟨k, v, p, q, h1, h2, h3, h4⟩ := fndP_at x ps i 0 w h
    exact ⟨n, ps, k, v, p, q, rfl, by rw [h1]; simp, h2, h3, h4⟩
termination_by structural l => l
theorem fndL_at (x : Str) : ∀ (t : List Leaf) (i : Nat) (w : List Int), fndL x (i : Int) t = some w → ∃ (k : Nat) (n : Str) (ps : List (List Leaf)) (j : Nat) (v : List Int) (p q : List Leaf), t[k]? = some (.letter n ps) ∧ w = ((i + k : Nat) : Int) :: (j : Int) :: v ∧ ps[j]? = some p ∧ partAt v p = some q ∧ hasLn x q = true
  | [], i, w, h => by cases h
  | l :: t, i, w, h => by
    have h' : (l.fnd x i).or (fndL x ((i : Int) + 1) t) = some w := h
    rcases or_some h' with e | ⟨_, e⟩
    · obtain ⟨n, ps, j, v, p, q, rfl, h1, h2, h3, h4⟩ := Leaf.fnd_at x l i w e
      exact ⟨0, n, ps, j, v, p, q, rfl, by rw [h1]; simp, h2, h3, h4⟩
    · obtain ⟨k, n, ps, j, v, p, q, h1, h2, h3⟩ := fndL_at x t (i + 1) w (by rw [← e]; rfl)
      exact ⟨k + 1, n, ps, j, v, p, q, by simpa using h1, by rw [h2]; congr 2; omega, h3⟩
termination_by structural l => l
theorem fndP_at (x : Str) : ∀ (ps : List (List Leaf)) (i : Int) (j : Nat) (w : List Int), fndP x i (j : Int) ps = some w → ∃ (k : Nat) (v : List Int) (p q : List Leaf), w = i :: ((j + k : Nat) : Int) :: v ∧ ps[k]? = some p ∧ partAt v p = some q ∧ hasLn x q = true
  | [], i, j, w, h => by cases h
  | p :: ps, i, j, w, h => by
    have h' : ((if hasLn x p then some [] else fndL x 0 p).map fun w => i :: (j : Int) :: w).or (fndP x i ((j : Int) + 1) ps) = some w := h
    rcases or_some h' with e | ⟨_, e⟩
    · cases hp : hasLn x p with
      | true =>
        rw [hp, if_pos rfl] at e
        have e2 : i :: (j : Int) :: [] = w := Option.some.inj e
        exact ⟨0, [], p, p, by rw [← e2]; simp, rfl, rfl, hp⟩
      | false =>
        rw [hp, if_neg Bool.false_ne_true] at e
        cases e2 : fndL x 0 p with
        | none => rw [e2] at e; cases e
        | some v =>
          rw [e2] at e
          have e3 : i :: (j : Int) :: v = w := Option.some.inj e
          obtain ⟨k, n, qs, j2, u, r, q, h1, h2, h3, h4, h5⟩ := fndL_at x p 0 v e2
          refine ⟨0, v, p, q, by rw [← e3]; simp, rfl, ?_, h5⟩
          rw [h2, Nat.zero_add, partAt, getI_nat, h1]
          show (match getI qs (j2 : Int) with | some p => partAt u p | none => none) = _
          rw [getI_nat, h3]
          exact h4
    · obtain ⟨k, v, p', q, h1, h2, h3⟩ := fndP_at x ps i (j + 1) w (by rw [← e]; rfl)
      exact ⟨k + 1, v, p', q, by rw [h1]; congr 3; omega, by simpa using h2, h3⟩
termination_by structural l => l
end
theorem fndT_at {x : Str} {t : List Leaf} {w : List Int} (h : fndT x t = some w) : ∃ q, partAt w t = some q ∧ hasLn x q = true := by
  unfold fndT at h
  cases hp : hasLn x t with
  | true =>
    rw [hp, if_pos rfl] at h
    cases h
    exact ⟨t, rfl, hp⟩
  | false =>
    rw [hp, if_neg Bool.false_ne_true] at h
    obtain ⟨k, n, qs, j2, u, r, q, h1, h2, h3, h4, h5⟩ := fndL_at x t 0 w h
    refine ⟨q, ?_, h5⟩
    rw [h2, Nat.zero_add, partAt, getI_nat, h1]
    show (match getI qs (j2 : Int) with | some p => partAt u p | none => none) = _
    rw [getI_nat, h3]
    exact h4
/-! ### sorting -/
theorem sorted_eq {α : Type} {le : α → α → Bool} : ∀ {l m : List α}, l.Perm m → l.Pairwise (fun a b => le a b = true) → m.Pairwise (fun a b => le a b = true) → (∀ a ∈ l, ∀ b ∈ l, le a b = true → le b a = true → a = b) → l = m
  | [], m, h, _, _, _ => (h.symm.eq_nil).symm
  | x :: l, [], h, _, _, _ => absurd h.length_eq (by simp)
  | x :: l, y :: m, h, hl, hm, ha => by
    have e : x = y := by
      have hx : x ∈ y :: m := h.mem_iff.mp List.mem_cons_self
      have hy : y ∈ x :: l := h.mem_iff.mpr List.mem_cons_self
      rcases List.mem_cons.mp hx with q | q
      · exact q
      rcases List.mem_cons.mp hy with r | r
      · exact r.symm
      exact ha x List.mem_cons_self y hy ((List.pairwise_cons.mp hl).1 y r) ((List.pairwise_cons.mp hm).1 x q)
    subst e
    rw [sorted_eq h.cons_inv (List.pairwise_cons.mp hl).2 (List.pairwise_cons.mp hm).2 fun a h1 b h2 => ha a (List.mem_cons_of_mem _ h1) b (List.mem_cons_of_mem _ h2)]
theorem srt_pw (ds : List D) : (srt ds).Pairwise fun a b => (!PySem.W.dataLt b a) = true :=
  PySem.W.sort_pairwise (PySem.W.sortLe_total (listOrd itemOrd) false fun d : D => PySem.W.keyToks d) ds
theorem le_toks {a b : D} (h1 : (!PySem.W.dataLt b a) = true) (h2 : (!PySem.W.dataLt a b) = true) : PySem.W.keyToks a = PySem.W.keyToks b := by
  rw [Bool.not_eq_true'] at h1 h2
  exact (listOrd itemOrd).total _ _ h2 h1
theorem srt_perm {xs ys : List D} (h : xs.Perm ys) (ha : ∀ a ∈ xs, ∀ b ∈ xs, PySem.W.keyToks a = PySem.W.keyToks b → a = b) : srt xs = srt ys := by
  have p1 : (srt xs).Perm xs := List.mergeSort_perm _ _
  have p2 : (srt ys).Perm ys := List.mergeSort_perm _ _
  exact sorted_eq ((p1.trans h).trans p2.symm) (srt_pw xs) (srt_pw ys) fun a h1 b h2 q1 q2 => ha a (p1.mem_iff.mp h1) b (p1.mem_iff.mp h2) (le_toks q1 q2)
/-- what is sorted already stays -/
theorem srt_self {xs : List D} (h : xs.Pairwise fun a b => (!PySem.W.dataLt b a) = true) : srt xs = xs := List.mergeSort_of_pairwise h
theorem strs_srtD (xs : List Str) : srtD (xs.map PyData.str) = .ok (.list (srt (xs.map PyData.str))) := by
  refine if_pos ?_
  have h1 : alks (xs.map PyData.str) = true := by
    unfold alks
    rw [List.all_eq_true]
    intro a ha
    rw [List.all_eq_true]
    intro b hb
    obtain ⟨z, _, rfl⟩ := List.mem_map.mp ha
    obtain ⟨y, _, rfl⟩ := List.mem_map.mp hb
    rfl
  have h2 : (xs.map PyData.str).all noTup = true := by
    rw [List.all_eq_true]
    intro a ha
    obtain ⟨z, _, rfl⟩ := List.mem_map.mp ha
    rfl
  have h3 : PyData.depthAll (xs.map PyData.str) ≤ 60 := by
    have : ∀ xs : List Str, PyData.depthAll (xs.map PyData.str) = 0 := by
      intro xs
      induction xs with
      | nil => rfl
      | cons x xs ih =>
        rw [List.map_cons, PyData.depthAll, ih]; rfl
    rw [this]; decide
  unfold srtable
  rw [h1, h2, decide_eq_true h3, Bool.or_true, Bool.true_or]
  rfl
theorem strs_srt {xs ys : List Str} (h : xs.Perm ys) : srt (xs.map PyData.str) = srt (ys.map PyData.str) := srt_perm (h.map _) fun a ha b hb e => by
  obtain ⟨z, _, rfl⟩ := List.mem_map.mp ha
  obtain ⟨y, _, rfl⟩ := List.mem_map.mp hb
  have e' : ([Sum.inr z.cps.toList] : List (Int ⊕ List Nat)) = [Sum.inr y.cps.toList] := e
  have e2 := Sum.inr.inj (List.cons.inj e').1
  exact congrArg PyData.str (Str.ext' (Array.toList_inj.mp e2))
theorem rows_srtD (xs : List Row) : srtD (xs.map Row.enc) = .ok (.list (srt (xs.map Row.enc))) := by
  refine if_pos ?_
  have h1 : alks (xs.map Row.enc) = true := by
    unfold alks
    rw [List.all_eq_true]
    intro a ha
    rw [List.all_eq_true]
    intro b hb
    obtain ⟨z, _, rfl⟩ := List.mem_map.mp ha
    obtain ⟨y, _, rfl⟩ := List.mem_map.mp hb
    cases z <;> cases y <;> rfl
  have h2 : (xs.map Row.enc).all neTup = true := by
    rw [List.all_eq_true]
    intro a ha
    obtain ⟨z, _, rfl⟩ := List.mem_map.mp ha
    cases z <;> rfl
  have h3 : PyData.depthAll (xs.map Row.enc) ≤ 60 := by
    have : ∀ xs : List Row, PyData.depthAll (xs.map Row.enc) ≤ 2 := by
      intro xs
      induction xs with
      | nil => decide
      | cons x xs ih =>
        rw [List.map_cons, PyData.depthAll]
        have : (Row.enc x).depth ≤ 2 := by cases x <;> exact (by decide : (2 : Nat) ≤ 2) |> fun _ => by simp [Row.enc, PyData.depth, PyData.depthAll]
        omega
    have := this xs
    omega
  unfold srtable
  rw [h1, h2, decide_eq_true h3, Bool.true_or, Bool.true_or]
  rfl
theorem rows_srt {xs ys : List Row} (h : xs.Perm ys) : srt (xs.map Row.enc) = srt (ys.map Row.enc) := srt_perm (h.map _) fun a ha b hb e => by
  obtain ⟨z, _, rfl⟩ := List.mem_map.mp ha
  obtain ⟨y, _, rfl⟩ := List.mem_map.mp hb
  have gen : ∀ a b c d : Str, PySem.W.keyToks (.tuple [.str a, .str b]) = PySem.W.keyToks (.tuple [.str c, .str d]) → (PyData.tuple [.str a, .str b]) = .tuple [.str c, .str d] := by
    intro a b c d e
    have e' : ([Sum.inl 1, Sum.inr a.cps.toList, Sum.inl 1, Sum.inr b.cps.toList, Sum.inl 0] : List (Int ⊕ List Nat)) = [Sum.inl 1, Sum.inr c.cps.toList, Sum.inl 1, Sum.inr d.cps.toList, Sum.inl 0] := e
    simp only [List.cons.injEq, Sum.inr.injEq, true_and, and_true] at e'
    have e1 : a = c := Str.ext' (Array.toList_inj.mp e'.1)
    have e2 : b = d := Str.ext' (Array.toList_inj.mp e'.2)
    rw [e1, e2]
  cases z <;> cases y <;> exact gen _ _ _ _ e
/-! ### is_tree of drawn ones -/
theorem leafTs_line : ∀ z ∈ leafTs, isLineS z = true := by decide +kernel
theorem nameTs_name : ∀ z ∈ nameTs, isNameS z = true := by decide +kernel
theorem LOk.isT : ∀ (d n : Nat) (l : Leaf), LOk d l → d ≤ n → (isLineD l.enc || isLetterD (isTreeN n) l.enc) = true
  | 0, n, l, h, _ => by
    obtain ⟨s, hs, rfl⟩ := h
    show (isLineS s || _) = true
    rw [leafTs_line s hs, Bool.true_or]
  | d + 1, 0, l, h, hn => absurd hn (by omega)
  | d + 1, n + 1, l, h, hn => by
    rcases h with ⟨s, hs, rfl⟩ | ⟨nm, ps, rfl, h1, h2, h3, h4⟩
    · show (isLineS s || _) = true
      rw [leafTs_line s hs, Bool.true_or]
    · show (false || (isNameS nm && (decide (0 < (encPs ps).length) && (encPs ps).all (isTreeN (n + 1))))) = true
      rw [nameTs_name nm h1, encPs_len, decide_eq_true (show 0 < ps.length by omega), Bool.true_and, Bool.true_and, Bool.false_or, encPs_map, List.all_map, List.all_eq_true]
      intro p hp
      show (encT p).all (fun l => isLineD l || isLetterD (isTreeN n) l) = true
      rw [encT_map, List.all_map, List.all_eq_true]
      intro l hl
      exact LOk.isT d n l ((h4 p hp).2 l hl) (by omega)
theorem told_tree {n d : Nat} {t : List Leaf} (h : ∀ l ∈ t, LOk d l) (hd : d ≤ n) : isTreeN (n + 1) (.tuple (encT t)) = true := by
  show (encT t).all (fun l => isLineD l || isLetterD (isTreeN n) l) = true
  rw [encT_map, List.all_map, List.all_eq_true]
  exact fun l hl => LOk.isT d n l (h l hl) hd
/-! ### parts of good trees -/
theorem TGood.part : ∀ (w : List Int) (t q : List Leaf), TGood t → partAt w t = some q → TGood q
  | [], t, q, h, e => by cases e; exact h
  | [_], t, q, h, e => by cases e
  | i :: j :: w, t, q, h, e => by
    have e' : (match getI t i with
      | some (.letter _ ps) => match getI ps j with
        | some p => partAt w p
        | none => none
      | _ => none) = some q := e
    split at e'
    · rename_i nm ps hg
      have hm : Leaf.letter nm ps ∈ t := by
        unfold getI at hg
        split at hg
        · exact List.mem_of_getElem? hg
        · cases hg
      cases hp : getI ps j with
      | none => rw [hp] at e'; cases e'
      | some p =>
        rw [hp] at e'
        have hpm : p ∈ ps := by
          unfold getI at hp
          split at hp
          · exact List.mem_of_getElem? hp
          · cases hp
        have hok : (sk nm && (okP ps && !ps.isEmpty)) = true := okT_mem.mp h.ok _ hm
        simp only [Bool.and_eq_true] at hok
        have r1 := rows_mem hm
        have r2 := rowsP_mem nm false hpm
        have r3 := lt_rows nm ps
        have d1 : (Leaf.letter nm ps).dp ≤ dpT t := dpT_mem hm
        have d1' : dpP ps + 1 ≤ dpT t := d1
        have d2 := dpP_mem hpm
        exact TGood.part w p q ⟨okP_mem.mp hok.2.1 p hpm, by have := h.dp; omega, by have := h.rows; omega⟩ e'
    · cases e'
theorem srt_tm {n : Nat} {xs : List D} (h : Tm (n + 1) (.tuple xs)) : Tm (n + 1) (.list (srt xs)) := by
  refine ⟨?_, fun x hx => h.2 x ((List.mergeSort_perm _ _).mem_iff.mp hx)⟩
  show (srt xs).length ≤ lim
  rw [show (srt xs).length = xs.length from (List.mergeSort_perm _ _).length_eq]
  exact h.1
theorem sorted_t (xs : List D) : bltD .sorted [.tuple xs] = srtD xs := rfl
theorem sorted_l (xs : List D) : bltD .sorted [.list xs] = srtD xs := rfl
/-- a text not in a list of texts -/
theorem notin_strs {x : Str} {ls : List Str} (hx : sk x = true) (h : ∀ s ∈ ls, sk s = true) (hl : ls.length ≤ 1000000) : cmpD .NotIn (.str x) (.list (ls.map PyData.str)) = .ok (.bool (!ls.contains x)) := by
  have q := in_strs hx h hl
  have s1 : shp (.str x) = true := (sk_tm (n := 0) hx).shp (by decide)
  have s2 : shp (.list (ls.map PyData.str)) = true := (tmL (strs_tm (n := 0) h hl)).shp (by decide)
  have q' : (if shp (.str x) && shp (.list (ls.map PyData.str)) then R.ok (PyData.bool ((ls.map PyData.str).any fun z => PyData.eqv z (.str x))) else .bad) = .ok (.bool (ls.contains x)) := q
  show (if shp (.str x) && shp (.list (ls.map PyData.str)) then R.ok (PyData.bool (!(ls.map PyData.str).any fun z => PyData.eqv z (.str x))) else .bad) = _
  rw [s1, s2, Bool.and_true, if_pos rfl] at q' ⊢
  have e := R.ok.inj q'
  rw [PyData.bool.inj e]
theorem notin_strsT {x : Str} {ls : List Str} (hx : sk x = true) (h : ∀ s ∈ ls, sk s = true) (hl : ls.length ≤ 1000000) : cmpD .NotIn (.str x) (.tuple (ls.map PyData.str)) = .ok (.bool (!ls.contains x)) := by
  rw [← notin_strs hx h hl]
  have s2 : shp (.list (ls.map PyData.str)) = true := (tmL (strs_tm (n := 0) h hl)).shp (by decide)
  have s3 : shp (.tuple (ls.map PyData.str)) = true := ((strs_tm (n := 0) h hl)).shp (by decide)
  show (if shp (.str x) && shp (.tuple (ls.map PyData.str)) then R.ok (PyData.bool (!(ls.map PyData.str).any fun z => PyData.eqv z (.str x))) else .bad) = (if shp (.str x) && shp (.list (ls.map PyData.str)) then R.ok (PyData.bool (!(ls.map PyData.str).any fun z => PyData.eqv z (.str x))) else .bad)
  rw [s2, s3]
theorem fnd_wrap (x n : Str) (t : List Leaf) : fndT x [.letter n [t]] = (fndT x t).map fun w => 0 :: 0 :: w := by
  show (if (false || false) = true then some [] else ((fndP x 0 0 [t]).or none)) = _
  rw [Bool.or_false, if_neg Bool.false_ne_true, fndP_cons]
  show (((fndT x t).map fun w => 0 :: 0 :: w).or none).or none = _
  rw [Option.or_none, Option.or_none]
theorem ways_tm {w : List Int} (h : w.length ≤ 1000) : Tm 1 (.tuple (w.map PyData.int)) := tm_map (n := 0) (fun x _ => trivial) (by simp only [lim]; omega)
/-- what is told of rows by their words -/
theorem rows_words : ∀ t : List Leaf, okT t = true → True := fun _ _ => trivial
def Row.isL : Row → Bool
  | .line _ => true
  | _ => false
def Row.isO : Row → Bool
  | .op _ => true
  | _ => false
def Row.tx : Row → Str
  | .line s => s
  | .op s => s
  | .nx s => s
  | .cl s => s
mutual
theorem Leaf.told_rows : ∀ (l : Leaf), l.ok = true → (l.rows.filter Row.isL).map Row.tx = l.lns ∧ (l.rows.filter Row.isO).map Row.tx = l.lts
  | .line s, _ => ⟨rfl, rfl⟩
  | .letter n ps, h => by
    have h' : (sk n && (okP ps && !ps.isEmpty)) = true := h
    simp only [Bool.and_eq_true, Bool.not_eq_true'] at h'
    obtain ⟨a1, a2⟩ := toldP_rows n ps h'.2.1
    cases ps with
    | nil => cases h'.2.2
    | cons p ps =>
      have e1 : (rowsP n false (p :: ps)).filter Row.isL = (rowsP n true (p :: ps)).filter Row.isL := rfl
      have e2 : (rowsP n false (p :: ps)).filter Row.isO = .op n :: (rowsP n true (p :: ps)).filter Row.isO := rfl
      constructor
      · show ((rowsP n false (p :: ps) ++ [Row.cl n]).filter Row.isL).map Row.tx = _
        rw [List.filter_append, e1, List.map_append, a1]
        exact List.append_nil _
      · show ((rowsP n false (p :: ps) ++ [Row.cl n]).filter Row.isO).map Row.tx = _
        rw [List.filter_append, e2, List.map_append, List.map_cons, a2]
        exact List.append_nil _
termination_by structural l => l
theorem toldT_rows : ∀ (t : List Leaf), okT t = true → ((rowsT t).filter Row.isL).map Row.tx = lnsT t ∧ ((rowsT t).filter Row.isO).map Row.tx = ltsT t
  | [], _ => ⟨rfl, rfl⟩
  | l :: t, h => by
    have h' : (l.ok && okT t) = true := h
    rw [Bool.and_eq_true] at h'
    obtain ⟨a1, a2⟩ := Leaf.told_rows l h'.1
    obtain ⟨b1, b2⟩ := toldT_rows t h'.2
    constructor
    · show ((l.rows ++ rowsT t).filter Row.isL).map Row.tx = l.lns ++ lnsT t
      rw [List.filter_append, List.map_append, a1, b1]
    · show ((l.rows ++ rowsT t).filter Row.isO).map Row.tx = l.lts ++ ltsT t
      rw [List.filter_append, List.map_append, a2, b2]
termination_by structural l => l
theorem toldP_rows (n : Str) : ∀ (ps : List (List Leaf)), okP ps = true → ((rowsP n true ps).filter Row.isL).map Row.tx = lnsP ps ∧ ((rowsP n true ps).filter Row.isO).map Row.tx = ltsP ps
  | [], _ => ⟨rfl, rfl⟩
  | p :: ps, h => by
    have h' : (okT p && okP ps) = true := h
    rw [Bool.and_eq_true] at h'
    obtain ⟨a1, a2⟩ := toldT_rows p h'.1
    obtain ⟨b1, b2⟩ := toldP_rows n ps h'.2
    constructor
    · show ((rowsT p ++ rowsP n true ps).filter Row.isL).map Row.tx = lnsT p ++ lnsP ps
      rw [List.filter_append, List.map_append, a1, b1]
    · show ((rowsT p ++ rowsP n true ps).filter Row.isO).map Row.tx = ltsT p ++ ltsP ps
      rw [List.filter_append, List.map_append, a2, b2]
termination_by structural l => l
end
end Ev
/-! EvWk: all ways into a tree. -/
namespace Ev
open PySem PySem.Spec PyProof.Rows L2
abbrev Pl := List Int × List Leaf
mutual
def Leaf.wlk (w : List Int) (i : Int) : Leaf → List Pl
  | .line _ => []
  | .letter _ ps => wlkP w i 0 ps
termination_by structural l => l
def wlkL (w : List Int) (i : Int) : List Leaf → List Pl
  | [] => []
  | l :: t => l.wlk w i ++ wlkL w (i + 1) t
termination_by structural l => l
def wlkP (w : List Int) (i j : Int) : List (List Leaf) → List Pl
  | [] => []
  | p :: ps => ((w ++ [i, j], p) :: wlkL (w ++ [i, j]) 0 p) ++ wlkP w i (j + 1) ps
termination_by structural l => l
end
def wlkT (w : List Int) (t : List Leaf) : List Pl := (w, t) :: wlkL w 0 t
theorem wlkP_cons (w : List Int) (i j : Int) (p : List Leaf) (ps : List (List Leaf)) : wlkP w i j (p :: ps) = wlkT (w ++ [i, j]) p ++ wlkP w i (j + 1) ps := rfl
def Pl.enc (x : Pl) : D := .tuple [.tuple (x.1.map PyData.int), .tuple (encT x.2)]
mutual
theorem Leaf.wlk_len : ∀ (l : Leaf) (w : List Int) (i : Int), (l.wlk w i).length + 1 ≤ l.rows.length
  | .line s, w, i => Nat.le_refl 1
  | .letter n ps, w, i => by
    have := wlkP_len n ps w i 0 false
    show (wlkP w i 0 ps).length + 1 ≤ (rowsP n false ps ++ [Row.cl n]).length
    rw [List.length_append, List.length_singleton]
    omega
termination_by structural l => l
theorem wlkL_len : ∀ (t : List Leaf) (w : List Int) (i : Int), (wlkL w i t).length ≤ (rowsT t).length
  | [], w, i => Nat.le_refl 0
  | l :: t, w, i => by
    have a := Leaf.wlk_len l w i
    have b := wlkL_len t w (i + 1)
    show (l.wlk w i ++ wlkL w (i + 1) t).length ≤ (l.rows ++ rowsT t).length
    rw [List.length_append, List.length_append]
    omega
termination_by structural l => l
theorem wlkP_len (n : Str) : ∀ (ps : List (List Leaf)) (w : List Int) (i j : Int) (b : Bool), (wlkP w i j ps).length ≤ (rowsP n b ps).length
  | [], w, i, j, b => Nat.le_refl 0
  | p :: ps, w, i, j, b => by
    have a := wlkL_len p (w ++ [i, j]) 0
    have c := wlkP_len n ps w i (j + 1) true
    show (((w ++ [i, j], p) :: wlkL (w ++ [i, j]) 0 p) ++ wlkP w i (j + 1) ps).length ≤ (nxt b n :: (rowsT p ++ rowsP n true ps)).length
    rw [List.length_append, List.length_cons, List.length_cons, List.length_append]
    omega
termination_by structural l => l
end
/-! ### what is there -/
def Rch (w : List Int) (t : List Leaf) (x : Pl) : Prop := ∃ u, x.1 = w ++ u ∧ partAt u t = some x.2 ∧ u.length / 2 + dpT x.2 ≤ dpT t ∧ u.length % 2 = 0
mutual
theorem Leaf.wlk_at : ∀ (l : Leaf) (w : List Int) (i : Int) (x : Pl), x ∈ l.wlk w i → ∃ (n : Str) (ps : List (List Leaf)) (j : Nat) (p : List Leaf) (u : List Int), l = .letter n ps ∧ ps[j]? = some p ∧ x.1 = w ++ (i :: (j : Int) :: u) ∧ partAt u p = some x.2 ∧ u.length / 2 + dpT x.2 ≤ dpT p ∧ u.length % 2 = 0
  | .line _, w, i, x, h => nomatch h
  | .letter n ps, w, i, x, h => by
    obtain ⟨k, p, u, h1, h2, h3⟩ := wlkP_at ps w i 0 x h
    exact ⟨n, ps, k, p, u, rfl, h1, by rw [h2]; simp, h3⟩
termination_by structural l => l
theorem wlkL_at : ∀ (t : List Leaf) (w : List Int) (i : Nat) (x : Pl), x ∈ wlkL w (i : Int) t → ∃ (k : Nat) (n : Str) (ps : List (List Leaf)) (j : Nat) (p : List Leaf) (u : List Int), t[k]? = some (.letter n ps) ∧ ps[j]? = some p ∧ x.1 = w ++ (((i + k : Nat) : Int) :: (j : Int) :: u) ∧ partAt u p = some x.2 ∧ u.length / 2 + dpT x.2 ≤ dpT p ∧ u.length % 2 = 0
  | [], w, i, x, h => nomatch h
  | l :: t, w, i, x, h => by
    rcases List.mem_append.mp (show x ∈ l.wlk w i ++ wlkL w ((i : Int) + 1) t from h) with e | e
    · obtain ⟨n, ps, j, p, u, rfl, h1, h2, h3⟩ := Leaf.wlk_at l w i x e
      exact ⟨0, n, ps, j, p, u, rfl, h1, by rw [h2]; simp, h3⟩
    · obtain ⟨k, n, ps, j, p, u, h1, h2, h3, h4⟩ := wlkL_at t w (i + 1) x (by exact e)
      exact ⟨k + 1, n, ps, j, p, u, by simpa using h1, h2, by rw [h3]; congr 2; omega, h4⟩
termination_by structural l => l
theorem wlkP_at : ∀ (ps : List (List Leaf)) (w : List Int) (i : Int) (j : Nat) (x : Pl), x ∈ wlkP w i (j : Int) ps → ∃ (k : Nat) (p : List Leaf) (u : List Int), ps[k]? = some p ∧ x.1 = w ++ (i :: ((j + k : Nat) : Int) :: u) ∧ partAt u p = some x.2 ∧ u.length / 2 + dpT x.2 ≤ dpT p ∧ u.length % 2 = 0
  | [], w, i, j, x, h => nomatch h
  | p :: ps, w, i, j, x, h => by
    rcases List.mem_append.mp (show x ∈ ((w ++ [i, (j : Int)], p) :: wlkL (w ++ [i, (j : Int)]) 0 p) ++ wlkP w i ((j : Int) + 1) ps from h) with e | e
    · rcases List.mem_cons.mp e with e | e
      · rw [e]
        exact ⟨0, p, [], rfl, by simp, rfl, by simp, rfl⟩
      · obtain ⟨k, n, qs, j2, q, u, h1, h2, h3, h4, h5, h6⟩ := wlkL_at p (w ++ [i, (j : Int)]) 0 x e
        refine ⟨0, p, (k : Int) :: (j2 : Int) :: u, rfl, by rw [h3]; simp, ?_, ?_, ?_⟩
        · rw [partAt, getI_nat, h1]
          show (match getI qs (j2 : Int) with | some p => partAt u p | none => none) = _
          rw [getI_nat, h2]
          exact h4
        · have d1 : (Leaf.letter n qs).dp ≤ dpT p := dpT_mem (List.mem_of_getElem? h1)
          have d1' : dpP qs + 1 ≤ dpT p := d1
          have d2 := dpP_mem (List.mem_of_getElem? h2)
          simp only [List.length_cons]
          omega
        · simp only [List.length_cons]
          omega
    · obtain ⟨k, q, u, h1, h2, h3⟩ := wlkP_at ps w i (j + 1) x (by exact e)
      exact ⟨k + 1, q, u, by simpa using h1, by rw [h2]; congr 3; omega, h3⟩
termination_by structural l => l
end
theorem wlkT_at {t : List Leaf} {x : Pl} (h : x ∈ wlkT [] t) : partAt x.1 t = some x.2 ∧ x.1.length / 2 + dpT x.2 ≤ dpT t ∧ x.1.length % 2 = 0 := by
  rcases List.mem_cons.mp h with e | e
  · rw [e]; exact ⟨rfl, by simp, rfl⟩
  · obtain ⟨k, n, qs, j2, q, u, h1, h2, h3, h4, h5, h6⟩ := wlkL_at t [] 0 x e
    have e1 : x.1 = (k : Int) :: (j2 : Int) :: u := by rw [h3]; simp
    have d1 : (Leaf.letter n qs).dp ≤ dpT t := dpT_mem (List.mem_of_getElem? h1)
    have d1' : dpP qs + 1 ≤ dpT t := d1
    have d2 := dpP_mem (List.mem_of_getElem? h2)
    refine ⟨?_, ?_, ?_⟩
    · rw [e1, partAt, getI_nat, h1]
      show (match getI qs (j2 : Int) with | some p => partAt u p | none => none) = _
      rw [getI_nat, h2]
      exact h4
    · rw [e1]; simp only [List.length_cons]; omega
    · rw [e1]; simp only [List.length_cons]; omega
theorem partAt_app : ∀ (w m : List Int) (t p : List Leaf), partAt w t = some p → partAt (w ++ m) t = partAt m p
  | [], m, t, p, h => by cases h; rfl
  | [_], m, t, p, h => by cases h
  | i :: j :: w, m, t, p, h => by
    have h' : (match getI t i with
      | some (.letter _ ps) => match getI ps j with
        | some p => partAt w p
        | none => none
      | _ => none) = some p := h
    show (match getI t i with
      | some (.letter _ ps) => match getI ps j with
        | some p => partAt (w ++ m) p
        | none => none
      | _ => none) = _
    split at h'
    · rename_i n ps hg
      cases hp : getI ps j with
      | none => rw [hp] at h'; cases h'
      | some q =>
        rw [hp] at h'
        exact partAt_app w m q p h'
    · cases h'
/-! ### the deepest -/
mutual
theorem Leaf.wlk_top : ∀ (l : Leaf) (w : List Int) (i : Int), l.ok = true → l.dp = 0 ∨ ∃ x ∈ l.wlk w i, x.1.length = w.length + 2 * l.dp
  | .line s, w, i, h => .inl rfl
  | .letter n ps, w, i, h => by
    have h' : (sk n && (okP ps && !ps.isEmpty)) = true := h
    simp only [Bool.and_eq_true, Bool.not_eq_true'] at h'
    rcases wlkP_top ps w i 0 h'.2.1 with e | e
    · rw [e] at h'; exact nomatch h'.2.2
    · exact .inr e
termination_by structural l => l
theorem wlkL_top : ∀ (t : List Leaf) (w : List Int) (i : Int), okT t = true → dpT t = 0 ∨ ∃ x ∈ wlkL w i t, x.1.length = w.length + 2 * dpT t
  | [], w, i, h => .inl rfl
  | l :: t, w, i, h => by
    have h' : (l.ok && okT t) = true := h
    rw [Bool.and_eq_true] at h'
    have a := Leaf.wlk_top l w i h'.1
    have b := wlkL_top t w (i + 1) h'.2
    show max l.dp (dpT t) = 0 ∨ ∃ x ∈ l.wlk w i ++ wlkL w (i + 1) t, x.1.length = w.length + 2 * max l.dp (dpT t)
    by_cases hc : dpT t ≤ l.dp
    · rw [Nat.max_eq_left hc]
      rcases a with a | ⟨x, hx, e⟩
      · exact .inl a
      · exact .inr ⟨x, List.mem_append_left _ hx, e⟩
    · rw [Nat.max_eq_right (by omega)]
      rcases b with b | ⟨x, hx, e⟩
      · exact .inl b
      · exact .inr ⟨x, List.mem_append_right _ hx, e⟩
termination_by structural l => l
theorem wlkP_top : ∀ (ps : List (List Leaf)) (w : List Int) (i j : Int), okP ps = true → ps = [] ∨ ∃ x ∈ wlkP w i j ps, x.1.length = w.length + 2 * (dpP ps + 1)
  | [], w, i, j, h => .inl rfl
  | p :: ps, w, i, j, h => by
    have h' : (okT p && okP ps) = true := h
    rw [Bool.and_eq_true] at h'
    have a := wlkL_top p (w ++ [i, j]) 0 h'.1
    have b := wlkP_top ps w i (j + 1) h'.2
    refine .inr ?_
    show ∃ x ∈ ((w ++ [i, j], p) :: wlkL (w ++ [i, j]) 0 p) ++ wlkP w i (j + 1) ps, x.1.length = w.length + 2 * (max (dpT p) (dpP ps) + 1)
    have hw : (w ++ [i, j]).length = w.length + 2 := by rw [List.length_append]; rfl
    by_cases hc : dpP ps ≤ dpT p
    · rw [Nat.max_eq_left hc]
      rcases a with a | ⟨x, hx, e⟩
      · exact ⟨(w ++ [i, j], p), List.mem_append_left _ List.mem_cons_self, by rw [hw]; omega⟩
      · exact ⟨x, List.mem_append_left _ (List.mem_cons_of_mem _ hx), by rw [e, hw]; omega⟩
    · rw [Nat.max_eq_right (by omega)]
      rcases b with b | ⟨x, hx, e⟩
      · rw [b] at hc; exact absurd (Nat.zero_le _) hc
      · exact ⟨x, List.mem_append_right _ hx, e⟩
termination_by structural l => l
end
theorem wlkT_top {t : List Leaf} (h : okT t = true) : ∃ x ∈ wlkT [] t, x.1.length / 2 = dpT t := by
  rcases wlkL_top t [] 0 h with e | ⟨x, hx, e⟩
  · exact ⟨([], t), List.mem_cons_self, by simp [e]⟩
  · exact ⟨x, List.mem_cons_of_mem _ hx, by rw [e]; simp⟩
/-! ### in order -/
theorem lt_pre : ∀ (w x y : List Int), x < y → w ++ x < w ++ y
  | [], x, y, h => h
  | a :: w, x, y, h => List.cons_lt_cons_iff.mpr (.inr ⟨rfl, lt_pre w x y h⟩)
theorem lt_ext (w : List Int) (i : Int) (u : List Int) : w < w ++ (i :: u) := by
  have := lt_pre w [] (i :: u) (List.nil_lt_cons _ _)
  rwa [List.append_nil] at this
theorem lt_fst (w : List Int) {i k : Int} (u v : List Int) (h : i < k) : w ++ (i :: u) < w ++ (k :: v) := lt_pre w _ _ (List.cons_lt_cons_iff.mpr (.inl h))
theorem lt_snd (w : List Int) (i : Int) {j k : Int} (u v : List Int) (h : j < k) : w ++ (i :: j :: u) < w ++ (i :: k :: v) := lt_pre w _ _ (List.cons_lt_cons_iff.mpr (.inr ⟨rfl, List.cons_lt_cons_iff.mpr (.inl h)⟩))
theorem wlkP_frm (ps : List (List Leaf)) (w : List Int) (i : Int) (j : Nat) (x : Pl) (h : x ∈ wlkP w i (j : Int) ps) : ∃ (k : Nat) (u : List Int), x.1 = w ++ (i :: (k : Int) :: u) ∧ j ≤ k := by
  obtain ⟨k, p, u, _, h2, _⟩ := wlkP_at ps w i j x h
  exact ⟨j + k, u, h2, Nat.le_add_right _ _⟩
theorem wlkL_frm (t : List Leaf) (w : List Int) (i : Nat) (x : Pl) (h : x ∈ wlkL w (i : Int) t) : ∃ (k : Nat) (u : List Int), x.1 = w ++ ((k : Int) :: u) ∧ i ≤ k := by
  obtain ⟨k, n, ps, j, p, u, _, _, h3, _⟩ := wlkL_at t w i x h
  exact ⟨i + k, (j : Int) :: u, h3, Nat.le_add_right _ _⟩
mutual
theorem Leaf.wlk_pw : ∀ (l : Leaf) (w : List Int) (i : Nat), (l.wlk w (i : Int)).Pairwise fun a b => a.1 < b.1
  | .line s, w, i => List.Pairwise.nil
  | .letter n ps, w, i => wlkP_pw ps w i 0
termination_by structural l => l
theorem wlkL_pw : ∀ (t : List Leaf) (w : List Int) (i : Nat), (wlkL w (i : Int) t).Pairwise fun a b => a.1 < b.1
  | [], w, i => List.Pairwise.nil
  | l :: t, w, i => by
    have a := Leaf.wlk_pw l w i
    have b := wlkL_pw t w (i + 1)
    show (l.wlk w (i : Int) ++ wlkL w ((i : Int) + 1) t).Pairwise _
    rw [List.pairwise_append]
    refine ⟨a, b, fun x hx y hy => ?_⟩
    obtain ⟨n, ps, j, p, u, _, _, e1, _⟩ := Leaf.wlk_at l w i x hx
    obtain ⟨k, v, e2, hk⟩ := wlkL_frm t w (i + 1) y (by exact hy)
    rw [e1, e2]
    exact lt_fst w _ _ (by omega)
termination_by structural l => l
theorem wlkP_pw : ∀ (ps : List (List Leaf)) (w : List Int) (i : Int) (j : Nat), (wlkP w i (j : Int) ps).Pairwise fun a b => a.1 < b.1
  | [], w, i, j => List.Pairwise.nil
  | p :: ps, w, i, j => by
    have a := wlkL_pw p (w ++ [i, (j : Int)]) 0
    have b := wlkP_pw ps w i (j + 1)
    show (((w ++ [i, (j : Int)], p) :: wlkL (w ++ [i, (j : Int)]) ((0 : Nat) : Int) p) ++ wlkP w i ((j : Int) + 1) ps).Pairwise _
    rw [List.pairwise_append]
    refine ⟨List.pairwise_cons.mpr ⟨fun x hx => ?_, a⟩, b, fun x hx y hy => ?_⟩
    · obtain ⟨k, u, e, _⟩ := wlkL_frm p _ 0 x hx
      rw [e]
      exact lt_ext _ _ _
    · obtain ⟨k, v, e2, hk⟩ := wlkP_frm ps w i (j + 1) y (by exact hy)
      have e1 : ∃ u, x.1 = w ++ (i :: (j : Int) :: u) := by
        rcases List.mem_cons.mp hx with e | e
        · rw [e]; exact ⟨[], rfl⟩
        · obtain ⟨k, u, e, _⟩ := wlkL_frm p _ 0 x e
          exact ⟨(k : Int) :: u, by rw [e]; simp⟩
      obtain ⟨u, e1⟩ := e1
      rw [e1, e2]
      exact lt_snd w i _ _ (by omega)
termination_by structural l => l
end
theorem wlkT_pw (t : List Leaf) : (wlkT [] t).Pairwise fun a b => a.1 < b.1 := by
  refine List.pairwise_cons.mpr ⟨fun x hx => ?_, wlkL_pw t [] 0⟩
  obtain ⟨k, u, e, _⟩ := wlkL_frm t [] 0 x hx
  rw [e]
  exact lt_ext [] _ _
theorem lt_data (x y : List Int) : PySem.W.dataLt (.tuple (x.map PyData.int)) (.tuple (y.map PyData.int)) = decide (x < y) := by
  rw [PySem.W.dataLt_tuple]
  exact PySem.W.dataLt_ints x y
theorem ways_srt {l : List Pl} (h : l.Pairwise fun a b => a.1 < b.1) : srt (l.map fun x => PyData.tuple (x.1.map PyData.int)) = l.map fun x => PyData.tuple (x.1.map PyData.int) := by
  refine srt_self ?_
  rw [List.pairwise_map]
  refine h.imp fun {a b} hab => ?_
  rw [lt_data, decide_eq_false (fun z => absurd (List.lt_trans hab z) (List.lt_irrefl _))]
  rfl
theorem ways_srtD {l : List Pl} (h : l.Pairwise fun a b => a.1 < b.1) (hn : l = [] ∨ (∃ x r, l = x :: r ∧ ∀ y ∈ r, y.1 ≠ [])) : srtD (l.map fun x => PyData.tuple (x.1.map PyData.int)) = .ok (.list (l.map fun x => PyData.tuple (x.1.map PyData.int))) := by
  rw [← ways_srt h]
  rw [ways_srt h]
  have e := ways_srt h
  have h1 : alks (l.map fun x => PyData.tuple (x.1.map PyData.int)) = true := by
    unfold alks
    rw [List.all_eq_true]
    intro a ha
    rw [List.all_eq_true]
    intro b hb
    obtain ⟨z, _, rfl⟩ := List.mem_map.mp ha
    obtain ⟨y, _, rfl⟩ := List.mem_map.mp hb
    exact PySem.W.alike_ints _ _
  have h3 : PyData.depthAll (l.map fun x => PyData.tuple (x.1.map PyData.int)) ≤ 60 := by
    have : ∀ l : List Pl, PyData.depthAll (l.map fun x => PyData.tuple (x.1.map PyData.int)) ≤ 1 := by
      intro l
      induction l with
      | nil => exact Nat.zero_le _
      | cons x l ih =>
        rw [List.map_cons, PyData.depthAll, PyData.depth, PySem.W.depth_ints]
        omega
    have := this l
    omega
  have h2 : srtable (l.map fun x => PyData.tuple (x.1.map PyData.int)) = true := by
    unfold srtable
    rcases hn with rfl | ⟨x, r, rfl, hr⟩
    · rfl
    · have hr' : (r.map fun x => PyData.tuple (x.1.map PyData.int)).all neTup = true := by
        rw [List.all_eq_true]
        intro a ha
        obtain ⟨z, hz, rfl⟩ := List.mem_map.mp ha
        have := hr z hz
        match hw : z.1, this with
        | i :: w, _ => rfl
      have hr2 : (r.map fun x => PyData.tuple (x.1.map PyData.int)).all isTupD = true := by
        rw [List.all_eq_true]
        intro a ha
        obtain ⟨z, hz, rfl⟩ := List.mem_map.mp ha
        rfl
      rw [List.map_cons]
      match hw : x.1 with
      | [] =>
        show (_ || _ || (r.map fun x => PyData.tuple (x.1.map PyData.int)).all isTupD) = true
        rw [hr2, Bool.or_true]
      | i :: w =>
        rw [List.all_cons, hr']
        rfl
  unfold srtD
  rw [h1, h2, decide_eq_true h3, Bool.and_true, Bool.and_true, if_pos rfl, e]
/-! ### the first way to a line -/
def hasX (x : Str) (y : Pl) : Bool := hasLn x y.2
mutual
theorem Leaf.fnd_wlk (x : Str) : ∀ (l : Leaf) (w : List Int) (i : Int), (l.fnd x i).map (w ++ ·) = ((l.wlk w i).filter (hasX x)).head?.map (·.1)
  | .line s, w, i => rfl
  | .letter n ps, w, i => fndP_wlk x ps w i 0
termination_by structural l => l
theorem fndL_wlk (x : Str) : ∀ (t : List Leaf) (w : List Int) (i : Int), (fndL x i t).map (w ++ ·) = ((wlkL w i t).filter (hasX x)).head?.map (·.1)
  | [], w, i => rfl
  | l :: t, w, i => by
    have a := Leaf.fnd_wlk x l w i
    have b := fndL_wlk x t w (i + 1)
    show ((l.fnd x i).or (fndL x (i + 1) t)).map (w ++ ·) = ((l.wlk w i ++ wlkL w (i + 1) t).filter (hasX x)).head?.map (·.1)
    rw [List.filter_append, List.head?_append, Option.map_or, Option.map_or, a, b]
termination_by structural l => l
theorem fndP_wlk (x : Str) : ∀ (ps : List (List Leaf)) (w : List Int) (i j : Int), (fndP x i j ps).map (w ++ ·) = ((wlkP w i j ps).filter (hasX x)).head?.map (·.1)
  | [], w, i, j => rfl
  | p :: ps, w, i, j => by
    have a := fndL_wlk x p (w ++ [i, j]) 0
    have b := fndP_wlk x ps w i (j + 1)
    show (((if hasLn x p then some [] else fndL x 0 p).map fun w => i :: j :: w).or (fndP x i (j + 1) ps)).map (w ++ ·) = ((((w ++ [i, j], p) :: wlkL (w ++ [i, j]) 0 p) ++ wlkP w i (j + 1) ps).filter (hasX x)).head?.map (·.1)
    rw [List.filter_append, List.head?_append, Option.map_or, Option.map_or, b, Option.map_map]
    congr 1
    rw [List.filter_cons]
    cases hp : hasLn x p with
    | true =>
      rw [if_pos rfl, if_pos (show hasX x (w ++ [i, j], p) = true from hp)]
      rfl
    | false =>
      rw [if_neg Bool.false_ne_true, if_neg (show ¬ hasX x (w ++ [i, j], p) = true by rw [show hasX x (w ++ [i, j], p) = false from hp]; exact Bool.false_ne_true), ← a]
      congr 1
      funext v
      show w ++ (i :: j :: v) = (w ++ [i, j]) ++ v
      rw [List.append_assoc]
      rfl
termination_by structural l => l
end
theorem fndT_wlk (x : Str) (t : List Leaf) : fndT x t = ((wlkT [] t).filter (hasX x)).head?.map (·.1) := by
  have a := fndL_wlk x t [] 0
  rw [show (fun v : List Int => [] ++ v) = id from rfl, Option.map_id, id] at a
  unfold fndT wlkT
  rw [List.filter_cons]
  cases hp : hasLn x t with
  | true =>
    rw [if_pos rfl, if_pos (show hasX x ([], t) = true from hp)]
    rfl
  | false =>
    rw [if_neg Bool.false_ne_true, if_neg (show ¬ hasX x ([], t) = true by rw [show hasX x ([], t) = false from hp]; exact Bool.false_ne_true)]
    exact a
/-! ### how many -/
def ltP (x : Pl) : List Leaf := x.2.filter isLt
def nP : Leaf → Nat
  | .line _ => 0
  | .letter _ ps => ps.length
def sP (l : List Leaf) : Nat := (l.map nP).sum
theorem sP_app (a b : List Leaf) : sP (a ++ b) = sP a + sP b := by unfold sP; rw [List.map_append, List.sum_append]
mutual
theorem Leaf.cntW : ∀ (l : Leaf) (w : List Int) (i : Int), ([l].filter isLt).length + ((l.wlk w i).flatMap ltP).length = l.lts.length ∧ (l.wlk w i).length = sP ([l].filter isLt) + sP ((l.wlk w i).flatMap ltP)
  | .line s, w, i => ⟨rfl, rfl⟩
  | .letter n ps, w, i => by
    obtain ⟨a, b⟩ := cntPW ps w i 0
    constructor
    · show 1 + ((wlkP w i 0 ps).flatMap ltP).length = (ltsP ps).length + 1
      omega
    · show (wlkP w i 0 ps).length = (ps.length + 0) + sP ((wlkP w i 0 ps).flatMap ltP)
      omega
termination_by structural l => l
theorem cntLW : ∀ (t : List Leaf) (w : List Int) (i : Int), (t.filter isLt).length + ((wlkL w i t).flatMap ltP).length = (ltsT t).length ∧ (wlkL w i t).length = sP (t.filter isLt) + sP ((wlkL w i t).flatMap ltP)
  | [], w, i => ⟨rfl, rfl⟩
  | l :: t, w, i => by
    obtain ⟨a, b⟩ := Leaf.cntW l w i
    obtain ⟨c, d⟩ := cntLW t w (i + 1)
    have e : (l :: t).filter isLt = [l].filter isLt ++ t.filter isLt := by rw [← List.filter_append]; rfl
    constructor
    · show ((l :: t).filter isLt).length + ((l.wlk w i ++ wlkL w (i + 1) t).flatMap ltP).length = (l.lts ++ ltsT t).length
      rw [e, List.flatMap_append, List.length_append, List.length_append, List.length_append]
      omega
    · show (l.wlk w i ++ wlkL w (i + 1) t).length = sP ((l :: t).filter isLt) + sP ((l.wlk w i ++ wlkL w (i + 1) t).flatMap ltP)
      rw [e, List.flatMap_append, List.length_append, sP_app, sP_app]
      omega
termination_by structural l => l
theorem cntPW : ∀ (ps : List (List Leaf)) (w : List Int) (i j : Int), ((wlkP w i j ps).flatMap ltP).length = (ltsP ps).length ∧ (wlkP w i j ps).length = ps.length + sP ((wlkP w i j ps).flatMap ltP)
  | [], w, i, j => ⟨rfl, rfl⟩
  | p :: ps, w, i, j => by
    obtain ⟨a, b⟩ := cntLW p (w ++ [i, j]) 0
    obtain ⟨c, d⟩ := cntPW ps w i (j + 1)
    constructor
    · show ((((w ++ [i, j], p) :: wlkL (w ++ [i, j]) 0 p) ++ wlkP w i (j + 1) ps).flatMap ltP).length = (ltsT p ++ ltsP ps).length
      rw [List.flatMap_append, List.flatMap_cons, List.length_append, List.length_append, List.length_append]
      have : (ltP (w ++ [i, j], p)).length = (p.filter isLt).length := rfl
      omega
    · show (((w ++ [i, j], p) :: wlkL (w ++ [i, j]) 0 p) ++ wlkP w i (j + 1) ps).length = (ps.length + 1) + sP ((((w ++ [i, j], p) :: wlkL (w ++ [i, j]) 0 p) ++ wlkP w i (j + 1) ps).flatMap ltP)
      rw [List.flatMap_append, List.flatMap_cons, List.length_append, List.length_cons, sP_app, sP_app]
      have : sP (ltP (w ++ [i, j], p)) = sP (p.filter isLt) := rfl
      omega
termination_by structural l => l
end
theorem cntTW (t : List Leaf) : ((wlkT [] t).flatMap ltP).length = (ltsT t).length ∧ (wlkT [] t).length = 1 + sP ((wlkT [] t).flatMap ltP) := by
  obtain ⟨a, b⟩ := cntLW t [] 0
  unfold wlkT
  rw [List.flatMap_cons, List.length_append, List.length_cons, sP_app]
  have e1 : (ltP ([], t)).length = (t.filter isLt).length := rfl
  have e2 : sP (ltP ([], t)) = sP (t.filter isLt) := rfl
  omega
/-! ### the law's walk -/
section
variable {P : Pr} {m : Nat}
theorem lw_parts {g : G} {w : List Int} (hw : w.length ≤ 100) (i : Nat) (a0 a4 : D) : ∀ (ps : List (List Leaf)) (acc : List Pl) (j : Int) (x5 x6 : Option D),
    (∀ p ∈ ps, ∀ v : List Int, v.length ≤ w.length + 2 → callR g "_law_walk" [.tuple (encT p), .tuple (v.map PyData.int)] = .ok (.list ((wlkT v p).map Pl.enc))) → acc.length + (wlkP w (i : Int) j ps).length ≤ 1000000 →
    ∃ y5 y6, forLoop (.tp [.nm 5, .nm 6]) (exB g B.l2__law_walk) (enumFrom j (encPs ps)) [some (.dat a0), some (.dat (.tuple (w.map PyData.int))), some (.dat (.list (acc.map Pl.enc))), some (.dat (.int (i : Int))), some (.dat a4), o2 x5, o2 x6] = .nx [some (.dat a0), some (.dat (.tuple (w.map PyData.int))), some (.dat (.list ((acc ++ wlkP w (i : Int) j ps).map Pl.enc))), some (.dat (.int (i : Int))), some (.dat a4), o2 y5, o2 y6]
  | [], acc, j, x5, x6, _, _ => ⟨x5, x6, by rw [show wlkP w (i : Int) j [] = [] from rfl, List.append_nil]; rfl⟩
  | p :: ps, acc, j, x5, x6, hc, hl => by
    rw [wlkP_cons, List.length_append] at hl
    obtain ⟨y5, y6, ih⟩ := lw_parts hw i a0 a4 ps (acc ++ wlkT (w ++ [(i : Int), j]) p) (j + 1) (some (.int j)) (some (.tuple (encT p))) (fun q hq => hc q (List.mem_cons_of_mem _ hq)) (by rw [List.length_append]; omega)
    have c1 := hc p List.mem_cons_self (w ++ [(i : Int), j]) (by rw [List.length_append]; exact Nat.le_refl _)
    rw [List.map_append, List.map_cons, List.map_cons, List.map_nil] at c1
    have hwm : (w.map PyData.int).length ≤ 100 := by rw [List.length_map]; exact hw
    refine ⟨y5, y6, ?_⟩
    rw [wlkP_cons, ← List.append_assoc, ← ih, encPs_cons]
    simp (disch := (first | assumption | omega | (simp only [List.length_append, List.length_map, List.length_cons, List.length_nil, List.length_reverse, List.length_take, List.length_drop, List.length_singleton]; omega))) only [evs, strR_s, List.cons_append, List.nil_append, Bool.and_true, Bool.true_and, Bool.and_false, Bool.false_and, Bool.or_true, Bool.true_or, Bool.or_false, Bool.false_or, Bool.not_true, Bool.not_false, Bool.not_not, fl_nil, fl_cons, bnd_ok, aft_nx, aft_ct, aft_bk, aft_rt, aft_exc, wds, atI_0, atI_1, ixt_2, ixt_last, ixl_last, ixl_0, ixl_1, ex_seto, ex_app, ex_pop, ex_par, own_l, app_own, pop_own, par_ok, set_nil, set_cons, frz_nil, frz_cons, frz_own, frz_dat, frz_no, frz_o2, enum_nil, enum_cons, wipe_nil, wipe_cons, ex_forB, exB_cons, addT, addL, enc_line, enc_op, enc_nx, enc_cl, cut_to, cut_from, cut_from1, cut_from2, cut_fromS, cut_init, rev_tt, eq_ss, ne_ss, skw, ite_true_b, ite_false_b, beq_self_eq_true, if_true, if_false, Bool.false_eq_true, List.map_cons, List.map_nil, B.u_l2__law_walk, c1, List.map_append]
    rfl
theorem lw_leaves {g : G} {w : List Int} (hw : w.length ≤ 100) {n : Nat} (a0 : D) (hc : ∀ p, dpT p + 1 ≤ n → (rowsT p).length ≤ 900000 → ∀ v : List Int, v.length ≤ w.length + 2 → callR g "_law_walk" [.tuple (encT p), .tuple (v.map PyData.int)] = .ok (.list ((wlkT v p).map Pl.enc))) :
    ∀ (t : List Leaf) (acc : List Pl) (i : Nat) (x3 x4 x5 x6 : Option D), dpT t ≤ n → (rowsT t).length ≤ 900000 → acc.length + (wlkL w (i : Int) t).length ≤ 1000000 →
    ∃ y3 y4 y5 y6, forLoop (.tp [.nm 3, .nm 4]) (exB g B.l1__law_walk) (enumFrom (i : Int) (encT t)) [some (.dat a0), some (.dat (.tuple (w.map PyData.int))), some (.dat (.list (acc.map Pl.enc))), o2 x3, o2 x4, o2 x5, o2 x6] = .nx [some (.dat a0), some (.dat (.tuple (w.map PyData.int))), some (.dat (.list ((acc ++ wlkL w (i : Int) t).map Pl.enc))), o2 y3, o2 y4, o2 y5, o2 y6]
  | [], acc, i, x3, x4, x5, x6, _, _, _ => ⟨x3, x4, x5, x6, by rw [show wlkL w (i : Int) [] = [] from rfl, List.append_nil]; rfl⟩
  | .line s :: t, acc, i, x3, x4, x5, x6, hd, hr, hl => by
    have hd2 : dpT t ≤ n := Nat.le_trans (Nat.le_max_right _ _) hd
    have hr2 : (rowsT t).length ≤ 900000 := by
      have : (rowsT (.line s :: t)).length = (rowsT t).length + 1 := rfl
      omega
    obtain ⟨y3, y4, y5, y6, ih⟩ := lw_leaves hw a0 hc t acc (i + 1) (some (.int (i : Int))) (some (.str s)) x5 x6 hd2 hr2 hl
    refine ⟨y3, y4, y5, y6, ?_⟩
    rw [show wlkL w (i : Int) (.line s :: t) = wlkL w ((i + 1 : Nat) : Int) t from rfl, ← ih, encT_cons]
    simp (disch := (first | assumption | omega | (simp only [List.length_append, List.length_map, List.length_cons, List.length_nil, List.length_reverse, List.length_take, List.length_drop, List.length_singleton]; omega))) only [evs, strR_s, List.cons_append, List.nil_append, Bool.and_true, Bool.true_and, Bool.and_false, Bool.false_and, Bool.or_true, Bool.true_or, Bool.or_false, Bool.false_or, Bool.not_true, Bool.not_false, Bool.not_not, fl_nil, fl_cons, bnd_ok, aft_nx, aft_ct, aft_bk, aft_rt, aft_exc, wds, atI_0, atI_1, ixt_2, ixt_last, ixl_last, ixl_0, ixl_1, ex_seto, ex_app, ex_pop, ex_par, own_l, app_own, pop_own, par_ok, set_nil, set_cons, frz_nil, frz_cons, frz_own, frz_dat, frz_no, frz_o2, enum_nil, enum_cons, wipe_nil, wipe_cons, ex_forB, exB_cons, addT, addL, enc_line, enc_op, enc_nx, enc_cl, cut_to, cut_from, cut_from1, cut_from2, cut_fromS, cut_init, rev_tt, eq_ss, ne_ss, skw, ite_true_b, ite_false_b, beq_self_eq_true, if_true, if_false, Bool.false_eq_true, List.map_cons, List.map_nil, B.u_l1__law_walk, enc_ln]
    rfl
  | .letter nm ps :: t, acc, i, x3, x4, x5, x6, hd, hr, hl => by
    have hd1 : max (dpP ps + 1) (dpT t) ≤ n := hd
    have hd2 : dpT t ≤ n := Nat.le_trans (Nat.le_max_right _ _) hd1
    have hd3 : dpP ps + 1 ≤ n := Nat.le_trans (Nat.le_max_left _ _) hd1
    have hr' : (rowsP nm false ps).length + 1 + (rowsT t).length ≤ 900000 := by
      have : (rowsT (.letter nm ps :: t)).length = (rowsP nm false ps ++ [Row.cl nm]).length + (rowsT t).length := List.length_append
      rw [List.length_append, List.length_singleton] at this
      omega
    have e1 : wlkL w (i : Int) (.letter nm ps :: t) = wlkP w (i : Int) 0 ps ++ wlkL w ((i + 1 : Nat) : Int) t := rfl
    rw [e1, List.length_append] at hl
    obtain ⟨z5, z6, q⟩ := lw_parts (g := g) hw i a0 (Leaf.enc (.letter nm ps)) ps acc 0 x5 x6 (fun p hp => hc p (Nat.le_trans (Nat.succ_le_succ (dpP_mem hp)) hd3) (by have := rowsP_mem nm false hp; omega)) (by omega)
    obtain ⟨y3, y4, y5, y6, ih⟩ := lw_leaves hw a0 hc t (acc ++ wlkP w (i : Int) 0 ps) (i + 1) (some (.int (i : Int))) (some (Leaf.enc (.letter nm ps))) z5 z6 hd2 (by omega) (by rw [List.length_append]; omega)
    refine ⟨y3, y4, y5, y6, ?_⟩
    rw [e1, ← List.append_assoc, ← ih, encT_cons]
    rw [enc_lt] at q ⊢
    simp (disch := (first | assumption | omega | (simp only [List.length_append, List.length_map, List.length_cons, List.length_nil, List.length_reverse, List.length_take, List.length_drop, List.length_singleton]; omega))) only [evs, strR_s, List.cons_append, List.nil_append, Bool.and_true, Bool.true_and, Bool.and_false, Bool.false_and, Bool.or_true, Bool.true_or, Bool.or_false, Bool.false_or, Bool.not_true, Bool.not_false, Bool.not_not, fl_nil, fl_cons, bnd_ok, aft_nx, aft_ct, aft_bk, aft_rt, aft_exc, wds, atI_0, atI_1, ixt_2, ixt_last, ixl_last, ixl_0, ixl_1, ex_seto, ex_app, ex_pop, ex_par, own_l, app_own, pop_own, par_ok, set_nil, set_cons, frz_nil, frz_cons, frz_own, frz_dat, frz_no, frz_o2, enum_nil, enum_cons, wipe_nil, wipe_cons, ex_forB, exB_cons, addT, addL, enc_line, enc_op, enc_nx, enc_cl, cut_to, cut_from, cut_from1, cut_from2, cut_fromS, cut_init, rev_tt, eq_ss, ne_ss, skw, ite_true_b, ite_false_b, beq_self_eq_true, if_true, if_false, Bool.false_eq_true, List.map_cons, List.map_nil, B.u_l1__law_walk, q]
    rfl
theorem call_walk (H : Has P "_law_walk" 2 7 B._law_walk) : ∀ (n m : Nat) (t : List Leaf) (w : List Int), w.length + 2 * n ≤ 100 → dpT t ≤ n → (rowsT t).length ≤ 900000 → callR (gOf P (m + n + 2)) "_law_walk" [.tuple (encT t), .tuple (w.map PyData.int)] = .ok (.list ((wlkT w t).map Pl.enc))
  | n, m, t, w, hw, hd, hr => by
    rw [H.body rfl]
    have wl := wlkL_len t w ((0 : Nat) : Int)
    obtain ⟨y3, y4, y5, y6, q⟩ := lw_leaves (g := gOf P (m + n + 1)) (w := w) (by omega) (n := n) (.tuple (encT t)) (fun p h1 h2 v hv => by
      match n, h1 with
      | n + 1, h1 => exact call_walk H n m p v (by omega) (Nat.le_of_succ_le_succ h1) h2) t [(w, t)] 0 none none none none hd (by omega) (by simp only [List.length_singleton]; omega)
    simp (disch := (first | assumption | omega | (simp only [List.length_append, List.length_map, List.length_cons, List.length_nil, List.length_reverse, List.length_take, List.length_drop, List.length_singleton]; omega))) only [evs, strR_s, List.cons_append, List.nil_append, Bool.and_true, Bool.true_and, Bool.and_false, Bool.false_and, Bool.or_true, Bool.true_or, Bool.or_false, Bool.false_or, Bool.not_true, Bool.not_false, Bool.not_not, fl_nil, fl_cons, bnd_ok, aft_nx, aft_ct, aft_bk, aft_rt, aft_exc, wds, atI_0, atI_1, ixt_2, ixt_last, ixl_last, ixl_0, ixl_1, ex_seto, ex_app, ex_pop, ex_par, own_l, app_own, pop_own, par_ok, set_nil, set_cons, frz_nil, frz_cons, frz_own, frz_dat, frz_no, frz_o2, enum_nil, enum_cons, wipe_nil, wipe_cons, ex_forB, exB_cons, addT, addL, enc_line, enc_op, enc_nx, enc_cl, cut_to, cut_from, cut_from1, cut_from2, cut_fromS, cut_init, rev_tt, eq_ss, ne_ss, skw, ite_true_b, ite_false_b, beq_self_eq_true, if_true, if_false, Bool.false_eq_true, List.map_cons, List.map_nil, B._law_walk]
    rw [show [some (Sl.dat (.tuple (encT t))), some (Sl.dat (.tuple (w.map PyData.int))), some (Sl.dat (.list [.tuple [.tuple (w.map PyData.int), .tuple (encT t)]])), none, none, none, none] = [some (.dat (.tuple (encT t))), some (.dat (.tuple (w.map PyData.int))), some (.dat (.list ([(w, t)].map Pl.enc))), o2 none, o2 none, o2 none, o2 none] from rfl, show (0 : Int) = ((0 : Nat) : Int) from rfl, q]
    simp only [evs, strR_s, List.cons_append, List.nil_append, Bool.and_true, Bool.true_and, Bool.and_false, Bool.false_and, Bool.or_true, Bool.true_or, Bool.or_false, Bool.false_or, Bool.not_true, Bool.not_false, Bool.not_not, fl_nil, fl_cons, bnd_ok, aft_nx, aft_ct, aft_bk, aft_rt, aft_exc, wds, atI_0, atI_1, ixt_2, ixt_last, ixl_last, ixl_0, ixl_1, ex_seto, ex_app, ex_pop, ex_par, own_l, app_own, pop_own, par_ok, set_nil, set_cons, frz_nil, frz_cons, frz_own, frz_dat, frz_no, frz_o2, enum_nil, enum_cons, wipe_nil, wipe_cons, ex_forB, exB_cons, addT, addL, enc_line, enc_op, enc_nx, enc_cl, cut_to, cut_from, cut_from1, cut_from2, cut_fromS, cut_init, rev_tt, eq_ss, ne_ss, skw, ite_true_b, ite_false_b, beq_self_eq_true, if_true, if_false, Bool.false_eq_true, List.map_cons, List.map_nil]
    rfl
end
end Ev
/-! EvWl: what the laws make of all ways. -/
namespace Ev
open PySem PySem.Spec PyProof.Rows L2
section
variable {P : Pr} {m : Nat}
theorem isi_leaf (l : Leaf) : isiD l.enc .str = .ok (.bool (!isLt l)) := by cases l <;> rfl
theorem ll_loop {g : G} (a0 : D) : ∀ (l : List Pl) (acc : List Leaf) (x2 x3 : Option D), acc.length + (l.flatMap ltP).length ≤ 1000000 → (∀ x ∈ l, x.2.length ≤ 1000000) →
    ∃ y2 y3, forLoop (.tp [.nm 2, .nm 3]) (exB g B.l1__law_letters) (l.map Pl.enc) [some (.dat a0), some (.dat (.list (acc.map Leaf.enc))), o2 x2, o2 x3, none] = .nx [some (.dat a0), some (.dat (.list ((acc ++ l.flatMap ltP).map Leaf.enc))), o2 y2, o2 y3, none]
  | [], acc, x2, x3, _, _ => ⟨x2, x3, by rw [List.flatMap_nil, List.append_nil]; rfl⟩
  | x :: l, acc, x2, x3, hl, hx => by
    rw [List.flatMap_cons, List.length_append] at hl
    obtain ⟨y2, y3, ih⟩ := ll_loop a0 l (acc ++ ltP x) (some (.tuple (x.1.map PyData.int))) (some (.tuple (encT x.2))) (by rw [List.length_append]; omega) fun y hy => hx y (List.mem_cons_of_mem _ hy)
    have e1 : ev g false B.c1__law_letters [some (.dat a0), some (.dat (.list (acc.map Leaf.enc))), some (.dat (.tuple (x.1.map PyData.int))), some (.dat (.tuple (encT x.2))), none] = .ok (.list ((ltP x).map Leaf.enc)) := by
      refine ev_lcT (ec := Leaf.enc) (p := isLt) (b := fun l => [some (.dat a0), some (.dat (.list (acc.map Leaf.enc))), some (.dat (.tuple (x.1.map PyData.int))), some (.dat (.tuple (encT x.2))), some (.dat l.enc)]) (by simp only [evs, strR_s, List.cons_append, List.nil_append, Bool.and_true, Bool.true_and, Bool.and_false, Bool.false_and, Bool.or_true, Bool.true_or, Bool.or_false, Bool.false_or, Bool.not_true, Bool.not_false, Bool.not_not, fl_nil, fl_cons, bnd_ok, aft_nx, aft_ct, aft_bk, aft_rt, aft_exc, wds, atI_0, atI_1, ixt_2, ixt_last, ixl_last, ixl_0, ixl_1, ex_seto, ex_app, ex_pop, ex_par, own_l, app_own, pop_own, par_ok, set_nil, set_cons, frz_nil, frz_cons, frz_own, frz_dat, frz_no, frz_o2, enum_nil, enum_cons, wipe_nil, wipe_cons, ex_forB, exB_cons, addT, addL, enc_line, enc_op, enc_nx, enc_cl, cut_to, cut_from, cut_from1, cut_from2, cut_fromS, cut_init, rev_tt, eq_ss, ne_ss, skw, ite_true_b, ite_false_b, beq_self_eq_true, if_true, if_false, Bool.false_eq_true, List.map_cons, List.map_nil]; rw [encT_map]) (fun l hl => by simp only [evs, strR_s, List.cons_append, List.nil_append, Bool.and_true, Bool.true_and, Bool.and_false, Bool.false_and, Bool.or_true, Bool.true_or, Bool.or_false, Bool.false_or, Bool.not_true, Bool.not_false, Bool.not_not, fl_nil, fl_cons, bnd_ok, aft_nx, aft_ct, aft_bk, aft_rt, aft_exc, wds, atI_0, atI_1, ixt_2, ixt_last, ixl_last, ixl_0, ixl_1, ex_seto, ex_app, ex_pop, ex_par, own_l, app_own, pop_own, par_ok, set_nil, set_cons, frz_nil, frz_cons, frz_own, frz_dat, frz_no, frz_o2, enum_nil, enum_cons, wipe_nil, wipe_cons, ex_forB, exB_cons, addT, addL, enc_line, enc_op, enc_nx, enc_cl, cut_to, cut_from, cut_from1, cut_from2, cut_fromS, cut_init, rev_tt, eq_ss, ne_ss, skw, ite_true_b, ite_false_b, beq_self_eq_true, if_true, if_false, Bool.false_eq_true, List.map_cons, List.map_nil]) (fun l hl => ?_) (fun l hl hk => by simp only [evs, strR_s, List.cons_append, List.nil_append, Bool.and_true, Bool.true_and, Bool.and_false, Bool.false_and, Bool.or_true, Bool.true_or, Bool.or_false, Bool.false_or, Bool.not_true, Bool.not_false, Bool.not_not, fl_nil, fl_cons, bnd_ok, aft_nx, aft_ct, aft_bk, aft_rt, aft_exc, wds, atI_0, atI_1, ixt_2, ixt_last, ixl_last, ixl_0, ixl_1, ex_seto, ex_app, ex_pop, ex_par, own_l, app_own, pop_own, par_ok, set_nil, set_cons, frz_nil, frz_cons, frz_own, frz_dat, frz_no, frz_o2, enum_nil, enum_cons, wipe_nil, wipe_cons, ex_forB, exB_cons, addT, addL, enc_line, enc_op, enc_nx, enc_cl, cut_to, cut_from, cut_from1, cut_from2, cut_fromS, cut_init, rev_tt, eq_ss, ne_ss, skw, ite_true_b, ite_false_b, beq_self_eq_true, if_true, if_false, Bool.false_eq_true, List.map_cons, List.map_nil]) (by have := hx x List.mem_cons_self; simp only [lim]; omega)
      simp only [evs, strR_s, List.cons_append, List.nil_append, Bool.and_true, Bool.true_and, Bool.and_false, Bool.false_and, Bool.or_true, Bool.true_or, Bool.or_false, Bool.false_or, Bool.not_true, Bool.not_false, Bool.not_not, fl_nil, fl_cons, bnd_ok, aft_nx, aft_ct, aft_bk, aft_rt, aft_exc, wds, atI_0, atI_1, ixt_2, ixt_last, ixl_last, ixl_0, ixl_1, ex_seto, ex_app, ex_pop, ex_par, own_l, app_own, pop_own, par_ok, set_nil, set_cons, frz_nil, frz_cons, frz_own, frz_dat, frz_no, frz_o2, enum_nil, enum_cons, wipe_nil, wipe_cons, ex_forB, exB_cons, addT, addL, enc_line, enc_op, enc_nx, enc_cl, cut_to, cut_from, cut_from1, cut_from2, cut_fromS, cut_init, rev_tt, eq_ss, ne_ss, skw, ite_true_b, ite_false_b, beq_self_eq_true, if_true, if_false, Bool.false_eq_true, List.map_cons, List.map_nil, isi_leaf]
    refine ⟨y2, y3, ?_⟩
    rw [List.flatMap_cons, ← List.append_assoc, ← ih, List.map_cons]
    show forLoop _ _ (PyData.tuple [.tuple (x.1.map PyData.int), .tuple (encT x.2)] :: _) _ = _
    simp (disch := (first | assumption | omega | (simp only [List.length_append, List.length_map, List.length_cons, List.length_nil, List.length_reverse, List.length_take, List.length_drop, List.length_singleton]; omega))) only [evs, strR_s, List.cons_append, List.nil_append, Bool.and_true, Bool.true_and, Bool.and_false, Bool.false_and, Bool.or_true, Bool.true_or, Bool.or_false, Bool.false_or, Bool.not_true, Bool.not_false, Bool.not_not, fl_nil, fl_cons, bnd_ok, aft_nx, aft_ct, aft_bk, aft_rt, aft_exc, wds, atI_0, atI_1, ixt_2, ixt_last, ixl_last, ixl_0, ixl_1, ex_seto, ex_app, ex_pop, ex_par, own_l, app_own, pop_own, par_ok, set_nil, set_cons, frz_nil, frz_cons, frz_own, frz_dat, frz_no, frz_o2, enum_nil, enum_cons, wipe_nil, wipe_cons, ex_forB, exB_cons, addT, addL, enc_line, enc_op, enc_nx, enc_cl, cut_to, cut_from, cut_from1, cut_from2, cut_fromS, cut_init, rev_tt, eq_ss, ne_ss, skw, ite_true_b, ite_false_b, beq_self_eq_true, if_true, if_false, Bool.false_eq_true, List.map_cons, List.map_nil, B.u_l1__law_letters, e1, List.map_append]
    rfl
theorem call_law_letters (H : Has P "_law_letters" 1 5 B._law_letters) (l : List Pl) (hl : (l.flatMap ltP).length ≤ 1000000) (hx : ∀ x ∈ l, x.2.length ≤ 1000000) : callR (gOf P (m + 1)) "_law_letters" [.list (l.map Pl.enc)] = .ok (.list ((l.flatMap ltP).map Leaf.enc)) := by
  rw [H.body rfl]
  obtain ⟨y2, y3, q⟩ := ll_loop (g := gOf P m) (.list (l.map Pl.enc)) l [] none none (by simpa using hl) hx
  rw [List.nil_append] at q
  simp (disch := (first | assumption | omega | (simp only [List.length_append, List.length_map, List.length_cons, List.length_nil, List.length_reverse, List.length_take, List.length_drop, List.length_singleton]; omega))) only [evs, strR_s, List.cons_append, List.nil_append, Bool.and_true, Bool.true_and, Bool.and_false, Bool.false_and, Bool.or_true, Bool.true_or, Bool.or_false, Bool.false_or, Bool.not_true, Bool.not_false, Bool.not_not, fl_nil, fl_cons, bnd_ok, aft_nx, aft_ct, aft_bk, aft_rt, aft_exc, wds, atI_0, atI_1, ixt_2, ixt_last, ixl_last, ixl_0, ixl_1, ex_seto, ex_app, ex_pop, ex_par, own_l, app_own, pop_own, par_ok, set_nil, set_cons, frz_nil, frz_cons, frz_own, frz_dat, frz_no, frz_o2, enum_nil, enum_cons, wipe_nil, wipe_cons, ex_forB, exB_cons, addT, addL, enc_line, enc_op, enc_nx, enc_cl, cut_to, cut_from, cut_from1, cut_from2, cut_fromS, cut_init, rev_tt, eq_ss, ne_ss, skw, ite_true_b, ite_false_b, beq_self_eq_true, if_true, if_false, Bool.false_eq_true, List.map_cons, List.map_nil, B._law_letters]
  rw [show [some (Sl.dat (.list (l.map Pl.enc))), some (Sl.dat (.list [])), none, none, none] = [some (.dat (.list (l.map Pl.enc))), some (.dat (.list (([] : List Leaf).map Leaf.enc))), o2 none, o2 none, none] from rfl, q]
  simp only [evs, strR_s, List.cons_append, List.nil_append, Bool.and_true, Bool.true_and, Bool.and_false, Bool.false_and, Bool.or_true, Bool.true_or, Bool.or_false, Bool.false_or, Bool.not_true, Bool.not_false, Bool.not_not, fl_nil, fl_cons, bnd_ok, aft_nx, aft_ct, aft_bk, aft_rt, aft_exc, wds, atI_0, atI_1, ixt_2, ixt_last, ixl_last, ixl_0, ixl_1, ex_seto, ex_app, ex_pop, ex_par, own_l, app_own, pop_own, par_ok, set_nil, set_cons, frz_nil, frz_cons, frz_own, frz_dat, frz_no, frz_o2, enum_nil, enum_cons, wipe_nil, wipe_cons, ex_forB, exB_cons, addT, addL, enc_line, enc_op, enc_nx, enc_cl, cut_to, cut_from, cut_from1, cut_from2, cut_fromS, cut_init, rev_tt, eq_ss, ne_ss, skw, ite_true_b, ite_false_b, beq_self_eq_true, if_true, if_false, Bool.false_eq_true, List.map_cons, List.map_nil]
end
/-- a text in a tree -/
theorem in_tree {x : Str} {t : List Leaf} (hx : sk x = true) (h : TGood t) : cmpD .In (.str x) (.tuple (encT t)) = .ok (.bool (hasLn x t)) := by
  have s1 : shp (.str x) = true := (sk_tm (n := 0) hx).shp (by decide)
  show (if shp (.str x) && shp (.tuple (encT t)) then R.ok (PyData.bool ((encT t).any fun z => PyData.eqv z (.str x))) else .bad) = _
  rw [s1, h.shp, Bool.and_true, if_pos rfl, encT_map, List.any_map]
  unfold hasLn
  congr 2
  congr 1
  funext l
  cases l with
  | line s => exact eqv_str s x
  | letter n ps =>
    show PyData.eqv (.tuple [.str n, .tuple (encPs ps)]) (.str x) = false
    simp [PyData.eqv]
theorem fold_top {α : Type} (f : α → Nat) (d : Nat) (x : α) (xs : List α) (h : ∀ y ∈ x :: xs, f y ≤ d) (h2 : ∃ y ∈ x :: xs, f y = d) : xs.foldl (fun a x => max a (f x)) (f x) = d := by
  have gen : ∀ (xs : List α) (a : Nat), a ≤ d → (∀ y ∈ xs, f y ≤ d) → (a = d ∨ ∃ y ∈ xs, f y = d) → xs.foldl (fun a x => max a (f x)) a = d := by
    intro xs
    induction xs with
    | nil =>
      intro a ha _ h
      rcases h with h | ⟨y, hy, _⟩
      · exact h
      · exact nomatch hy
    | cons y ys ih =>
      intro a ha hb h
      rw [List.foldl_cons]
      have hy := hb y List.mem_cons_self
      refine ih _ (by omega) (fun z hz => hb z (List.mem_cons_of_mem _ hz)) ?_
      rcases h with h | ⟨z, hz, e⟩
      · left; omega
      · rcases List.mem_cons.mp hz with rfl | hz
        · left; omega
        · exact .inr ⟨z, hz, e⟩
  refine gen xs (f x) (h x List.mem_cons_self) (fun y hy => h y (List.mem_cons_of_mem _ hy)) ?_
  obtain ⟨y, hy, e⟩ := h2
  rcases List.mem_cons.mp hy with rfl | hy
  · exact .inl e
  · exact .inr ⟨y, hy, e⟩
theorem max_walk {t : List Leaf} (h : okT t = true) : bltD .max1 [.list ((wlkT [] t).map fun x => PyData.int ((x.1.length / 2 : Nat) : Int))] = .ok (.int (dpT t : Int)) := by
  have := max_nat (fun x : Pl => x.1.length / 2) (([] : List Int), t) (wlkL [] 0 t)
  refine this.trans ?_
  rw [fold_top (fun x : Pl => x.1.length / 2) (dpT t) (([] : List Int), t) (wlkL [] 0 t) (fun y hy => by have := (wlkT_at hy).2.1; omega) (wlkT_top h)]
theorem sum_nat {α : Type} (f : α → Nat) (xs : List α) : bltD .sum [.list (xs.map fun x => PyData.int (f x : Int))] = .ok (.int (((xs.map f).sum : Nat) : Int)) := by
  show (match intsOf (xs.map fun x => PyData.int (f x)) with | some ns => R.ok (PyData.int ns.sum) | none => .bad) = _
  rw [ints_map]
  have : ∀ xs : List α, (xs.map fun x => (f x : Int)).sum = (((xs.map f).sum : Nat) : Int) := by
    intro xs
    induction xs with
    | nil => rfl
    | cons x xs ih =>
      rw [List.map_cons, List.map_cons, List.sum_cons, List.sum_cons, ih]
      omega
  show R.ok (PyData.int (xs.map fun x => (f x : Int)).sum) = _
  rw [this]
theorem flt_ways {t : List Leaf} (x : Str) : (wlkT [] t).filter (hasX x) = [] ∨ ∃ y r, (wlkT [] t).filter (hasX x) = y :: r ∧ ∀ z ∈ r, z.1 ≠ [] := by
  have tl : ∀ z ∈ wlkL [] 0 t, z.1 ≠ [] := fun z hz e => by
    obtain ⟨k, u, e2, _⟩ := wlkL_frm t [] 0 z hz
    rw [e] at e2
    exact nomatch e2
  unfold wlkT
  rw [List.filter_cons]
  split
  · exact .inr ⟨_, _, rfl, fun z hz => tl z (List.mem_filter.mp hz).1⟩
  · cases e : (wlkL [] 0 t).filter (hasX x) with
    | nil => exact .inl rfl
    | cons y r => exact .inr ⟨y, r, rfl, fun z hz => tl z (List.mem_filter.mp (by rw [e]; exact List.mem_cons_of_mem _ hz)).1⟩
theorem wlkT_len {t : List Leaf} (h : TGood t) : (wlkT [] t).length ≤ 100001 := by
  have := wlkL_len t [] 0
  have := h.rows
  show (wlkL [] 0 t).length + 1 ≤ _
  omega
end Ev
/-! K33z: the law k33. -/
namespace K33
open PySem PySem.Spec PyProof.Rows L2 Ev
theorem hTe : HasTe P := ⟨h_is_text, h_deep, h_lines, h_letters⟩
theorem hDraw : HasDraw P := ⟨h__law_cell_at, h__law_mixed, h__law_drawn⟩
theorem c_lines {t : List Leaf} (h : TGood t) : callR (gOf P 200) "lines" [.tuple (encT t)] = .ok (.tuple ((lnsT t).map PyData.str)) := hTe.c_lines (m := 192) h
theorem c_letters {t : List Leaf} (h : TGood t) : callR (gOf P 200) "letters" [.tuple (encT t)] = .ok (.tuple ((ltsT t).map PyData.str)) := hTe.c_letters (m := 192) h
theorem c_deep {t : List Leaf} (h : TGood t) : callR (gOf P 200) "deep" [.tuple (encT t)] = .ok (.int (dpT t)) := hTe.c_deep (m := 192) h
theorem c_part {t : List Leaf} (w : List Int) (h : w.length ≤ 50) : callR (gOf P 200) "part_at" [.tuple (encT t), .tuple (w.map PyData.int)] = ansP (partAt w t) := call_part_at h_part_at h_is_text 50 148 w t h
theorem c_partL {t : List Leaf} (w : List Int) (h : w.length ≤ 50) : callR ((gOf P 200).low (run P 198)) "part_at" [.tuple (encT t), .tuple (w.map PyData.int)] = ansP (partAt w t) := call_part_at h_part_at h_is_text 50 146 w t h
theorem c_found {x : Str} (hx : sk x = true) {t : List Leaf} (h : TGood t) : callR (gOf P 200) "found" [.tuple (encT t), .str x] = .ok (encW (fndT x t)) := call_found h_found h_is_text hx 6 192 t (by decide) h.ok h.dp (by have := h.rows; omega)
theorem LOk.mono : ∀ (d : Nat) (l : Leaf), LOk d l → LOk (d + 1) l
  | 0, l, ⟨s, h, e⟩ => .inl ⟨s, h, e⟩
  | d + 1, l, h => by
    rcases h with h | ⟨n, ps, e, h1, h2, h3, h4⟩
    · exact .inl h
    · exact .inr ⟨n, ps, e, h1, h2, h3, fun p hp => ⟨(h4 p hp).1, fun x hx => LOk.mono d x ((h4 p hp).2 x hx)⟩⟩
theorem LOk.part : ∀ (w : List Int) (t q : List Leaf), (∀ l ∈ t, LOk 3 l) → partAt w t = some q → ∀ l ∈ q, LOk 3 l
  | [], t, q, h, e => by cases e; exact h
  | [_], t, q, h, e => by cases e
  | i :: j :: w, t, q, h, e => by
    have e' : (match getI t i with
      | some (.letter _ ps) => match getI ps j with
        | some p => partAt w p
        | none => none
      | _ => none) = some q := e
    split at e'
    · rename_i nm ps hg
      have hm : Leaf.letter nm ps ∈ t := by
        unfold getI at hg
        split at hg
        · exact List.mem_of_getElem? hg
        · cases hg
      cases hp : getI ps j with
      | none => rw [hp] at e'; cases e'
      | some p =>
        rw [hp] at e'
        have hpm : p ∈ ps := by
          unfold getI at hp
          split at hp
          · exact List.mem_of_getElem? hp
          · cases hp
        refine LOk.part w p q (fun l hl => ?_) e'
        rcases h _ hm with ⟨s, _, z⟩ | ⟨n', ps', z, _, _, _, h4⟩
        · cases z
        · cases z
          exact LOk.mono 2 l ((h4 p hpm).2 l hl)
    · cases e'
/-- beyond -/
theorem body2 (t : List Leaf) (w : List Int) (hw : w.length ≤ 20) (m : List Int) (hm : m.length ≤ 4) (hn : partAt (w ++ m) t = none) (a0 a2 a4 a5 : D) (e7 e8 e9 : Option Sl) :
    exs (gOf P 200) l2_law [some (.dat a0), some (.dat (.tuple (encT t))), some (.dat a2), some (.dat (.tuple (w.map PyData.int))), some (.dat a4), some (.dat a5), some (.dat (.tuple (m.map PyData.int))), e7, e8, e9] = .nx [some (.dat a0), some (.dat (.tuple (encT t))), some (.dat a2), some (.dat (.tuple (w.map PyData.int))), some (.dat a4), some (.dat a5), some (.dat (.tuple (m.map PyData.int))), e7, e8, e9] := by
  have tel : ∀ env, ev (gOf P 200) false (.told (.call "part_at" [.slot 1, .bin .Add (.slot 3) (.slot 6)])) env = toldR P.ex (ev ((gOf P 200).low (run P 198)) false (.call "part_at" [.slot 1, .bin .Add (.slot 3) (.slot 6)]) env) := fun env => rfl
  have te : toldR P.ex (.exc "NoPart") = .ok (.tuple [.str "refused", .int 1]) := by kernel_rfl
  have cp := c_partL (t := t) (w ++ m) (by rw [List.length_append]; omega)
  rw [hn, List.map_append] at cp
  have cp' : callR ((gOf P 200).low (run P 198)) "part_at" [.tuple (encT t), .tuple (w.map PyData.int ++ m.map PyData.int)] = .exc "NoPart" := cp
  have l1 : (w.map PyData.int).length ≤ 20 := by rw [List.length_map]; exact hw
  have l2 : (m.map PyData.int).length ≤ 4 := by rw [List.length_map]; exact hm
  rw [u_l2_law, exs_cons, ex_ife]
  have rl : rel [some (.dat a0), some (.dat (.tuple (encT t))), some (.dat a2), some (.dat (.tuple (w.map PyData.int))), some (.dat a4), some (.dat a5), some (.dat (.tuple (m.map PyData.int))), e7, e8, e9] = some (.dat a0) :: some (.dat (.tuple (encT t))) :: some (.dat a2) :: some (.dat (.tuple (w.map PyData.int))) :: some (.dat a4) :: some (.dat a5) :: some (.dat (.tuple (m.map PyData.int))) :: rel [e7, e8, e9] := rfl
  rw [rl]
  simp (disch := (first | assumption | omega | (simp only [List.length_append, List.length_map, List.length_cons, List.length_nil, List.length_reverse, List.length_take, List.length_drop, List.length_singleton]; omega))) only [evs, strR_s, List.cons_append, List.nil_append, Bool.and_true, Bool.true_and, Bool.and_false, Bool.false_and, Bool.or_true, Bool.true_or, Bool.or_false, Bool.false_or, Bool.not_true, Bool.not_false, Bool.not_not, fl_nil, fl_cons, bnd_ok, aft_nx, aft_ct, aft_bk, aft_rt, aft_exc, wds, atI_0, atI_1, ixt_2, ixt_last, ixl_last, ixl_0, ixl_1, ex_seto, ex_app, ex_pop, ex_par, own_l, app_own, pop_own, par_ok, set_nil, set_cons, frz_nil, frz_cons, frz_own, frz_dat, frz_no, frz_o2, enum_nil, enum_cons, wipe_nil, wipe_cons, ex_forB, exB_cons, addT, addL, enc_line, enc_op, enc_nx, enc_cl, cut_to, cut_from, cut_from1, cut_from2, cut_fromS, cut_init, rev_tt, eq_ss, ne_ss, skw, ite_true_b, ite_false_b, beq_self_eq_true, if_true, if_false, Bool.false_eq_true, List.map_cons, List.map_nil, tel, cp', te, ref1]
theorem body1 (t : List Leaf) (ht : TGood t) (h3 : ∀ l ∈ t, LOk 3 l) (x : Pl) (hx : x ∈ wlkT [] t) (a0 a2 : D) (e5 e6 : Option D) :
    ∃ y5 y6, exs (gOf P 200) l1_law [some (.dat a0), some (.dat (.tuple (encT t))), some (.dat a2), some (.dat (.tuple (x.1.map PyData.int))), some (.dat (.tuple (encT x.2))), o2 e5, o2 e6, none, none, none] = .nx [some (.dat a0), some (.dat (.tuple (encT t))), some (.dat a2), some (.dat (.tuple (x.1.map PyData.int))), some (.dat (.tuple (encT x.2))), o2 y5, o2 y6, none, none, none] := by
  obtain ⟨p1, p2, p3⟩ := wlkT_at hx
  have gx := TGood.part x.1 t x.2 ht p1
  have hd := ht.dp
  have hw : x.1.length ≤ 20 := by omega
  have cp := c_part (t := t) x.1 (by omega)
  rw [p1] at cp
  have cp' : callR (gOf P 200) "part_at" [.tuple (encT t), .tuple (x.1.map PyData.int)] = .ok (.tuple (encT x.2)) := cp
  have hl : ((x.1.map PyData.int).length : Int) = (x.1.length : Int) := by rw [List.length_map]
  have gt : cmpD .Gt (.int ((x.1.length : Int) / 2 + (dpT x.2 : Int))) (.int (dpT t : Int)) = .ok (.bool false) := by
    show R.ok (PyData.bool (decide ((dpT t : Int) < (x.1.length : Int) / 2 + (dpT x.2 : Int)))) = _
    rw [decide_eq_false (by omega)]
  have hen := encT_len x.2
  have lx := gx.len
  have hp3 : ∀ ps : List (List Leaf), ∀ n, getI x.2 0 = some (.letter n ps) → ps.length ≤ 99 := by
    intro ps n hg
    have hm : Leaf.letter n ps ∈ x.2 := by
      unfold getI at hg
      split at hg
      · exact List.mem_of_getElem? hg
      · cases hg
    rcases LOk.part x.1 t x.2 h3 p1 _ hm with ⟨s, _, e⟩ | ⟨n', ps', e, _, _, h, _⟩
    · cases e
    · cases e; omega
  obtain ⟨env1, h1, z6, rfl⟩ := loop_all (tg := .nm 6) (g := gOf P 200) (b := l2_law) (fun env => ∃ x6, env = [some (.dat a0), some (.dat (.tuple (encT t))), some (.dat a2), some (.dat (.tuple (x.1.map PyData.int))), some (.dat (.tuple (encT x.2))), some (.dat (.tuple [.tuple [.int (x.2.length : Int), .int 0], .tuple [.int (-1), .int 0], .tuple [.int 0, .int 99], .tuple [.int 0], .tuple [.int 99], .tuple [.int 0, .int (-1)]])), o2 x6, none, none, none])
    [.tuple [.int (x.2.length : Int), .int 0], .tuple [.int (-1), .int 0], .tuple [.int 0, .int 99], .tuple [.int 0], .tuple [.int 99], .tuple [.int 0, .int (-1)]] (by
      rintro d hd env ⟨x6, rfl⟩
      have hk : ∃ m : List Int, d = .tuple (m.map PyData.int) ∧ m.length ≤ 4 ∧ partAt m x.2 = none := by
        simp only [List.mem_cons, List.not_mem_nil, or_false] at hd
        rcases hd with rfl | rfl | rfl | rfl | rfl | rfl
        · refine ⟨[(x.2.length : Int), 0], rfl, (show (2 : Nat) ≤ 4 by decide), ?_⟩
          rw [partAt, getI_cut (by omega)]
        · refine ⟨[-1, 0], rfl, by decide, ?_⟩
          rw [partAt, getI_cut (by omega)]
        · refine ⟨[0, 99], rfl, by decide, ?_⟩
          rw [partAt]
          split
          · rename_i n ps hg
            have := hp3 ps n hg
            rw [getI_cut (by omega)]
          · rfl
        · exact ⟨[0], rfl, by decide, rfl⟩
        · exact ⟨[99], rfl, by decide, rfl⟩
        · refine ⟨[0, -1], rfl, by decide, ?_⟩
          rw [partAt]
          split
          · rw [getI_cut (by omega)]
          · rfl
      obtain ⟨m, rfl, hm, hn⟩ := hk
      have q := body2 t x.1 hw m hm (by rw [partAt_app _ _ _ _ p1]; exact hn) a0 a2 (.tuple (encT x.2)) (.tuple [.tuple [.int (x.2.length : Int), .int 0], .tuple [.int (-1), .int 0], .tuple [.int 0, .int 99], .tuple [.int 0], .tuple [.int 99], .tuple [.int 0, .int (-1)]]) none none none
      exact ⟨_, rfl, _, .inl q, some (.tuple (m.map PyData.int)), rfl⟩) _ ⟨e6, rfl⟩
  refine ⟨some (.tuple [.tuple [.int (x.2.length : Int), .int 0], .tuple [.int (-1), .int 0], .tuple [.int 0, .int 99], .tuple [.int 0], .tuple [.int 99], .tuple [.int 0, .int (-1)]]), z6, ?_⟩
  simp (disch := (first | assumption | omega | (simp only [List.length_append, List.length_map, List.length_cons, List.length_nil, List.length_reverse, List.length_take, List.length_drop, List.length_singleton]; omega))) only [u_l1_law, evs, strR_s, List.cons_append, List.nil_append, Bool.and_true, Bool.true_and, Bool.and_false, Bool.false_and, Bool.or_true, Bool.true_or, Bool.or_false, Bool.false_or, Bool.not_true, Bool.not_false, Bool.not_not, bnd_ok, aft_nx, aft_ct, aft_bk, aft_rt, aft_exc, wds, atI_0, atI_1, ixt_2, ixt_last, ixl_last, ixl_0, ixl_1, ex_seto, ex_app, ex_pop, ex_par, own_l, app_own, pop_own, par_ok, set_nil, set_cons, frz_nil, frz_cons, frz_own, frz_dat, frz_no, frz_o2, enum_nil, enum_cons, wipe_nil, wipe_cons, ex_forB, exB_cons, addT, addL, enc_line, enc_op, enc_nx, enc_cl, cut_to, cut_from, cut_from1, cut_from2, cut_fromS, cut_init, rev_tt, eq_ss, ne_ss, skw, ite_true_b, ite_false_b, beq_self_eq_true, if_true, if_false, Bool.false_eq_true, List.map_cons, List.map_nil, cp', ne_self gx.shp, hl, c_deep gx, c_deep ht, gt, hen, h1]
  rfl
theorem body3 (t : List Leaf) (ht : TGood t) (x : Str) (hx : sk x = true) (a0 : D) (e3 e4 e5 e6 e8 : Option D) :
    ∃ y8, exs (gOf P 200) l3_law [some (.dat a0), some (.dat (.tuple (encT t))), some (.dat (.list ((wlkT [] t).map Pl.enc))), o2 e3, o2 e4, o2 e5, o2 e6, some (.dat (.str x)), o2 e8, none] = .nx [some (.dat a0), some (.dat (.tuple (encT t))), some (.dat (.list ((wlkT [] t).map Pl.enc))), o2 e3, o2 e4, o2 e5, o2 e6, some (.dat (.str x)), o2 y8, none] := by
  have wl := wlkT_len ht
  have lc : ev (gOf P 200) false c2_law [some (.dat a0), some (.dat (.tuple (encT t))), some (.dat (.list ((wlkT [] t).map Pl.enc))), o2 e3, o2 e4, o2 e5, o2 e6, some (.dat (.str x)), o2 e8, none] = .ok (.list (((wlkT [] t).filter (hasX x)).map fun y => PyData.tuple (y.1.map PyData.int))) := by
    refine ev_lcT (ec := Pl.enc) (b := fun y => [some (.dat a0), some (.dat (.tuple (encT t))), some (.dat (.list ((wlkT [] t).map Pl.enc))), some (.dat (.tuple (y.1.map PyData.int))), some (.dat (.tuple (encT y.2))), o2 e5, o2 e6, some (.dat (.str x)), o2 e8, none]) (by simp only [evs, strR_s, List.cons_append, List.nil_append, Bool.and_true, Bool.true_and, Bool.and_false, Bool.false_and, Bool.or_true, Bool.true_or, Bool.or_false, Bool.false_or, Bool.not_true, Bool.not_false, Bool.not_not, fl_nil, fl_cons, bnd_ok, aft_nx, aft_ct, aft_bk, aft_rt, aft_exc, wds, atI_0, atI_1, ixt_2, ixt_last, ixl_last, ixl_0, ixl_1, ex_seto, ex_app, ex_pop, ex_par, own_l, app_own, pop_own, par_ok, set_nil, set_cons, frz_nil, frz_cons, frz_own, frz_dat, frz_no, frz_o2, enum_nil, enum_cons, wipe_nil, wipe_cons, ex_forB, exB_cons, addT, addL, enc_line, enc_op, enc_nx, enc_cl, cut_to, cut_from, cut_from1, cut_from2, cut_fromS, cut_init, rev_tt, eq_ss, ne_ss, skw, ite_true_b, ite_false_b, beq_self_eq_true, if_true, if_false, Bool.false_eq_true, List.map_cons, List.map_nil]) (fun y hy => by simp only [Pl.enc, evs, strR_s, List.cons_append, List.nil_append, Bool.and_true, Bool.true_and, Bool.and_false, Bool.false_and, Bool.or_true, Bool.true_or, Bool.or_false, Bool.false_or, Bool.not_true, Bool.not_false, Bool.not_not, fl_nil, fl_cons, bnd_ok, aft_nx, aft_ct, aft_bk, aft_rt, aft_exc, wds, atI_0, atI_1, ixt_2, ixt_last, ixl_last, ixl_0, ixl_1, ex_seto, ex_app, ex_pop, ex_par, own_l, app_own, pop_own, par_ok, set_nil, set_cons, frz_nil, frz_cons, frz_own, frz_dat, frz_no, frz_o2, enum_nil, enum_cons, wipe_nil, wipe_cons, ex_forB, exB_cons, addT, addL, enc_line, enc_op, enc_nx, enc_cl, cut_to, cut_from, cut_from1, cut_from2, cut_fromS, cut_init, rev_tt, eq_ss, ne_ss, skw, ite_true_b, ite_false_b, beq_self_eq_true, if_true, if_false, Bool.false_eq_true, List.map_cons, List.map_nil]) (fun y hy => ?_) (fun y hy hp => by simp only [evs, strR_s, List.cons_append, List.nil_append, Bool.and_true, Bool.true_and, Bool.and_false, Bool.false_and, Bool.or_true, Bool.true_or, Bool.or_false, Bool.false_or, Bool.not_true, Bool.not_false, Bool.not_not, fl_nil, fl_cons, bnd_ok, aft_nx, aft_ct, aft_bk, aft_rt, aft_exc, wds, atI_0, atI_1, ixt_2, ixt_last, ixl_last, ixl_0, ixl_1, ex_seto, ex_app, ex_pop, ex_par, own_l, app_own, pop_own, par_ok, set_nil, set_cons, frz_nil, frz_cons, frz_own, frz_dat, frz_no, frz_o2, enum_nil, enum_cons, wipe_nil, wipe_cons, ex_forB, exB_cons, addT, addL, enc_line, enc_op, enc_nx, enc_cl, cut_to, cut_from, cut_from1, cut_from2, cut_fromS, cut_init, rev_tt, eq_ss, ne_ss, skw, ite_true_b, ite_false_b, beq_self_eq_true, if_true, if_false, Bool.false_eq_true, List.map_cons, List.map_nil]) (by simp only [lim]; omega)
    have gy := TGood.part y.1 t y.2 ht (wlkT_at hy).1
    simp only [evs, strR_s, List.cons_append, List.nil_append, Bool.and_true, Bool.true_and, Bool.and_false, Bool.false_and, Bool.or_true, Bool.true_or, Bool.or_false, Bool.false_or, Bool.not_true, Bool.not_false, Bool.not_not, fl_nil, fl_cons, bnd_ok, aft_nx, aft_ct, aft_bk, aft_rt, aft_exc, wds, atI_0, atI_1, ixt_2, ixt_last, ixl_last, ixl_0, ixl_1, ex_seto, ex_app, ex_pop, ex_par, own_l, app_own, pop_own, par_ok, set_nil, set_cons, frz_nil, frz_cons, frz_own, frz_dat, frz_no, frz_o2, enum_nil, enum_cons, wipe_nil, wipe_cons, ex_forB, exB_cons, addT, addL, enc_line, enc_op, enc_nx, enc_cl, cut_to, cut_from, cut_from1, cut_from2, cut_fromS, cut_init, rev_tt, eq_ss, ne_ss, skw, ite_true_b, ite_false_b, beq_self_eq_true, if_true, if_false, Bool.false_eq_true, List.map_cons, List.map_nil, in_tree hx gy]
    rfl
  have pw := (wlkT_pw t).filter (hasX x)
  have so := (sorted_l _).trans (ways_srtD pw (flt_ways x))
  have fw := fndT_wlk x t
  have cf := c_found hx ht
  refine ⟨some (.list (((wlkT [] t).filter (hasX x)).map fun y => PyData.tuple (y.1.map PyData.int))), ?_⟩
  have fl : ((wlkT [] t).filter (hasX x)).length ≤ 100001 := Nat.le_trans (List.length_filter_le _ _) wl
  have fl2 : (((wlkT [] t).filter (hasX x)).map fun y => PyData.tuple (y.1.map PyData.int)).length ≤ 100001 := by rw [List.length_map]; exact fl
  have ix : ixD (.list ((((wlkT [] t).filter (hasX x)).map fun y => PyData.tuple (y.1.map PyData.int)) ++ [.none])) (.int 0) = .ok (encW (fndT x t)) := by
    rw [fw]
    cases (wlkT [] t).filter (hasX x) with
    | nil => exact ixl_0 _ _
    | cons y r => exact ixl_0 _ _
  have sh : shp (encW (fndT x t)) = true := by
    cases e : fndT x t with
    | none => rfl
    | some w => exact (ways_tm (by have := fndT_len e; have := ht.dp; omega)).shp (by decide)
  simp (disch := (first | assumption | omega | (simp only [List.length_append, List.length_map, List.length_cons, List.length_nil, List.length_reverse, List.length_take, List.length_drop, List.length_singleton]; omega))) only [u_l3_law, evs, strR_s, List.cons_append, List.nil_append, Bool.and_true, Bool.true_and, Bool.and_false, Bool.false_and, Bool.or_true, Bool.true_or, Bool.or_false, Bool.false_or, Bool.not_true, Bool.not_false, Bool.not_not, fl_nil, fl_cons, bnd_ok, aft_nx, aft_ct, aft_bk, aft_rt, aft_exc, wds, atI_0, atI_1, ixt_2, ixt_last, ixl_last, ixl_0, ixl_1, ex_seto, ex_app, ex_pop, ex_par, own_l, app_own, pop_own, par_ok, set_nil, set_cons, frz_nil, frz_cons, frz_own, frz_dat, frz_no, frz_o2, enum_nil, enum_cons, wipe_nil, wipe_cons, ex_forB, exB_cons, addT, addL, enc_line, enc_op, enc_nx, enc_cl, cut_to, cut_from, cut_from1, cut_from2, cut_fromS, cut_init, rev_tt, eq_ss, ne_ss, skw, ite_true_b, ite_false_b, beq_self_eq_true, if_true, if_false, Bool.false_eq_true, List.map_cons, List.map_nil, lc, so, ix, cf, ne_self sh]
  rfl
theorem law_ok (ns : List Int) (hns : ns.length ≤ 63) : run P (200 + 1) "law" [.list (ns.map PyData.int)] = .ok (.bool true) := by
  rw [h_law.run]
  have d0 : callR (gOf P 200) "_law_mixed" [.list (ns.map PyData.int), .int 0] = .ok (.int (mixI (cellI ns 0) 0)) := (h__law_mixed.call rfl).trans (run_mixed (m := 198) hDraw ns 0 (by decide))
  obtain ⟨t, ht1, ht2⟩ := run_tree (P := P) ⟨hDraw, h__law_tree⟩ 3 195 (mixI (cellI ns 0) 0)
  have c1 : callR (gOf P 200) "_law_tree" [.int (mixI (cellI ns 0) 0), .int 3] = .ok (.tuple (encT t)) := (h__law_tree.call rfl).trans ht2
  have ht := TGood.drawn ht1 (by decide)
  have c2 : callR (gOf P 200) "_law_walk" [.tuple (encT t), .tuple []] = .ok (.list ((wlkT [] t).map Pl.enc)) := call_walk h__law_walk 6 192 t [] (by decide) ht.dp (by have := ht.rows; omega)
  have wl := wlkT_len ht
  obtain ⟨n1, n2⟩ := cntTW t
  have ll := ht.lts
  have c3 : callR (gOf P 200) "_law_letters" [.list ((wlkT [] t).map Pl.enc)] = .ok (.list (((wlkT [] t).flatMap ltP).map Leaf.enc)) := call_law_letters (m := 199) h__law_letters _ (by omega) fun x hx => by
    have := (TGood.part x.1 t x.2 ht (wlkT_at hx).1).len
    omega
  obtain ⟨env1, h1, z3, z4, z5, z6, rfl⟩ := loop_all (tg := .tp [.nm 3, .nm 4]) (g := gOf P 200) (b := l1_law) (fun env => ∃ x3 x4 x5 x6, env = [some (.dat (.list (ns.map PyData.int))), some (.dat (.tuple (encT t))), some (.dat (.list ((wlkT [] t).map Pl.enc))), o2 x3, o2 x4, o2 x5, o2 x6, none, none, none])
    ((wlkT [] t).map Pl.enc) (by
      rintro d hd env ⟨x3, x4, x5, x6, rfl⟩
      obtain ⟨x, hx, rfl⟩ := List.mem_map.mp hd
      obtain ⟨y5, y6, q⟩ := body1 t ht ht1.2 x hx (.list (ns.map PyData.int)) (.list ((wlkT [] t).map Pl.enc)) x5 x6
      exact ⟨_, rfl, _, .inl q, some (.tuple (x.1.map PyData.int)), some (.tuple (encT x.2)), y5, y6, rfl⟩) _ ⟨none, none, none, none, rfl⟩
  obtain ⟨env2, h2, z7, z8, rfl⟩ := loop_all (tg := .nm 7) (g := gOf P 200) (b := l3_law) (fun env => ∃ x7 x8, env = [some (.dat (.list (ns.map PyData.int))), some (.dat (.tuple (encT t))), some (.dat (.list ((wlkT [] t).map Pl.enc))), o2 z3, o2 z4, o2 z5, o2 z6, o2 x7, o2 x8, none])
    ((lnsT t).map PyData.str ++ [.str "none", .str "a"]) (by
      rintro d hd env ⟨x7, x8, rfl⟩
      have hk : ∃ x, d = .str x ∧ sk x = true := by
        rcases List.mem_append.mp hd with hd | hd
        · obtain ⟨x, hx, rfl⟩ := List.mem_map.mp hd
          exact ⟨x, rfl, (lnsT_sk t ht.ok).1 x hx⟩
        · simp only [List.mem_cons, List.not_mem_nil, or_false] at hd
          rcases hd with rfl | rfl <;> exact ⟨_, rfl, by decide +kernel⟩
      obtain ⟨x, rfl, hx⟩ := hk
      obtain ⟨y8, q⟩ := body3 t ht x hx (.list (ns.map PyData.int)) z3 z4 z5 z6 x8
      exact ⟨_, rfl, _, .inl q, some (.str x), y8, rfl⟩) _ ⟨none, none, rfl⟩
  have e1 : ev (gOf P 200) false c1_law [some (.dat (.list (ns.map PyData.int))), some (.dat (.tuple (encT t))), some (.dat (.list ((wlkT [] t).map Pl.enc))), o2 z3, o2 z4, o2 z5, o2 z6, none, none, none] = .ok (.list ((wlkT [] t).map fun x => PyData.int ((x.1.length / 2 : Nat) : Int))) := by
    refine ev_lcM (ec := Pl.enc) (b := fun y => [some (.dat (.list (ns.map PyData.int))), some (.dat (.tuple (encT t))), some (.dat (.list ((wlkT [] t).map Pl.enc))), some (.dat (.tuple (y.1.map PyData.int))), some (.dat (.tuple (encT y.2))), o2 z5, o2 z6, none, none, none]) (by simp only [evs, strR_s, List.cons_append, List.nil_append, Bool.and_true, Bool.true_and, Bool.and_false, Bool.false_and, Bool.or_true, Bool.true_or, Bool.or_false, Bool.false_or, Bool.not_true, Bool.not_false, Bool.not_not, fl_nil, fl_cons, bnd_ok, aft_nx, aft_ct, aft_bk, aft_rt, aft_exc, wds, atI_0, atI_1, ixt_2, ixt_last, ixl_last, ixl_0, ixl_1, ex_seto, ex_app, ex_pop, ex_par, own_l, app_own, pop_own, par_ok, set_nil, set_cons, frz_nil, frz_cons, frz_own, frz_dat, frz_no, frz_o2, enum_nil, enum_cons, wipe_nil, wipe_cons, ex_forB, exB_cons, addT, addL, enc_line, enc_op, enc_nx, enc_cl, cut_to, cut_from, cut_from1, cut_from2, cut_fromS, cut_init, rev_tt, eq_ss, ne_ss, skw, ite_true_b, ite_false_b, beq_self_eq_true, if_true, if_false, Bool.false_eq_true, List.map_cons, List.map_nil]) (fun y hy => by simp only [Pl.enc, evs, strR_s, List.cons_append, List.nil_append, Bool.and_true, Bool.true_and, Bool.and_false, Bool.false_and, Bool.or_true, Bool.true_or, Bool.or_false, Bool.false_or, Bool.not_true, Bool.not_false, Bool.not_not, fl_nil, fl_cons, bnd_ok, aft_nx, aft_ct, aft_bk, aft_rt, aft_exc, wds, atI_0, atI_1, ixt_2, ixt_last, ixl_last, ixl_0, ixl_1, ex_seto, ex_app, ex_pop, ex_par, own_l, app_own, pop_own, par_ok, set_nil, set_cons, frz_nil, frz_cons, frz_own, frz_dat, frz_no, frz_o2, enum_nil, enum_cons, wipe_nil, wipe_cons, ex_forB, exB_cons, addT, addL, enc_line, enc_op, enc_nx, enc_cl, cut_to, cut_from, cut_from1, cut_from2, cut_fromS, cut_init, rev_tt, eq_ss, ne_ss, skw, ite_true_b, ite_false_b, beq_self_eq_true, if_true, if_false, Bool.false_eq_true, List.map_cons, List.map_nil]) (fun y hy => ?_) (by simp only [lim]; omega)
    have hl : ((y.1.map PyData.int).length : Int) = (y.1.length : Int) := by rw [List.length_map]
    simp only [evs, strR_s, List.cons_append, List.nil_append, Bool.and_true, Bool.true_and, Bool.and_false, Bool.false_and, Bool.or_true, Bool.true_or, Bool.or_false, Bool.false_or, Bool.not_true, Bool.not_false, Bool.not_not, fl_nil, fl_cons, bnd_ok, aft_nx, aft_ct, aft_bk, aft_rt, aft_exc, wds, atI_0, atI_1, ixt_2, ixt_last, ixl_last, ixl_0, ixl_1, ex_seto, ex_app, ex_pop, ex_par, own_l, app_own, pop_own, par_ok, set_nil, set_cons, frz_nil, frz_cons, frz_own, frz_dat, frz_no, frz_o2, enum_nil, enum_cons, wipe_nil, wipe_cons, ex_forB, exB_cons, addT, addL, enc_line, enc_op, enc_nx, enc_cl, cut_to, cut_from, cut_from1, cut_from2, cut_fromS, cut_init, rev_tt, eq_ss, ne_ss, skw, ite_true_b, ite_false_b, beq_self_eq_true, if_true, if_false, Bool.false_eq_true, List.map_cons, List.map_nil, hl]
    rfl
  have l8 : ((wlkT [] t).flatMap ltP).length ≤ 100000 := by omega
  have isl : ∀ l ∈ (wlkT [] t).flatMap ltP, isLt l = true := fun l hl => by
    obtain ⟨x, _, hx⟩ := List.mem_flatMap.mp hl
    exact (List.mem_filter.mp hx).2
  have e3 : ev (gOf P 200) false c3_law [some (.dat (.list (ns.map PyData.int))), some (.dat (.tuple (encT t))), some (.dat (.list ((wlkT [] t).map Pl.enc))), o2 z3, o2 z4, o2 z5, o2 z6, o2 z7, some (.dat (.list (((wlkT [] t).flatMap ltP).map Leaf.enc))), none] = .ok (.list (((wlkT [] t).flatMap ltP).map fun l => PyData.int (nP l : Int))) := by
    refine ev_lcM (ec := Leaf.enc) (b := fun l => [some (.dat (.list (ns.map PyData.int))), some (.dat (.tuple (encT t))), some (.dat (.list ((wlkT [] t).map Pl.enc))), o2 z3, o2 z4, o2 z5, o2 z6, o2 z7, some (.dat (.list (((wlkT [] t).flatMap ltP).map Leaf.enc))), some (.dat l.enc)]) (by simp only [evs, strR_s, List.cons_append, List.nil_append, Bool.and_true, Bool.true_and, Bool.and_false, Bool.false_and, Bool.or_true, Bool.true_or, Bool.or_false, Bool.false_or, Bool.not_true, Bool.not_false, Bool.not_not, fl_nil, fl_cons, bnd_ok, aft_nx, aft_ct, aft_bk, aft_rt, aft_exc, wds, atI_0, atI_1, ixt_2, ixt_last, ixl_last, ixl_0, ixl_1, ex_seto, ex_app, ex_pop, ex_par, own_l, app_own, pop_own, par_ok, set_nil, set_cons, frz_nil, frz_cons, frz_own, frz_dat, frz_no, frz_o2, enum_nil, enum_cons, wipe_nil, wipe_cons, ex_forB, exB_cons, addT, addL, enc_line, enc_op, enc_nx, enc_cl, cut_to, cut_from, cut_from1, cut_from2, cut_fromS, cut_init, rev_tt, eq_ss, ne_ss, skw, ite_true_b, ite_false_b, beq_self_eq_true, if_true, if_false, Bool.false_eq_true, List.map_cons, List.map_nil]) (fun y hy => by simp only [evs, strR_s, List.cons_append, List.nil_append, Bool.and_true, Bool.true_and, Bool.and_false, Bool.false_and, Bool.or_true, Bool.true_or, Bool.or_false, Bool.false_or, Bool.not_true, Bool.not_false, Bool.not_not, fl_nil, fl_cons, bnd_ok, aft_nx, aft_ct, aft_bk, aft_rt, aft_exc, wds, atI_0, atI_1, ixt_2, ixt_last, ixl_last, ixl_0, ixl_1, ex_seto, ex_app, ex_pop, ex_par, own_l, app_own, pop_own, par_ok, set_nil, set_cons, frz_nil, frz_cons, frz_own, frz_dat, frz_no, frz_o2, enum_nil, enum_cons, wipe_nil, wipe_cons, ex_forB, exB_cons, addT, addL, enc_line, enc_op, enc_nx, enc_cl, cut_to, cut_from, cut_from1, cut_from2, cut_fromS, cut_init, rev_tt, eq_ss, ne_ss, skw, ite_true_b, ite_false_b, beq_self_eq_true, if_true, if_false, Bool.false_eq_true, List.map_cons, List.map_nil]) (fun l hl => ?_) (by simp only [lim]; omega)
    cases l with
    | line s => exact nomatch isl _ hl
    | letter n ps =>
      have ep := encPs_len ps
      simp only [evs, strR_s, List.cons_append, List.nil_append, Bool.and_true, Bool.true_and, Bool.and_false, Bool.false_and, Bool.or_true, Bool.true_or, Bool.or_false, Bool.false_or, Bool.not_true, Bool.not_false, Bool.not_not, fl_nil, fl_cons, bnd_ok, aft_nx, aft_ct, aft_bk, aft_rt, aft_exc, wds, atI_0, atI_1, ixt_2, ixt_last, ixl_last, ixl_0, ixl_1, ex_seto, ex_app, ex_pop, ex_par, own_l, app_own, pop_own, par_ok, set_nil, set_cons, frz_nil, frz_cons, frz_own, frz_dat, frz_no, frz_o2, enum_nil, enum_cons, wipe_nil, wipe_cons, ex_forB, exB_cons, addT, addL, enc_line, enc_op, enc_nx, enc_cl, cut_to, cut_from, cut_from1, cut_from2, cut_fromS, cut_init, rev_tt, eq_ss, ne_ss, skw, ite_true_b, ite_false_b, beq_self_eq_true, if_true, if_false, Bool.false_eq_true, List.map_cons, List.map_nil, enc_lt, ep, nP]
  have sm := sum_nat nP ((wlkT [] t).flatMap ltP)
  have al : binD .Add (.tuple ((lnsT t).map PyData.str)) (.tuple [.str "none", .str "a"]) = .ok (.tuple ((lnsT t).map PyData.str ++ [.str "none", .str "a"])) := by
    have := ht.lns
    exact addT (by rw [List.length_map]; simp only [List.length_cons, List.length_nil]; omega)
  have ln1 : ((((ltsT t).map PyData.str).length : Nat) : Int) = ((((wlkT [] t).flatMap ltP).map Leaf.enc).length : Nat) := by rw [List.length_map, List.length_map, n1]
  have fin : ((((wlkT [] t).map Pl.enc).length : Nat) : Int) = 1 + (((((wlkT [] t).flatMap ltP).map nP).sum : Nat) : Int) := by
    rw [List.length_map, n2]
    show _ = 1 + ((sP ((wlkT [] t).flatMap ltP) : Nat) : Int)
    omega
  simp (disch := (first | assumption | omega | (simp only [List.length_append, List.length_map, List.length_cons, List.length_nil, List.length_reverse, List.length_take, List.length_drop, List.length_singleton]; omega))) only [b_law, evs, strR_s, List.cons_append, List.nil_append, Bool.and_true, Bool.true_and, Bool.and_false, Bool.false_and, Bool.or_true, Bool.true_or, Bool.or_false, Bool.false_or, Bool.not_true, Bool.not_false, Bool.not_not, bnd_ok, aft_nx, aft_ct, aft_bk, aft_rt, aft_exc, wds, atI_0, atI_1, ixt_2, ixt_last, ixl_last, ixl_0, ixl_1, ex_seto, ex_app, ex_pop, ex_par, own_l, app_own, pop_own, par_ok, set_nil, set_cons, frz_nil, frz_cons, frz_own, frz_dat, frz_no, frz_o2, enum_nil, enum_cons, wipe_nil, wipe_cons, ex_forB, exB_cons, addT, addL, enc_line, enc_op, enc_nx, enc_cl, cut_to, cut_from, cut_from1, cut_from2, cut_fromS, cut_init, rev_tt, eq_ss, ne_ss, skw, ite_true_b, ite_false_b, beq_self_eq_true, if_true, if_false, Bool.false_eq_true, List.map_cons, List.map_nil, d0, c1, c2]
  rw [show [some (Sl.dat (.list (ns.map PyData.int))), some (Sl.dat (.tuple (encT t))), some (Sl.dat (.list ((wlkT [] t).map Pl.enc))), none, none, none, none, none, none, none] = [some (.dat (.list (ns.map PyData.int))), some (.dat (.tuple (encT t))), some (.dat (.list ((wlkT [] t).map Pl.enc))), o2 none, o2 none, o2 none, o2 none, none, none, none] from rfl, h1]
  simp (disch := (first | assumption | omega | (simp only [List.length_append, List.length_map, List.length_cons, List.length_nil, List.length_reverse, List.length_take, List.length_drop, List.length_singleton]; omega))) only [evs, strR_s, List.cons_append, List.nil_append, Bool.and_true, Bool.true_and, Bool.and_false, Bool.false_and, Bool.or_true, Bool.true_or, Bool.or_false, Bool.false_or, Bool.not_true, Bool.not_false, Bool.not_not, bnd_ok, aft_nx, aft_ct, aft_bk, aft_rt, aft_exc, wds, atI_0, atI_1, ixt_2, ixt_last, ixl_last, ixl_0, ixl_1, ex_seto, ex_app, ex_pop, ex_par, own_l, app_own, pop_own, par_ok, set_nil, set_cons, frz_nil, frz_cons, frz_own, frz_dat, frz_no, frz_o2, enum_nil, enum_cons, wipe_nil, wipe_cons, ex_forB, exB_cons, addT, addL, enc_line, enc_op, enc_nx, enc_cl, cut_to, cut_from, cut_from1, cut_from2, cut_fromS, cut_init, rev_tt, eq_ss, ne_ss, skw, ite_true_b, ite_false_b, beq_self_eq_true, if_true, if_false, Bool.false_eq_true, List.map_cons, List.map_nil, e1, max_walk ht.ok, c_deep ht, c_lines ht, al]
  rw [show [some (Sl.dat (.list (ns.map PyData.int))), some (Sl.dat (.tuple (encT t))), some (Sl.dat (.list ((wlkT [] t).map Pl.enc))), o2 z3, o2 z4, o2 z5, o2 z6, none, none, none] = [some (.dat (.list (ns.map PyData.int))), some (.dat (.tuple (encT t))), some (.dat (.list ((wlkT [] t).map Pl.enc))), o2 z3, o2 z4, o2 z5, o2 z6, o2 none, o2 none, none] from rfl, h2]
  simp (disch := (first | assumption | omega | (simp only [List.length_append, List.length_map, List.length_cons, List.length_nil, List.length_reverse, List.length_take, List.length_drop, List.length_singleton]; omega))) only [evs, strR_s, List.cons_append, List.nil_append, Bool.and_true, Bool.true_and, Bool.and_false, Bool.false_and, Bool.or_true, Bool.true_or, Bool.or_false, Bool.false_or, Bool.not_true, Bool.not_false, Bool.not_not, bnd_ok, aft_nx, aft_ct, aft_bk, aft_rt, aft_exc, wds, atI_0, atI_1, ixt_2, ixt_last, ixl_last, ixl_0, ixl_1, ex_seto, ex_app, ex_pop, ex_par, own_l, app_own, pop_own, par_ok, set_nil, set_cons, frz_nil, frz_cons, frz_own, frz_dat, frz_no, frz_o2, enum_nil, enum_cons, wipe_nil, wipe_cons, ex_forB, exB_cons, addT, addL, enc_line, enc_op, enc_nx, enc_cl, cut_to, cut_from, cut_from1, cut_from2, cut_fromS, cut_init, rev_tt, eq_ss, ne_ss, skw, ite_true_b, ite_false_b, beq_self_eq_true, if_true, if_false, Bool.false_eq_true, List.map_cons, List.map_nil, c3, c_letters ht, ln1, e3, sm, fin]
end K33
open PySem PySem.W PyProof.Rows
set_option maxRecDepth 100000 in
set_option maxHeartbeats 0 in
theorem PySem.Challenge.cw_brokenparts_k33_whole_all_ways_holds : PySem.Challenge.rw_brokenparts_k33_whole_all_ways.Holds := by
  w_on; o_law; k_head; (case hw => w_witness2)
  k_fill
  refine Ev.walk_told (l := PySem.Challenge.rw_brokenparts_k33_whole_all_ways) (n := 63) (k := 0 + 200 + 1) (x := "_law_script") (c := ?cc) (Pt := ?Pt) rfl (by decide) rfl ⟨rfl, by decide, by decide⟩ (fun w h Y => PySem.W.km_in_of Y) ?hrec ?ht ?nT ?F
  case hrec => kernel_rfl
  case ht => intro w; refine' Ev.tab_in ?h1 ?h2 ?h3 ?h4 ?h5; (case h1 => k_is); (case h2 => k_is); (case h3 => rfl); (case h4 => k_is); (case h5 => rfl)
  case nT => intro w; first | k_is | kernel_rfl
  case F =>
    intro w mg fa h KX G hmg
    refine' K33.all_mk KX G hmg ?ha0 ?hl0 ?hc0 ?hk0 ?ha1 ?hl1 ?hc1 ?hk1 ?ha2 ?hl2 ?hc2 ?hk2 ?ha3 ?hl3 ?hc3 ?hk3 ?ha4 ?hl4 ?hc4 ?hk4 ?ha5 ?hl5 ?hc5 ?hk5 ?ha6 ?hl6 ?hc6 ?hk6 ?ha7 ?hl7 ?hc7 ?hk7 ?ha8 ?hl8 ?hc8 ?hk8 ?ha9 ?hl9 ?hc9 ?hk9 ?ha10 ?hl10 ?hc10 ?hk10 ?ha11 ?hl11 ?hc11 ?hk11 ?ha12 ?hl12 ?hc12 ?hk12 ?hz0 ?hz1 ?hz2 ?hz3 ?hz4 ?hz5 ?hz6 ?hz7 ?hz8 ?hx0 ?hxe0 ?hxk0 ?hxs0 ?hxt0 ?hx1 ?hxe1 ?hxk1 ?hxs1 ?hxt1 ?hx2 ?hxe2 ?hxk2 ?hxs2 ?hxt2 ?hx3 ?hxe3 ?hxk3 ?hxs3 ?hxt3 ?haT ?hlT ?hcT ?hkT ?hxP ?hziT ?hzvT ?htg0 ?htk0 ?htd0 ?hta0 ?htn0 ?htt0 ?htm0 ?hti00 ?hti01 ?hti02 ?hti03 ?htv0 ?hte0 ?htg1 ?htk1 ?htd1 ?hta1 ?htn1 ?htt1 ?htm1 ?hti10 ?hti11 ?hti12 ?hti13 ?htv1 ?hte1 ?htg2 ?htk2 ?htd2 ?hta2 ?htn2 ?htt2 ?htm2 ?hti20 ?hti21 ?hti22 ?hti23 ?htv2 ?hte2 ?htg3 ?htk3 ?htd3 ?hta3 ?htn3 ?htt3 ?htm3 ?hti30 ?hti31 ?hti32 ?hti33 ?htv3 ?hte3 K33.law_ok
    (case ha0 => first | k_is | kernel_rfl)
    (case hl0 => first | k_is | kernel_rfl)
    (case hc0 => first | k_is | kernel_rfl)
    (case hk0 => first | k_is | kernel_rfl)
    (case ha1 => first | k_is | kernel_rfl)
    (case hl1 => first | k_is | kernel_rfl)
    (case hc1 => first | k_is | kernel_rfl)
    (case hk1 => first | k_is | kernel_rfl)
    (case ha2 => first | k_is | kernel_rfl)
    (case hl2 => first | k_is | kernel_rfl)
    (case hc2 => first | k_is | kernel_rfl)
    (case hk2 => first | k_is | kernel_rfl)
    (case ha3 => first | k_is | kernel_rfl)
    (case hl3 => first | k_is | kernel_rfl)
    (case hc3 => first | k_is | kernel_rfl)
    (case hk3 => first | k_is | kernel_rfl)
    (case ha4 => first | k_is | kernel_rfl)
    (case hl4 => first | k_is | kernel_rfl)
    (case hc4 => first | k_is | kernel_rfl)
    (case hk4 => first | k_is | kernel_rfl)
    (case ha5 => first | k_is | kernel_rfl)
    (case hl5 => first | k_is | kernel_rfl)
    (case hc5 => first | k_is | kernel_rfl)
    (case hk5 => first | k_is | kernel_rfl)
    (case ha6 => first | k_is | kernel_rfl)
    (case hl6 => first | k_is | kernel_rfl)
    (case hc6 => first | k_is | kernel_rfl)
    (case hk6 => first | k_is | kernel_rfl)
    (case ha7 => first | k_is | kernel_rfl)
    (case hl7 => first | k_is | kernel_rfl)
    (case hc7 => first | k_is | kernel_rfl)
    (case hk7 => first | k_is | kernel_rfl)
    (case ha8 => first | k_is | kernel_rfl)
    (case hl8 => first | k_is | kernel_rfl)
    (case hc8 => first | k_is | kernel_rfl)
    (case hk8 => first | k_is | kernel_rfl)
    (case ha9 => first | k_is | kernel_rfl)
    (case hl9 => first | k_is | kernel_rfl)
    (case hc9 => first | k_is | kernel_rfl)
    (case hk9 => first | k_is | kernel_rfl)
    (case ha10 => first | k_is | kernel_rfl)
    (case hl10 => first | k_is | kernel_rfl)
    (case hc10 => first | k_is | kernel_rfl)
    (case hk10 => first | k_is | kernel_rfl)
    (case ha11 => first | k_is | kernel_rfl)
    (case hl11 => first | k_is | kernel_rfl)
    (case hc11 => first | k_is | kernel_rfl)
    (case hk11 => first | k_is | kernel_rfl)
    (case ha12 => first | k_is | kernel_rfl)
    (case hl12 => first | k_is | kernel_rfl)
    (case hc12 => first | k_is | kernel_rfl)
    (case hk12 => first | k_is | kernel_rfl)
    (case hz0 => first | k_is | kernel_rfl)
    (case hz1 => first | k_is | kernel_rfl)
    (case hz2 => first | k_is | kernel_rfl)
    (case hz3 => first | k_is | kernel_rfl)
    (case hz4 => first | k_is | kernel_rfl)
    (case hz5 => first | k_is | kernel_rfl)
    (case hz6 => first | k_is | kernel_rfl)
    (case hz7 => first | k_is | kernel_rfl)
    (case hz8 => first | k_is | kernel_rfl)
    (case hx0 => first | k_is | kernel_rfl)
    (case hxe0 => first | k_is | kernel_rfl)
    (case hxk0 => first | k_is | kernel_rfl)
    (case hxs0 => first | k_is | kernel_rfl)
    (case hxt0 => first | k_is | kernel_rfl)
    (case hx1 => first | k_is | kernel_rfl)
    (case hxe1 => first | k_is | kernel_rfl)
    (case hxk1 => first | k_is | kernel_rfl)
    (case hxs1 => first | k_is | kernel_rfl)
    (case hxt1 => first | k_is | kernel_rfl)
    (case hx2 => first | k_is | kernel_rfl)
    (case hxe2 => first | k_is | kernel_rfl)
    (case hxk2 => first | k_is | kernel_rfl)
    (case hxs2 => first | k_is | kernel_rfl)
    (case hxt2 => first | k_is | kernel_rfl)
    (case hx3 => first | k_is | kernel_rfl)
    (case hxe3 => first | k_is | kernel_rfl)
    (case hxk3 => first | k_is | kernel_rfl)
    (case hxs3 => first | k_is | kernel_rfl)
    (case hxt3 => first | k_is | kernel_rfl)
    (case haT => first | k_is | kernel_rfl)
    (case hlT => first | k_is | kernel_rfl)
    (case hcT => first | k_is | kernel_rfl)
    (case hkT => first | k_is | kernel_rfl)
    (case hxP => first | k_is | kernel_rfl)
    (case hziT => first | k_is | kernel_rfl)
    (case hzvT => first | k_is | kernel_rfl)
    (case htg0 => first | k_is | kernel_rfl)
    (case htk0 => first | k_is | kernel_rfl)
    (case htd0 => first | k_is | kernel_rfl)
    (case hta0 => first | k_is | kernel_rfl)
    (case htn0 => first | k_is | kernel_rfl)
    (case htt0 => first | k_is | kernel_rfl)
    (case htm0 => first | k_is | kernel_rfl)
    (case hti00 => first | k_is | kernel_rfl)
    (case hti01 => first | k_is | kernel_rfl)
    (case hti02 => first | k_is | kernel_rfl)
    (case hti03 => first | k_is | kernel_rfl)
    (case htv0 => first | k_is | kernel_rfl)
    (case hte0 => first | k_is | kernel_rfl)
    (case htg1 => first | k_is | kernel_rfl)
    (case htk1 => first | k_is | kernel_rfl)
    (case htd1 => first | k_is | kernel_rfl)
    (case hta1 => first | k_is | kernel_rfl)
    (case htn1 => first | k_is | kernel_rfl)
    (case htt1 => first | k_is | kernel_rfl)
    (case htm1 => first | k_is | kernel_rfl)
    (case hti10 => first | k_is | kernel_rfl)
    (case hti11 => first | k_is | kernel_rfl)
    (case hti12 => first | k_is | kernel_rfl)
    (case hti13 => first | k_is | kernel_rfl)
    (case htv1 => first | k_is | kernel_rfl)
    (case hte1 => first | k_is | kernel_rfl)
    (case htg2 => first | k_is | kernel_rfl)
    (case htk2 => first | k_is | kernel_rfl)
    (case htd2 => first | k_is | kernel_rfl)
    (case hta2 => first | k_is | kernel_rfl)
    (case htn2 => first | k_is | kernel_rfl)
    (case htt2 => first | k_is | kernel_rfl)
    (case htm2 => first | k_is | kernel_rfl)
    (case hti20 => first | k_is | kernel_rfl)
    (case hti21 => first | k_is | kernel_rfl)
    (case hti22 => first | k_is | kernel_rfl)
    (case hti23 => first | k_is | kernel_rfl)
    (case htv2 => first | k_is | kernel_rfl)
    (case hte2 => first | k_is | kernel_rfl)
    (case htg3 => first | k_is | kernel_rfl)
    (case htk3 => first | k_is | kernel_rfl)
    (case htd3 => first | k_is | kernel_rfl)
    (case hta3 => first | k_is | kernel_rfl)
    (case htn3 => first | k_is | kernel_rfl)
    (case htt3 => first | k_is | kernel_rfl)
    (case htm3 => first | k_is | kernel_rfl)
    (case hti30 => first | k_is | kernel_rfl)
    (case hti31 => first | k_is | kernel_rfl)
    (case hti32 => first | k_is | kernel_rfl)
    (case hti33 => first | k_is | kernel_rfl)
    (case htv3 => first | k_is | kernel_rfl)
    (case hte3 => first | k_is | kernel_rfl)
