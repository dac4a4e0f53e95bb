import PyProof.Rows.All
import Wide.All
import OpenK.AllK
import Wide.FinOn
import HandS.ForMost
import HandS.Defaults
import HandS.Deep
import HandS.IsInst
import HandS.Flow
import KE.KDictPairs
import KE.KDictCopyH
import HandS.TupAny
import HandS.TupMul
import HandS.Style
import HandS.Conv
import HandS.ListItems
import HandS.DictComp
import HandS.HeadHook1
import HandS.SortInts
import HandS.RaiseMore
import HandS.TryOnly
import HandS.MakeKwOnly
import HandS.Head0
import HandS.Head1
import HandS.Head2
import HandS.HeadEnd
import HandS.HeadHook2
import KE.KStar
import PySem.Challenge.RW_refundtrees_k70_whole_wants_told_back
set_option Elab.async false
set_option linter.all false
set_option maxRecDepth 100000
namespace Dm
open PySem

abbrev Kx := Sum Int Str
inductive Ky where
  | k (k : Kx) | t (ks : List Kx)
  deriving DecidableEq

inductive D where
  | non | bl (b : Bool) | int (i : Int) | str (x : Str)
  | lst (xs : List D) | tup (xs : List D)
  | dic (kvs : List (Ky × D))
  | ins (c : Nat) (fs : List (Str × D))
  | scr (ns : List Int)
  | odd (n : Nat)
  deriving Inhabited

mutual
def D.py : D → Option PyData
  | .non => some .none
  | .bl b => some (.bool b)
  | .int i => some (.int i)
  | .str x => some (.str x)
  | .lst xs => (D.pys xs).map PyData.list
  | .tup xs => (D.pys xs).map PyData.tuple
  | .dic _ => none
  | .ins _ _ => none
  | .scr _ => none
  | .odd _ => none
def D.pys : List D → Option (List PyData)
  | [] => some []
  | x :: xs => match D.py x, D.pys xs with
    | some a, some as => some (a :: as)
    | _, _ => none
end

def lookD (kvs : List (Ky × D)) (k : Ky) : Option D := match kvs with
  | [] => none
  | (a, v) :: r => if a = k then some v else lookD r k
/-- the pairs of one dict in another one -/
def hitsD (kb : List (Ky × D)) : List (Ky × D) → Option Bool
  | [] => some true
  | (k, x) :: r => match lookD kb k with
    | none => some false
    | some y => match x.py, y.py with
      | some a, some b => if SeqAt.shaped a && SeqAt.shaped b then (hitsD kb r).map (PyData.eqv a b && ·) else none
      | _, _ => none
def deqK (ka kb : List (Ky × D)) : Option Bool := if ka.length = kb.length then hitsD kb ka else some false
/-- == -/
def deq : D → D → Option Bool
  | .int i, .int j => some (decide (i = j))
  | .str a, .str b => some (decide (a = b))
  | .bl a, .bl b => some (a == b)
  | .non, .non => some true
  | .lst [], .lst [] => some true
  | .lst (_ :: _), .lst [] => some false
  | .tup [], .tup [] => some true
  | .tup (_ :: _), .tup [] => some false
  | a, b => match a.py, b.py with
    | some x, some y => if SeqAt.shaped x && SeqAt.shaped y then some (PyData.eqv x y) else none
    | _, _ => match a, b with
      | .lst xs, .lst ys => if xs.length = ys.length then none else some false
      | .dic ka, .dic kb => deqK ka kb
      | _, _ => none

def tru : D → Option Bool
  | .non => some false
  | .bl b => some b
  | .int i => some (i != 0)
  | .str x => if x.length ≤ sizeLine then some (x.length != 0) else none
  | .lst xs => some (!xs.isEmpty)
  | .tup xs => some (!xs.isEmpty)
  | .dic _ => none
  | .ins _ _ => none
  | .scr _ => none
  | .odd _ => none

def D.flat : D → Bool
  | .non | .bl _ | .int _ | .str _ => true
  | _ => false
def eqF : D → D → Bool
  | .non, .non => true
  | .bl a, .bl b => a == b
  | .bl a, .int b => (if a then 1 else 0) == b
  | .int a, .bl b => a == (if b then 1 else 0)
  | .int a, .int b => a == b
  | .str a, .str b => a == b
  | _, _ => false

/-- the key that a value is -/
def D.key : D → Option Ky
  | .int i => some (.k (.inl i))
  | .str x => some (.k (.inr x))
  | _ => none
def Ky.d : Ky → D
  | .k (.inl i) => .int i
  | .k (.inr x) => .str x
  | .t ks => .tup (ks.map fun | .inl i => .int i | .inr x => .str x)
def putD (kvs : List (Ky × D)) (k : Ky) (v : D) : List (Ky × D) :=
  if (kvs.any fun p => decide (p.1 = k)) = true then kvs.map (fun p => if p.1 = k then (p.1, v) else p) else kvs ++ [(k, v)]

/-- x in a row -/
def inRow (x : D) (xs : List D) : Option Bool :=
  if x.flat && xs.all D.flat then some (xs.any fun y => eqF y x)
  else match x.py, D.pys xs with
    | some a, some as => if SeqAt.shaped a && SeqAt.shaped (.list as) then some (as.any fun b => PyData.eqv b a) else none
    | _, _ => none
def din (x c : D) : Option Bool := match c with
  | .lst xs => inRow x xs
  | .tup xs => if x.flat && xs.all D.flat then some (xs.any fun y => eqF y x) else none
  | .dic kvs => match x.key with
    | some k => some (lookD kvs k).isSome
    | none => none
  | .str z => match x with
    | .str ⟨⟨[c]⟩⟩ => some (decide (c ∈ z.cps.toList))
    | _ => none
  | _ => none

inductive Res (α : Type) where
  | ok (a : α) | exc (c : Nat) (d : D) | bad
  deriving Inhabited
def Res.bind {α β : Type} (r : Res α) (f : α → Res β) : Res β := match r with
  | .ok a => f a
  | .exc c d => .exc c d
  | .bad => .bad
instance : Monad Res where
  pure := .ok
  bind := Res.bind
def ofO {α : Type} : Option α → Res α
  | some a => .ok a
  | none => .bad

inductive Slot where
  | un | dat (d : D) | own (d : D) | io (d : D) | bor (d : D)
  deriving Inhabited
abbrev En := List Slot

def M64 : Int := 18446744073709551616
def LIM : Nat := 16777216

def binD (op : Operator) (a b : D) : Option D := match op, a, b with
  | .Add, .int i, .int j => some (.int (i + j))
  | .Add, .str x, .str y => if x.length + y.length ≤ sizeLine then some (.str (x ++ y)) else none
  | .Add, .lst xs, .lst ys => if xs.length + ys.length ≤ sizeLine then some (.lst (xs ++ ys)) else none
  | .Add, .tup xs, .tup ys => if xs.length + ys.length ≤ sizeLine then some (.tup (xs ++ ys)) else none
  | .Sub, .int i, .int j => some (.int (i - j))
  | .Mult, .int i, .int j => if (-M64 < i ∧ i < M64) ∨ (-M64 < j ∧ j < M64) then some (.int (i * j)) else none
  | .Mult, .lst xs, .int j => if 0 ≤ j ∧ j ≤ 1000 ∧ xs.length * j.toNat ≤ sizeLine then some (.lst ((List.replicate j.toNat xs).flatten)) else none
  | .Mult, .tup xs, .int j => if xs.isEmpty = false ∧ 2 ≤ j ∧ j ≤ 1000 ∧ xs.length ≤ 1000 then some (.tup ((List.replicate j.toNat xs).flatten)) else none
  | .FloorDiv, .int i, .int j => if 0 < j ∧ j < 1073741824 then some (.int (i / j)) else none
  | .Mod, .int i, .int j => if 0 < j then some (.int (i % j)) else none
  | .Pow, .int i, .int j => if 0 ≤ j ∧ j ≤ 1000000 ∧ i.natAbs < 2 ^ 64 then some (.int (i ^ j.toNat)) else none
  | .BitAnd, .int i, .int j => some (.int (Builtin.bitAnd i j))
  | .BitOr, .int i, .int j => some (.int (Builtin.bitOr i j))
  | .BitXor, .int i, .int j => some (.int (Builtin.bitXor i j))
  | _, _, _ => none

def cmpD (op : CmpOp) (a b : D) : Option Bool := match op with
  | .Eq => deq a b
  | .NotEq => (deq a b).map not
  | .Lt => match a, b with | .int i, .int j => some (decide (i < j)) | _, _ => none
  | .LtE => match a, b with | .int i, .int j => some (decide (i ≤ j)) | _, _ => none
  | .Gt => match a, b with | .int i, .int j => some (decide (j < i)) | _, _ => none
  | .GtE => match a, b with | .int i, .int j => some (decide (j ≤ i)) | _, _ => none
  | .Is => match b with | .non => (match a with | .non => some true | _ => some false) | _ => none
  | .IsNot => match b with | .non => (match a with | .non => some false | _ => some true) | _ => none
  | .In => din a b
  | .NotIn => (din a b).map not

/-- xs[i] -/
def atD (xs : List D) (i : Int) : Option D := if 0 ≤ i then xs[i.toNat]? else if 0 ≤ i + xs.length then xs[(i + xs.length).toNat]? else none
def subD (a i : D) : Option D := match a, i with
  | .lst xs, .int j => atD xs j
  | .tup xs, .int j => atD xs j
  | .scr ns, .int j => atD (ns.map .int) j
  | .dic kvs, k => match k.key with
    | some k => lookD kvs k
    | none => none
  | _, _ => none
/-- a slice's end, within the row -/
def sIx (n d : Nat) : Option Int → Nat
  | none => d
  | some v => if v < 0 then (v + (n : Int)).toNat else min v.toNat n
def cut (xs : List D) (lo hi : Option Int) : List D := (xs.drop (sIx xs.length 0 lo)).take (sIx xs.length xs.length hi - sIx xs.length 0 lo)
def slcD (a : D) (lo hi : Option (Option Int)) : Option D := match lo, hi with
  | some l, some h => (match a with
    | .lst xs => some (.lst (cut xs l h))
    | .tup xs => some (.tup (cut xs l h))
    | _ => none)
  | _, _ => none
def revD : D → Option D
  | .lst xs => some (.lst xs.reverse)
  | .tup xs => some (.tup xs.reverse)
  | _ => none

/-- range(n), as what is walked -/
def rngD : D → Option D
  | .int n => if -100000 ≤ n ∧ n ≤ 100000 then some (.lst ((List.range n.toNat).map fun i => .int (i : Nat))) else none
  | _ => none
/-- what is walked -/
def signs (x : Str) : List D := x.cps.toList.map fun c => .str ⟨#[c]⟩
def rows (d : D) : Option (List D) := match d with
  | .lst xs => some xs
  | .tup xs => some xs
  | .str x => if x.length ≤ sizeLine then some (signs x) else none
  | _ => none

def isTy (d : D) (t : String) : Bool := match d with
  | .non => false
  | .bl _ => t == "bool" || t == "int"
  | .int _ => t == "int"
  | .str _ => t == "str"
  | .lst _ => t == "list"
  | .tup _ => t == "tuple"
  | .dic _ => t == "dict"
  | .ins _ _ => false
  | .scr _ => false
  | .odd _ => t == "dict"

def D.isIns : D → Bool
  | .ins _ _ => true
  | .scr _ => true
  | _ => false
def D.isMut : D → Bool
  | .lst _ | .dic _ | .ins _ _ => true
  | _ => false
inductive Blt where
  | len | int | max2 | min2 | all | any | sum | tuple | list | dict | srt | strO | repr
  deriving DecidableEq
def bitsOf : List D → Option (List Bool)
  | [] => some []
  | .bl b :: r => (bitsOf r).map (b :: ·)
  | _ :: _ => none
def numsOf : List D → Option (List Int)
  | [] => some []
  | .int b :: r => (numsOf r).map (b :: ·)
  | _ :: _ => none
def pairs : List D → Option (List (Ky × D))
  | [] => some []
  | .tup [k, v] :: r => match k.key, pairs r with
    | some k, some ps => some ((k, v) :: ps)
    | _, _ => none
  | _ :: _ => none
def merge (kvs more : List (Ky × D)) : List (Ky × D) := more.foldl (fun acc p => putD acc p.1 p.2) kvs
/-- a last pair with the key None -/
def oddN (xs : List D) : Option Nat := match xs.getLast?, pairs xs.dropLast with
  | some (.tup [.non, _]), some ps => some ((merge [] ps).length + 1)
  | _, _ => none
def insI (x : Int) : List Int → List Int
  | [] => [x]
  | y :: l => if x ≤ y then x :: y :: l else y :: insI x l
def sortI : List Int → List Int
  | [] => []
  | x :: l => insI x (sortI l)
/-- x ≤ y -/
def leS (x y : Str) : Bool := !Spec.ltCps y.cps.toList x.cps.toList
def insS (x : Str) : List Str → List Str
  | [] => [x]
  | y :: l => if leS x y then x :: y :: l else y :: insS x l
def sortS : List Str → List Str
  | [] => []
  | x :: l => insS x (sortS l)
def textsOf : List D → Option (List Str)
  | [] => some []
  | .str b :: r => (textsOf r).map (b :: ·)
  | _ :: _ => none
/-- repr(x) -/
def reprD (d : D) : Option D := match d.py with
  | some x => if x.showable && !x.hasDict && decide (x.depth ≤ 60) && decide (x.shown.length ≤ sizeLine) then some (.str x.shown) else none
  | none => none
def bltD (b : Blt) (args : List D) : Option D := match b, args with
  | .len, [.str x] => if x.length ≤ sizeLine then some (.int x.length) else none
  | .len, [.lst xs] => some (.int xs.length)
  | .len, [.tup xs] => some (.int xs.length)
  | .len, [.dic xs] => some (.int xs.length)
  | .len, [.scr xs] => some (.int xs.length)
  | .len, [.odd n] => some (.int n)
  | .int, [.int i] => some (.int i)
  | .int, [.bl b] => some (.int (if b then 1 else 0))
  | .max2, [.int i, .int j] => some (.int (if j > i then j else i))
  | .min2, [.int i, .int j] => some (.int (if j < i then j else i))
  | .all, [.lst xs] => (bitsOf xs).map fun bs => .bl (bs.all id)
  | .any, [.lst xs] => (bitsOf xs).map fun bs => .bl (bs.any id)
  | .sum, [.lst xs] => (numsOf xs).map fun bs => .int bs.sum
  | .tuple, [.lst xs] => some (.tup xs)
  | .tuple, [.tup xs] => some (.tup xs)
  | .list, [.lst xs] => some (.lst xs)
  | .list, [.tup xs] => some (.lst xs)
  | .dict, [.lst xs] => match pairs xs with
    | some ps => some (.dic (merge [] ps))
    | none => (oddN xs).map D.odd
  | .srt, [.lst xs] => match numsOf xs with
    | some ns => some (.lst ((sortI ns).map D.int))
    | none => (match textsOf xs with
      | some ss => if ss.length < 64 then some (.lst ((sortS ss).map D.str)) else none
      | none => none)
  | .strO, [.str x] => some (.str x)
  | .repr, [d] => reprD d
  | _, _ => none

def itemsD : D → Option D
  | .dic kvs => some (.lst (kvs.map fun p => .tup [p.1.d, p.2]))
  | _ => none

/-- a constant of the module -/
inductive Cv where
  | int (i : Int) | str (s : Str)
  deriving DecidableEq, Inhabited
def Cv.d : Cv → D
  | .int i => .int i
  | .str s => .str s
inductive Ex where
  | nil | cons (e es : Ex)
  | var (i : Nat)
  | con (x : Str) (c : Cv)
  | cI (i : Int) | cS (s : Str) | cB (b : Bool) | cN
  | lst (es : Ex) | tup (es : Ex)
  | dic0
  | bin (op : Operator) (a b : Ex)
  | neg (a : Ex) | not (a : Ex) | and (a b : Ex) | or (a b : Ex)
  | cmp (op : CmpOp) (a b : Ex) | chn (op op' : CmpOp) (a b c : Ex)
  | ife (c a b : Ex)
  | isi (a : Ex) (tys : List String)
  | cal (f : Nat) (args : Ex) (fresh : Bool)
  | ioA (i : Nat) | borA (i : Nat)
  | blt (b : Blt) (args : Ex)
  | lenP (i : Nat)
  | sub (a i : Ex) | subP (i : Nat) (e : Ex)
  | slc (a lo hi : Ex) | rev (a : Ex) | rng (a : Ex)
  | comp (elt tgt iter cond : Ex) (own : List Nat)
  | dcmp (key val tgt iter : Ex) (own : List Nat)
  | items (a : Ex)
  | scons (e es : Ex) | lstS (es : Ex) | tupS (es : Ex)
  | fld (c : Nat) (f : Str) (a : Ex) | fldP (c : Nat) (f : Str) (i : Nat)
  | get (a k x : Ex) | idx (a b : Ex)
  | inO (neg : Bool) (c f : Nat) (a b : Ex)
  | met (c : Nat) (m : Str) (f : Nat) (io : Bool) (i : Nat) (args : Ex) (fresh : Bool)
  | mkO (c f : Nat) (args kws : Ex)
  | popP (i : Nat) (e : Ex) | dlit (ks : List Str) (vs : Ex)
  deriving Inhabited

/-- what stands in a slot, of whatever kind -/
def pk (env : En) (i : Nat) : Option D := match env[i]? with
  | some (.dat d) => some d
  | some (.own d) => some d
  | some (.io d) => some d
  | some (.bor d) => some d
  | _ => none
/-- the content of a slot that may be changed -/
def mk (env : En) (i : Nat) : Option D := match env[i]? with
  | some (.own d) => some d
  | some (.io d) => some d
  | _ => none
def putM (env : En) (i : Nat) (d : D) : En := match env[i]? with
  | some (.own _) => env.set i (.own d)
  | some (.io _) => env.set i (.io d)
  | _ => env
/-- a target takes a value -/
def setV (env : En) (i : Nat) (d : D) : Option En := match env[i]? with
  | some (.io _) => none
  | some (.bor _) => none
  | some _ => some (env.set i (.dat d))
  | none => none
def bindT : Ex → D → En → Option En
  | .var i, d, env => setV env i d
  | .tup es, .tup ds, env => bindT es (.tup ds) env
  | .tup es, .lst ds, env => bindT es (.tup ds) env
  | .nil, .tup [], env => some env
  | .cons e es, .tup (d :: ds), env => match bindT e d env with
    | some env' => bindT es (.tup ds) env'
    | none => none
  | _, _, _ => none
def wipeOk (env : En) : List Nat → Bool
  | [] => true
  | i :: is => wipeOk env is && (match env[i]? with
    | some (.io _) => false
    | some _ => true
    | none => false)
def wipeE (env : En) : List Nat → En
  | [] => env
  | i :: is => (wipeE env is).set i .un

def one (r : Res (D × En)) : Res (List D × En) := r.bind fun p => match p.1 with
  | .tup ds => .ok (ds, p.2)
  | _ => .bad
def truR (r : Res (D × En)) : Res (Bool × En) := r.bind fun p => match tru p.1 with
  | some b => .ok (b, p.2)
  | none => .bad
def opt (o : Option D) (env : En) : Res (D × En) := match o with
  | some d => .ok (d, env)
  | none => .bad
def optB (o : Option Bool) (env : En) : Res (D × En) := match o with
  | some d => .ok (.bl d, env)
  | none => .bad
/-- in a comprehension nothing is raised -/
def calm {α : Type} : Res α → Res α
  | .exc _ _ => .bad
  | r => r
def compGo (tgt : Ex) (cond elt : En → Res (D × En)) (own : List Nat) : List D → En → List D → Res (List D × En)
  | [], env, acc => .ok (acc, env)
  | x :: xs, env, acc => match bindT tgt x env with
    | none => .bad
    | some env1 => (truR (cond env1)).bind fun p => if p.1 then (elt p.2).bind fun q => compGo tgt cond elt own xs (wipeE q.2 own) (acc ++ [q.1]) else compGo tgt cond elt own xs (wipeE p.2 own) acc
def dcmpGo (tgt : Ex) (key val : En → Res (D × En)) (own : List Nat) : List D → En → List (Ky × D) → Res (List (Ky × D) × En)
  | [], env, acc => .ok (acc, env)
  | x :: xs, env, acc => match bindT tgt x env with
    | none => .bad
    | some env1 => (key env1).bind fun p => (val p.2).bind fun q => match p.1.key with
      | some k => dcmpGo tgt key val own xs (wipeE q.2 own) (putD acc k q.1)
      | none => .bad
/-- the arguments at the call: what is lent is read last -/
def argsD : Ex → List D → En → Option (List D)
  | .nil, [], _ => some []
  | .cons e es, d :: ds, env => match (match e with
      | .ioA i => mk env i
      | .borA i => pk env i
      | _ => some d), argsD es ds env with
    | some x, some xs => some (x :: xs)
    | _, _ => none
  | _, _, _ => none
def putOuts : Ex → List D → En → Option En
  | .nil, [], env => some env
  | .cons (.ioA i) es, d :: ds, env => putOuts es ds (putM env i d)
  | .cons _ es, ds, env => putOuts es ds env
  | _, _, _ => none

/-- what is walked; a dict by its name alone -/
def rowsE (it : Ex) (d : D) : Option (List D) := match d with
  | .dic kvs => (match it with
    | .var _ => some (kvs.map fun p => p.1.d)
    | _ => none)
  | d => rows d
/-- a slice's part: left out (nil), or an int -/
def partD (e : Ex) (d : D) : Option (Option Int) := match e with
  | .nil => some none
  | _ => match d with
    | .int i => some (some i)
    | _ => none
/-- o.f of an instance of the class c -/
def fldD (c : Nat) (f : Str) : D → Option D
  | .ins c' fs => if c' = c then fs.lookup f else none
  | _ => none
def putFD (f : Str) (v : D) : List (Str × D) → List (Str × D)
  | [] => [(f, v)]
  | (g, x) :: r => if g = f then (g, v) :: r else (g, x) :: putFD f v r
/-- d.get(k, x) -/
def getD3 (a k x : D) : Option D := match a with
  | .dic kvs => (match k.key with
    | some k => some ((lookD kvs k).getD x)
    | none => none)
  | _ => none
/-- l.index(x) -/
def idxD (l x : D) : Option D := match l with
  | .lst xs => if x.flat && xs.all D.flat then (match xs.findIdx? fun y => eqF y x with
    | some j => some (.int (j : Nat))
    | none => none) else none
  | _ => none
/-- *e, .. in a display -/
def seqOf : D → Option (List D)
  | .lst xs => some xs
  | .tup xs => some xs
  | _ => none
/-- a new instance: what its __init__ leaves -/
def mkR (c : Nat) (r : List D → Res (D × List D)) (ds : List D) (env : En) : Res (D × En) := match r (.ins c [] :: ds) with
  | .ok (.non, [d]) => .ok (d, env)
  | .exc c d => .exc c d
  | _ => .bad
/-- the receiver of a method -/
def recv (env : En) (i c : Nat) (m : Str) : Bool := match pk env i with
  | some (.ins c' fl) => decide (c' = c) && (fl.lookup m).isNone
  | _ => false
/-- x in o, o an instance of the class c with its __contains__ -/
def inO (r : List D → Res (D × List D)) (c : Nat) (neg : Bool) (x o : D) (env : En) : Res (D × En) := match o with
  | .ins c' _ => if c' = c then (match r [o, x] with
    | .ok (.bl b, []) => .ok (.bl (if neg then !b else b), env)
    | .exc c d => .exc c d
    | _ => .bad) else .bad
  | _ => .bad
/-- x.pop(k) of an own list -/
def popM (env : En) (i : Nat) (k : D) : Res (D × En) := match mk env i, k with
  | some (.lst xs), .int j => if 0 ≤ j ∧ j < 1000000 then (match xs[j.toNat]? with
    | some y => .ok (y, putM env i (.lst (xs.eraseIdx j.toNat)))
    | none => .bad) else .bad
  | _, _ => .bad
def zipD (ks : List Str) (ds : List D) : List (Ky × D) := (ks.zip ds).map fun p => (.k (.inr p.1), p.2)
def rcvE (io : Bool) (i : Nat) : Ex := if io then .ioA i else .borA i
/-- what an expression is worth; an argument list as a tuple. cal: the defs -/
def ev (cal : Nat → List D → Res (D × List D)) : Ex → En → Res (D × En)
  | .nil, env => .ok (.tup [], env)
  | .cons e es, env => (ev cal e env).bind fun p => (one (ev cal es p.2)).bind fun q => .ok (.tup (p.1 :: q.1), q.2)
  | .var i, env => match env[i]? with
    | some (.dat d) => .ok (d, env)
    | _ => .bad
  | .con _ c, env => .ok (c.d, env)
  | .cI i, env => .ok (.int i, env)
  | .cS s, env => .ok (.str s, env)
  | .cB b, env => .ok (.bl b, env)
  | .cN, env => .ok (.non, env)
  | .lst es, env => (one (ev cal es env)).bind fun q => .ok (.lst q.1, q.2)
  | .tup es, env => (one (ev cal es env)).bind fun q => .ok (.tup q.1, q.2)
  | .dic0, env => .ok (.dic [], env)
  | .bin op a b, env => (ev cal a env).bind fun p => (ev cal b p.2).bind fun q => opt (binD op p.1 q.1) q.2
  | .neg a, env => (ev cal a env).bind fun p => match p.1 with
    | .int i => .ok (.int (-i), p.2)
    | _ => .bad
  | .not a, env => (truR (ev cal a env)).bind fun p => .ok (.bl (!p.1), p.2)
  | .and a b, env => (ev cal a env).bind fun p => match tru p.1 with
    | some true => ev cal b p.2
    | some false => .ok p
    | none => .bad
  | .or a b, env => (ev cal a env).bind fun p => match tru p.1 with
    | some true => .ok p
    | some false => ev cal b p.2
    | none => .bad
  | .cmp op a b, env => (ev cal a env).bind fun p => (ev cal b p.2).bind fun q => optB (cmpD op p.1 q.1) q.2
  | .chn op op' a b c, env => (ev cal a env).bind fun p => (ev cal b p.2).bind fun q => match cmpD op p.1 q.1 with
    | some true => (ev cal c q.2).bind fun r => optB (cmpD op' q.1 r.1) r.2
    | some false => .ok (.bl false, q.2)
    | none => .bad
  | .ife c a b, env => (truR (ev cal c env)).bind fun p => if p.1 then ev cal a p.2 else ev cal b p.2
  | .isi a tys, env => (ev cal a env).bind fun p => if p.1.isIns then .bad else .ok (.bl (tys.any (isTy p.1)), p.2)
  | .cal f args _, env => (one (ev cal args env)).bind fun p => match argsD args p.1 p.2 with
    | none => .bad
    | some ds => (cal f ds).bind fun r => (match putOuts args r.2 p.2 with
      | some env' => .ok (r.1, env')
      | none => .bad)
  | .ioA i, env => match mk env i with
    | some _ => .ok (.non, env)
    | none => .bad
  | .borA i, env => match pk env i with
    | some _ => .ok (.non, env)
    | none => .bad
  | .blt b args, env => (one (ev cal args env)).bind fun p => opt (bltD b p.1) p.2
  | .lenP i, env => match pk env i with
    | some d => opt (bltD .len [d]) env
    | none => .bad
  | .sub a i, env => (ev cal a env).bind fun p => (ev cal i p.2).bind fun q => opt (subD p.1 q.1) q.2
  | .subP i e, env => match pk env i with
    | none => .bad
    | some _ => (ev cal e env).bind fun q => match pk q.2 i with
      | some d => opt (subD d q.1) q.2
      | none => .bad
  | .slc a lo hi, env => (ev cal a env).bind fun p => (ev cal lo p.2).bind fun q => (ev cal hi q.2).bind fun r => opt (slcD p.1 (partD lo q.1) (partD hi r.1)) r.2
  | .rng a, env => (ev cal a env).bind fun p => opt (rngD p.1) p.2
  | .rev a, env => (ev cal a env).bind fun p => opt (revD p.1) p.2
  | .comp elt tgt iter cond own, env => (ev cal iter env).bind fun p => match rowsE iter p.1 with
    | some xs => if wipeOk p.2 own then (calm (compGo tgt (ev cal cond) (ev cal elt) own xs (wipeE p.2 own) [])).bind fun q => .ok (.lst q.1, wipeE q.2 own) else .bad
    | none => .bad
  | .dcmp key val tgt iter own, env => (ev cal iter env).bind fun p => match rowsE iter p.1 with
    | some xs => if wipeOk p.2 own then (calm (dcmpGo tgt (ev cal key) (ev cal val) own xs (wipeE p.2 own) [])).bind fun q => .ok (.dic q.1, wipeE q.2 own) else .bad
    | none => .bad
  | .items a, env => (ev cal a env).bind fun p => opt (itemsD p.1) p.2
  | .scons e es, env => (ev cal e env).bind fun p => match seqOf p.1 with
    | some xs => (one (ev cal es p.2)).bind fun q => .ok (.tup (xs ++ q.1), q.2)
    | none => .bad
  | .lstS es, env => (one (ev cal es env)).bind fun q => if q.1.length ≤ sizeLine then .ok (.lst q.1, q.2) else .bad
  | .tupS es, env => (one (ev cal es env)).bind fun q => if q.1.length ≤ sizeLine then .ok (.tup q.1, q.2) else .bad
  | .fld c f a, env => (ev cal a env).bind fun p => opt (fldD c f p.1) p.2
  | .fldP c f i, env => match pk env i with
    | some d => opt (fldD c f d) env
    | none => .bad
  | .get a k x, env => (ev cal a env).bind fun p => match p.1 with
    | .dic _ => (ev cal k p.2).bind fun q => (ev cal x q.2).bind fun r => opt (getD3 p.1 q.1 r.1) r.2
    | _ => .bad
  | .idx a b, env => (ev cal a env).bind fun p => match p.1 with
    | .lst _ => (ev cal b p.2).bind fun q => opt (idxD p.1 q.1) q.2
    | _ => .bad
  | .inO neg c f a b, env => (ev cal a env).bind fun p => (ev cal b p.2).bind fun q => inO (cal f) c neg p.1 q.1 q.2
  | .met c m f io i args _, env => if recv env i c m then (one (ev cal args env)).bind fun p => match argsD (.cons (rcvE io i) args) (.non :: p.1) p.2 with
      | none => .bad
      | some ds => (cal f ds).bind fun r => (match putOuts (.cons (rcvE io i) args) r.2 p.2 with
        | some env' => .ok (r.1, env')
        | none => .bad) else .bad
  | .mkO c f args kws, env => (one (ev cal args env)).bind fun p => (one (ev cal kws p.2)).bind fun q => mkR c (cal f) (p.1 ++ q.1) q.2
  | .popP i e, env => match mk env i with
    | some (.lst _) => (ev cal e env).bind fun p => popM p.2 i p.1
    | _ => .bad
  | .dlit ks vs, env => (one (ev cal vs env)).bind fun q => .ok (.dic (merge [] (zipD ks q.1)), q.2)

inductive Sm where
  | skip | seq (a b : Sm)
  | asg (tgt e : Ex) | asgO (i : Nat) (e : Ex) | frz (i : Nat) | fgt (i : Nat)
  | app (i : Nat) (e : Ex) | ext (i : Nat) (e : Ex) | setI (i : Nat) (k e : Ex)
  | exp (e : Ex) | ret (e : Ex) | retO (i : Nat) | retN
  | ite (c : Ex) (a b : Sm)
  | for (tgt iter : Ex) (body : Sm)
  | whl (n : Nat) (c : Ex) (body : Sm)
  | rai (c : Nat) (e : Ex)
  | aug (op : Operator) (i : Nat) (e : Ex) | setF (i c : Nat) (f : Str) (e : Ex)
  | par (oa ob : Bool) (i j : Nat) (a b : Ex)
  deriving Inhabited

inductive Fl where
  | nx (env : En) | rt (fr : Bool) (d : D) (env : En)
def forGo (tgt : Ex) (body : En → Res Fl) : List D → En → Res Fl
  | [], env => .ok (.nx env)
  | x :: xs, env => match bindT tgt x env with
    | none => .bad
    | some env1 => (body env1).bind fun f => match f with
      | .nx env2 => forGo tgt body xs env2
      | .rt f d env2 => .ok (.rt f d env2)
def whlGo (c : En → Res (Bool × En)) (body : En → Res Fl) : Nat → En → Res Fl
  | 0, _ => .bad
  | n + 1, env => (c env).bind fun p => if p.1 then (body p.2).bind fun f => match f with
      | .nx env2 => whlGo c body n env2
      | .rt f d env2 => .ok (.rt f d env2)
    else .ok (.nx p.2)
/-- x.append(v), x.extend(d), x[k] = v -/
def appM (env : En) (i : Nat) (v : D) : Res Fl := match mk env i with
  | some (.lst xs) => if xs.length < sizeLine then .ok (.nx (putM env i (.lst (xs ++ [v])))) else .bad
  | _ => .bad
def extM (env : En) (i : Nat) (d : D) : Res Fl := match mk env i, d with
  | some (.lst xs), .lst ys => if xs.length + ys.length ≤ sizeLine then .ok (.nx (putM env i (.lst (xs ++ ys)))) else .bad
  | _, _ => .bad
def setM (env : En) (i : Nat) (k v : D) : Res Fl := match mk env i with
  | some (.lst xs) => (match k with
    | .int j => if 0 ≤ j ∧ j.toNat < xs.length then .ok (.nx (putM env i (.lst (xs.set j.toNat v)))) else .bad
    | _ => .bad)
  | some (.dic kvs) => (match k.key with
    | some k => if kvs.length < sizeLine then .ok (.nx (putM env i (.dic (putD kvs k v)))) else .bad
    | none => .bad)
  | _ => .bad
/-- x op= e of ints -/
def augD (op : Operator) (a b : D) : Option D := match op, a, b with
  | .Add, .int i, .int j => some (.int (i + j))
  | .Sub, .int i, .int j => some (.int (i - j))
  | .BitAnd, .int i, .int j => some (.int (Builtin.bitAnd i j))
  | _, _, _ => none
def setF (env : En) (i c : Nat) (f : Str) (v : D) : Res Fl := match mk env i with
  | some (.ins c' fs) => if c' = c ∧ fs.length < 1000 then .ok (.nx (putM env i (.ins c' (putFD f v fs)))) else .bad
  | _ => .bad
def optE (o : Option En) : Res Fl := match o with
  | some e => .ok (.nx e)
  | none => .bad
def augM (op : Operator) (i : Nat) (x : D) (p : D × En) : Res Fl := match augD op x p.1 with
  | some d => optE (setV p.2 i d)
  | none => .bad
/-- does it make a new object -/
def frE : Ex → Bool
  | .lstS _ | .tupS _ | .dlit _ _ | .mkO _ _ _ _ | .idx _ _ | .inO _ _ _ _ _ => true
  | .met _ _ _ _ _ _ true => true
  | .lst _ | .dic0 | .bin _ _ _ | .blt _ _ | .slc _ _ _ | .rev _ | .comp _ _ _ _ _ | .dcmp _ _ _ _ _ => true
  | .cal _ _ true => true
  | _ => false
/-- a slot that may take a new own object -/
def okS (env : En) (i : Nat) : Bool := match env[i]? with
  | some (.io _) => false
  | some (.bor _) => false
  | some _ => true
  | none => false
/-- x, y = e1, e2: what is put into the slots is data -/
def parM (i j : Nat) (d : D) (q : D × En) : Res Fl := optE ((setV q.2 i d).bind fun e => setV e j q.1)
/-- .. both new lists or dicts -/
def parO (i j : Nat) (d : D) (q : D × En) : Res Fl := if d.isMut && q.1.isMut && okS q.2 i && okS q.2 j && decide (i ≠ j) then .ok (.nx ((q.2.set i (.own d)).set j (.own q.1))) else .bad
/-- .. data, then a new list or dict -/
def parDO (i j : Nat) (d : D) (q : D × En) : Res Fl := match setV q.2 i d with
  | some e => if q.1.isMut && okS e j then .ok (.nx (e.set j (.own q.1))) else .bad
  | none => .bad
/-- .. a new list or dict, then data -/
def parOD (i j : Nat) (d : D) (q : D × En) : Res Fl := match setV q.2 j q.1 with
  | some e => if d.isMut && okS e i && decide (i ≠ j) then .ok (.nx (e.set i (.own d))) else .bad
  | none => .bad
def parR (oa ob : Bool) (i j : Nat) (fa fb : Bool) (d : D) (q : D × En) : Res Fl := match oa, ob with
  | false, false => parM i j d q
  | true, true => if fa && fb then parO i j d q else .bad
  | false, true => if fb then parDO i j d q else .bad
  | true, false => if fa then parOD i j d q else .bad
def exS (cal : Nat → List D → Res (D × List D)) : Sm → En → Res Fl
  | .skip, env => .ok (.nx env)
  | .seq a b, env => (exS cal a env).bind fun f => match f with
    | .nx env' => exS cal b env'
    | .rt f d env' => .ok (.rt f d env')
  | .asg tgt e, env => (ev cal e env).bind fun p => optE (bindT tgt p.1 p.2)
  | .asgO i e, env => if frE e then (ev cal e env).bind fun p => if p.1.isMut then (match p.2[i]? with
      | some (.io _) => .bad
      | some (.bor _) => .bad
      | some _ => .ok (.nx (p.2.set i (.own p.1)))
      | none => .bad) else .bad else .bad
  | .frz i, env => match env[i]? with
    | some (.own d) => .ok (.nx (env.set i (.dat d)))
    | some _ => .ok (.nx env)
    | none => .bad
  | .fgt i, env => match env[i]? with
    | some (.io _) => .bad
    | some _ => .ok (.nx (env.set i .un))
    | none => .bad
  | .app i e, env => match mk env i with
    | some (.lst _) => (ev cal e env).bind fun p => appM p.2 i p.1
    | _ => .bad
  | .ext i e, env => match mk env i with
    | some (.lst _) => (ev cal e env).bind fun p => extM p.2 i p.1
    | _ => .bad
  | .setI i k e, env => (ev cal e env).bind fun p => match mk p.2 i with
    | none => .bad
    | some _ => (ev cal k p.2).bind fun q => setM q.2 i q.1 p.1
  | .exp e, env => (ev cal e env).bind fun p => .ok (.nx p.2)
  | .ret e, env => (ev cal e env).bind fun p => .ok (.rt (frE e) p.1 p.2)
  | .retO i, env => match env[i]? with
    | some (.own d) => .ok (.rt true d (env.set i .un))
    | _ => .bad
  | .retN, env => .ok (.rt false .non env)
  | .ite c a b, env => (truR (ev cal c env)).bind fun p => if p.1 then exS cal a p.2 else exS cal b p.2
  | .for tgt iter body, env => (ev cal iter env).bind fun p => match rows p.1 with
    | some xs => forGo tgt (exS cal body) xs p.2
    | none => .bad
  | .whl n c body, env => whlGo (fun env => truR (ev cal c env)) (exS cal body) n env
  | .rai c e, env => (ev cal e env).bind fun p => .exc c p.1
  | .aug op i e, env => match env[i]? with
    | some (.dat d) => (ev cal e env).bind fun p => augM op i d p
    | _ => .bad
  | .setF i c f e, env => (ev cal e env).bind fun p => setF p.2 i c f p.1
  | .par oa ob i j a b, env => (ev cal a env).bind fun p => (ev cal b p.2).bind fun q => parR oa ob i j (frE a) (frE b) p.1 q

/-- the classes by number -/
def clsName (c : Nat) : Str := (["Book", "Build", "Walk", "Trial", "Player", "Console"].getD c "")
inductive Pk where
  | dat | bor | io
  deriving DecidableEq
structure Fn where
  ks : List Pk
  ns : Nat
  fresh : Bool := false
  body : Sm
  deriving Inhabited
def slotsOf : List Pk → List D → Option En
  | [], [] => some []
  | .dat :: ks, d :: ds => (slotsOf ks ds).map (.dat d :: ·)
  | .bor :: ks, d :: ds => (slotsOf ks ds).map (.bor d :: ·)
  | .io :: ks, d :: ds => (slotsOf ks ds).map (.io d :: ·)
  | _, _ => none
def outsOf : List Pk → En → Option (List D)
  | [], _ => some []
  | .io :: ks, .io d :: env => (outsOf ks env).map (d :: ·)
  | .dat :: ks, _ :: env => outsOf ks env
  | .bor :: ks, _ :: env => outsOf ks env
  | _, _ => none
def runF (cal : Nat → List D → Res (D × List D)) (f : Fn) (ds : List D) : Res (D × List D) := match slotsOf f.ks ds with
  | none => .bad
  | some env => (exS cal f.body (env ++ List.replicate (f.ns - f.ks.length) .un)).bind fun r => match r with
    | .nx e => if f.fresh then .bad else (match outsOf f.ks e with
      | some os => .ok (.non, os)
      | none => .bad)
    | .rt fr d e => if f.fresh && !fr then .bad else (match outsOf f.ks e with
      | some os => .ok (d, os)
      | none => .bad)
abbrev Tab := Nat → Option Fn
def calF (T : Tab) : Nat → Nat → List D → Res (D × List D)
  | 0, _, _ => .bad
  | n + 1, f, ds => match T f with
    | some fn => runF (calF T n) fn ds
    | none => .bad
end Dm
set_option Elab.async false
set_option linter.all false
set_option maxRecDepth 100000
set_option maxHeartbeats 1000000
namespace Dm
open PySem PySem.Spec PyProof.Rows L2

abbrev Av := Addr → Prop
def LK (K : PySem.W.Frag) (a : Addr) (xs : List V) : Prop := ∃ (o : Obj) (its : Array Value) (n : Nat), K.lookup a = some o ∧ o.cls = .type "list" ∧ o.dict = none ∧ o.data = .seq its n ∧ its.size ≤ sizeLine ∧ Vals xs its.toList
def TK (K : PySem.W.Frag) (a : Addr) (xs : List V) : Prop := ∃ (o : Obj) (its : Array Value) (n : Nat), K.lookup a = some o ∧ o.cls = .type "tuple" ∧ o.data = .seq its n ∧ its.size ≤ sizeLine ∧ Vals xs its.toList
/-- a dict of n entries -/
def oddO (a : Addr) (n : Nat) : HO := .ext fun h => (a == sysModules) = false ∧ n ≤ sizeLine ∧ ∃ es ep, h.DictRaw a es ep ∧ es.size = n
mutual
inductive Rep (K : PySem.W.Frag) (cl : Nat → Addr) (A : Av) (H : Hp) : V → D → Prop
  | non : Rep K cl A H .non .non
  | bl (b : Bool) : Rep K cl A H (.bl b) (.bl b)
  | int (i : Int) : Rep K cl A H (.int i) (.int i)
  | str (x : Str) : Rep K cl A H (.str x) (.str x)
  | lst {a : Addr} {xs : List V} {ds : List D} : Rd H a (.lst xs) → ¬ A a → RepAll K cl A H xs ds → Rep K cl A H (.ref a) (.lst ds)
  | tup {a : Addr} {xs : List V} {ds : List D} : Rd H a (.tup xs) → ¬ A a → RepAll K cl A H xs ds → Rep K cl A H (.ref a) (.tup ds)
  | tupK {a : Addr} {xs : List V} {ds : List D} : TK K a xs → RepAll K cl A H xs ds → Rep K cl A H (.ref a) (.tup ds)
  | dic {a : Addr} {xs : List (Key × V)} {ds : List (Ky × D)} : Rd H a (.dK xs) → ¬ A a → RepKv K cl A H xs ds → Rep K cl A H (.ref a) (.dic ds)
  | ins {a dx : Addr} {c : Nat} {xs : List (Str × V)} {ds : List (Str × D)} : H a = some (.ins (cl c) dx xs) → ¬ A a → RepFs K cl A H xs ds → Rep K cl A H (.ref a) (.ins c ds)
  | scr {a : Addr} {ns : List Int} : (Rd H a (.lst (ns.map V.int)) ∧ ¬ A a) ∨ LK K a (ns.map V.int) → Rep K cl A H (.ref a) (.scr ns)
  | odd {a : Addr} {n : Nat} : Rd H a (oddO a n) → ¬ A a → Rep K cl A H (.ref a) (.odd n)
inductive RepAll (K : PySem.W.Frag) (cl : Nat → Addr) (A : Av) (H : Hp) : List V → List D → Prop
  | nil : RepAll K cl A H [] []
  | cons {v : V} {vs : List V} {d : D} {ds : List D} : Rep K cl A H v d → RepAll K cl A H vs ds → RepAll K cl A H (v :: vs) (d :: ds)
inductive RepKv (K : PySem.W.Frag) (cl : Nat → Addr) (A : Av) (H : Hp) : List (Key × V) → List (Ky × D) → Prop
  | nil : RepKv K cl A H [] []
  | cons {k : Key} {v : V} {vs : List (Key × V)} {d : D} {ds : List (Ky × D)} : Rep K cl A H v d → RepKv K cl A H vs ds → RepKv K cl A H ((k, v) :: vs) ((.k k, d) :: ds)
inductive RepFs (K : PySem.W.Frag) (cl : Nat → Addr) (A : Av) (H : Hp) : List (Str × V) → List (Str × D) → Prop
  | nil : RepFs K cl A H [] []
  | cons {k : Str} {v : V} {vs : List (Str × V)} {d : D} {ds : List (Str × D)} : Rep K cl A H v d → RepFs K cl A H vs ds → RepFs K cl A H ((k, v) :: vs) ((k, d) :: ds)
end

/-- what is read outside of A is read again -/
structure Kp (A : Av) (H H' : Hp) : Prop where
  rd : ∀ b u, ¬ A b → (∀ o w, u ≠ .frz o w) → Rd H b u → Rd H' b u
  ins : ∀ b C dx fs, ¬ A b → H b = some (.ins C dx fs) → H' b = some (.ins C dx fs)
theorem Kp.of {A : Av} {H H' : Hp} (h : ∀ b o, H b = some o → ¬ A b → H' b = some o) : Kp A H H' where
  rd := fun b u n _ r => by
    rcases r with r | ⟨o, r⟩
    · exact .inl (h b _ r n)
    · exact .inr ⟨o, h b _ r n⟩
  ins := fun b C dx fs n r => h b _ r n
section
variable {K : PySem.W.Frag} {cl : Nat → Addr} {A A' : Av} {H H' : Hp}
theorem Rd.some {H : Hp} {a : Addr} {u : HO} (r : Rd H a u) : H a ≠ none := by
  rcases r with r | ⟨o, r⟩ <;> (rw [r]; exact fun z => nomatch z)
theorem nfL {xs : List V} : ∀ o w, HO.lst xs ≠ .frz o w := fun _ _ z => nomatch z
theorem nfT {xs : List V} : ∀ o w, HO.tup xs ≠ .frz o w := fun _ _ z => nomatch z
theorem nfD {xs : List (Key × V)} : ∀ o w, HO.dK xs ≠ .frz o w := fun _ _ z => nomatch z
mutual
theorem Rep.mono (k : Kp A H H') (hA : ∀ b, H b ≠ none → A' b → A b) : ∀ {v : V} {d : D}, Rep K cl A H v d → Rep K cl A' H' v d
  | _, _, .non => .non
  | _, _, .bl b => .bl b
  | _, _, .int b => .int b
  | _, _, .str b => .str b
  | _, _, .lst r n q => .lst (k.rd _ _ n nfL r) (fun z => n (hA _ (Rd.some r) z)) (RepAll.mono k hA q)
  | _, _, .tup r n q => .tup (k.rd _ _ n nfT r) (fun z => n (hA _ (Rd.some r) z)) (RepAll.mono k hA q)
  | _, _, .tupK r q => .tupK r (RepAll.mono k hA q)
  | _, _, .dic r n q => .dic (k.rd _ _ n nfD r) (fun z => n (hA _ (Rd.some r) z)) (RepKv.mono k hA q)
  | _, _, .ins r n q => .ins (k.ins _ _ _ _ n r) (fun z => n (hA _ (by rw [r]; exact fun z => nomatch z) z)) (RepFs.mono k hA q)
  | _, _, .scr r => .scr (r.imp (fun r => ⟨k.rd _ _ r.2 nfL r.1, fun z => r.2 (hA _ (Rd.some r.1) z)⟩) id)
  | _, _, .odd r n => .odd (k.rd _ _ n (fun _ _ z => nomatch z) r) (fun z => n (hA _ (Rd.some r) z))
theorem RepAll.mono (k : Kp A H H') (hA : ∀ b, H b ≠ none → A' b → A b) : ∀ {v : List V} {d : List D}, RepAll K cl A H v d → RepAll K cl A' H' v d
  | _, _, .nil => .nil
  | _, _, .cons r q => .cons (Rep.mono k hA r) (RepAll.mono k hA q)
theorem RepKv.mono (k : Kp A H H') (hA : ∀ b, H b ≠ none → A' b → A b) : ∀ {v : List (Key × V)} {d : List (Ky × D)}, RepKv K cl A H v d → RepKv K cl A' H' v d
  | _, _, .nil => .nil
  | _, _, .cons r q => .cons (Rep.mono k hA r) (RepKv.mono k hA q)
theorem RepFs.mono (k : Kp A H H') (hA : ∀ b, H b ≠ none → A' b → A b) : ∀ {v : List (Str × V)} {d : List (Str × D)}, RepFs K cl A H v d → RepFs K cl A' H' v d
  | _, _, .nil => .nil
  | _, _, .cons r q => .cons (Rep.mono k hA r) (RepFs.mono k hA q)
end
theorem RepAll.length : ∀ {v : List V} {d : List D}, RepAll K cl A H v d → v.length = d.length
  | _, _, .nil => rfl
  | _, _, .cons _ q => by rw [List.length_cons, List.length_cons, RepAll.length q]
theorem RepKv.length : ∀ {v : List (Key × V)} {d : List (Ky × D)}, RepKv K cl A H v d → v.length = d.length
  | _, _, .nil => rfl
  | _, _, .cons _ q => by rw [List.length_cons, List.length_cons, RepKv.length q]
theorem RepAll.get : ∀ {v : List V} {d : List D} {i : Nat} {x : D}, RepAll K cl A H v d → d[i]? = some x → ∃ y, v[i]? = some y ∧ Rep K cl A H y x
  | _, _, _, _, .nil, e => by simp at e
  | _, _, 0, _, .cons r _, e => by
    simp only [List.getElem?_cons_zero, Option.some.injEq] at e
    subst e
    exact ⟨_, rfl, r⟩
  | _, _, i + 1, _, .cons _ q, e => by
    obtain ⟨y, e1, r⟩ := RepAll.get (i := i) q (by simpa using e)
    exact ⟨y, by simpa using e1, r⟩
theorem RepAll.getV : ∀ {v : List V} {d : List D} {i : Nat} {x : V}, RepAll K cl A H v d → v[i]? = some x → ∃ y, d[i]? = some y ∧ Rep K cl A H x y
  | _, _, _, _, .nil, e => by simp at e
  | _, _, 0, _, .cons r _, e => by
    simp only [List.getElem?_cons_zero, Option.some.injEq] at e
    subst e
    exact ⟨_, rfl, r⟩
  | _, _, i + 1, _, .cons _ q, e => by
    obtain ⟨y, e1, r⟩ := RepAll.getV (i := i) q (by simpa using e)
    exact ⟨y, by simpa using e1, r⟩
theorem RepAll.append : ∀ {v w : List V} {d e : List D}, RepAll K cl A H v d → RepAll K cl A H w e → RepAll K cl A H (v ++ w) (d ++ e)
  | _, _, _, _, .nil, s => s
  | _, _, _, _, .cons r t, s => .cons r (RepAll.append t s)
theorem RepAll.take : ∀ {v : List V} {d : List D} (n : Nat), RepAll K cl A H v d → RepAll K cl A H (v.take n) (d.take n)
  | _, _, 0, _ => .nil
  | _, _, _ + 1, .nil => .nil
  | _, _, n + 1, .cons r t => .cons r (RepAll.take n t)
theorem RepAll.drop : ∀ {v : List V} {d : List D} (n : Nat), RepAll K cl A H v d → RepAll K cl A H (v.drop n) (d.drop n)
  | _, _, 0, r => r
  | _, _, _ + 1, .nil => .nil
  | _, _, n + 1, .cons _ t => RepAll.drop n t
theorem RepAll.set {x : V} {y : D} (r : Rep K cl A H x y) : ∀ {v : List V} {d : List D} (i : Nat), RepAll K cl A H v d → RepAll K cl A H (v.set i x) (d.set i y)
  | _, _, _, .nil => .nil
  | _, _, 0, .cons _ t => .cons r t
  | _, _, i + 1, .cons q t => .cons q (RepAll.set r i t)
theorem RepAll.reverse {v : List V} {d : List D} (h : RepAll K cl A H v d) : RepAll K cl A H v.reverse d.reverse := by
  induction v generalizing d with
  | nil => cases h; exact .nil
  | cons x xs ih =>
    cases h with
    | cons r t =>
      rw [List.reverse_cons, List.reverse_cons]
      exact (ih t).append (.cons r .nil)

/-- a list's, a tuple's reading -/
theorem Rep.lstV {v : V} {ds : List D} (r : Rep K cl A H v (.lst ds)) : ∃ a xs, v = .ref a ∧ Rd H a (.lst xs) ∧ RepAll K cl A H xs ds := by
  cases r with
  | lst r n q => exact ⟨_, _, rfl, r, q⟩
theorem Rep.tupV {v : V} {ds : List D} (r : Rep K cl A H v (.tup ds)) : ∃ a xs, v = .ref a ∧ SqT K H a xs ∧ RepAll K cl A H xs ds := by
  cases r with
  | tup r n q => exact ⟨_, _, rfl, .inl r, q⟩
  | tupK r q => exact ⟨_, _, rfl, .inr r, q⟩

theorem Rep.scrV {v : V} {ns : List Int} (r : Rep K cl A H v (.scr ns)) : ∃ a, v = .ref a ∧ SqL K H a (ns.map V.int) := by
  cases r with
  | scr r => exact ⟨_, rfl, r.imp (fun r => r.1) id⟩

mutual
theorem Rep.dp : ∀ {v : V} {d : D} {p : PyData}, Rep K cl A H v d → d.py = some p → Dp K H v p
  | _, .non, _, .non, e => by simp only [D.py, Option.some.injEq] at e; subst e; exact .non
  | _, .bl b, _, .bl _, e => by simp only [D.py, Option.some.injEq] at e; subst e; exact .bl b
  | _, .int b, _, .int _, e => by simp only [D.py, Option.some.injEq] at e; subst e; exact .int b
  | _, .str b, _, .str _, e => by simp only [D.py, Option.some.injEq] at e; subst e; exact .str b
  | _, .lst ds, p, r, e => by
    simp only [D.py, Option.map_eq_some_iff] at e
    obtain ⟨ps, e1, rfl⟩ := e
    cases r with
    | lst r n q => exact .lst (.inl r) (RepAll.dp q e1)
  | _, .tup ds, p, r, e => by
    simp only [D.py, Option.map_eq_some_iff] at e
    obtain ⟨ps, e1, rfl⟩ := e
    cases r with
    | tup r n q => exact .tup (.inl r) (RepAll.dp q e1)
    | tupK r q => exact .tup (.inr r) (RepAll.dp q e1)
  | _, .dic _, _, _, e => by simp [D.py] at e
  | _, .ins _ _, _, _, e => by simp [D.py] at e
  | _, .scr _, _, _, e => by simp [D.py] at e
  | _, .odd _, _, _, e => by simp [D.py] at e
theorem RepAll.dp : ∀ {v : List V} {d : List D} {p : List PyData}, RepAll K cl A H v d → D.pys d = some p → DpAll K H v p
  | _, [], _, .nil, e => by simp only [D.pys, Option.some.injEq] at e; subst e; exact .nil
  | _, d :: ds, p, .cons r q, e => by
    simp only [D.pys] at e
    split at e
    · rename_i a as e1 e2
      simp only [Option.some.injEq] at e
      subst e
      exact .cons (Rep.dp r e1) (RepAll.dp q e2)
    · cases e
end
end
end Dm
set_option Elab.async false
set_option linter.all false
set_option maxRecDepth 100000
set_option maxHeartbeats 1000000
namespace Dm
open PySem PySem.Spec PyProof.Rows L2
abbrev SV := List (Option V)

/-- what is fixed while a def's body runs -/
structure Fx where
  K : PySem.W.Frag
  cl : Nat → Addr
  C : Av
  H0 : Hp
  IO : Av
  X : Nat → D → Prop
abbrev Fx.add (F : Fx) (p : Addr) : Fx := { F with C := fun a => F.C a ∨ a = p }
def Own (env : En) (σ : SV) (a : Addr) : Prop := ∃ (i : Nat) (d : D), (env[i]? = some (.own d) ∨ env[i]? = some (.io d)) ∧ σ[i]? = some (some (.ref a))
def Avd (C : Av) (env : En) (σ : SV) : Av := fun a => C a ∨ Own env σ a
inductive Top (K : PySem.W.Frag) (cl : Nat → Addr) (A : Av) (H : Hp) : Addr → D → Prop
  | lst {a : Addr} {xs : List V} {ds : List D} : H a = some (.lst xs) → RepAll K cl A H xs ds → Top K cl A H a (.lst ds)
  | dic {a : Addr} {xs : List (Key × V)} {ds : List (Ky × D)} : H a = some (.dK xs) → RepKv K cl A H xs ds → Top K cl A H a (.dic ds)
  | ins {a dx : Addr} {c : Nat} {xs : List (Str × V)} {ds : List (Str × D)} : H a = some (.ins (cl c) dx xs) → RepFs K cl A H xs ds → Top K cl A H a (.ins c ds)
/-- .. to be read alone -/
inductive TopR (K : PySem.W.Frag) (cl : Nat → Addr) (A : Av) (H : Hp) : Addr → D → Prop
  | lst {a : Addr} {xs : List V} {ds : List D} : Rd H a (.lst xs) → RepAll K cl A H xs ds → TopR K cl A H a (.lst ds)
  | dic {a : Addr} {xs : List (Key × V)} {ds : List (Ky × D)} : Rd H a (.dK xs) → RepKv K cl A H xs ds → TopR K cl A H a (.dic ds)
  | ins {a dx : Addr} {c : Nat} {xs : List (Str × V)} {ds : List (Str × D)} : H a = some (.ins (cl c) dx xs) → RepFs K cl A H xs ds → TopR K cl A H a (.ins c ds)
structure HL (H : Hp) : Prop where
  lst : ∀ a xs, Rd H a (.lst xs) → xs.length ≤ sizeLine
  tup : ∀ a xs, Rd H a (.tup xs) → xs.length ≤ sizeLine
  dK : ∀ a xs, Rd H a (.dK xs) → xs.length ≤ sizeLine
section
variable {K : PySem.W.Frag} {cl : Nat → Addr} {A A' : Av} {H H' : Hp} {a : Addr} {d : D}
theorem Top.nn (t : Top K cl A H a d) : H a ≠ none := by
  cases t with
  | lst h _ => rw [h]; exact fun z => nomatch z
  | dic h _ => rw [h]; exact fun z => nomatch z
  | ins h _ => rw [h]; exact fun z => nomatch z
theorem Top.mono (k : Kp A H H') (hA : ∀ b, H b ≠ none → A' b → A b) (e : ∀ o, H a = some o → H' a = some o) (t : Top K cl A H a d) : Top K cl A' H' a d := by
  cases t with
  | lst h q => exact .lst (e _ h) (q.mono k hA)
  | dic h q => exact .dic (e _ h) (q.mono k hA)
  | ins h q => exact .ins (e _ h) (q.mono k hA)
theorem Top.r (t : Top K cl A H a d) : TopR K cl A H a d := by
  cases t with
  | lst h q => exact .lst (.inl h) q
  | dic h q => exact .dic (.inl h) q
  | ins h q => exact .ins h q
theorem TopR.nn (t : TopR K cl A H a d) : H a ≠ none := by
  cases t with
  | lst h _ => exact Rd.some h
  | dic h _ => exact Rd.some h
  | ins h _ => rw [h]; exact fun z => nomatch z
theorem TopR.mono (k : Kp A H H') (hA : ∀ b, H b ≠ none → A' b → A b) (e : ∀ o, H a = some o → H' a = some o) (t : TopR K cl A H a d) : TopR K cl A' H' a d := by
  have er : ∀ {u : HO}, Rd H a u → Rd H' a u := fun {u} r => by
    rcases r with r | ⟨o, r⟩
    · exact .inl (e _ r)
    · exact .inr ⟨o, e _ r⟩
  cases t with
  | lst h q => exact .lst (er h) (q.mono k hA)
  | dic h q => exact .dic (er h) (q.mono k hA)
  | ins h q => exact .ins (e _ h) (q.mono k hA)
theorem Top.rep (t : Top K cl A H a d) (n : ¬ A a) : Rep K cl A H (.ref a) d := by
  cases t with
  | lst h q => exact .lst (.inl h) n q
  | dic h q => exact .dic (.inl h) n q
  | ins h q => exact .ins h n q
theorem Kp.refl : Kp A H H := ⟨fun _ _ _ _ r => r, fun _ _ _ _ _ r => r⟩
theorem Kp.upd {o : HO} (n : H a = none ∨ A a) : Kp A H (upd H a o) := Kp.of fun b u e nb => by
  rw [upd_ne (fun z => ?_)]
  · exact e
  · subst z
    rcases n with n | n
    · rw [n] at e; cases e
    · exact nb n
theorem HL.upd (h : HL H) {o : HO} (h1 : ∀ xs, Rd (upd H a o) a (.lst xs) → xs.length ≤ sizeLine) (h2 : ∀ xs, Rd (upd H a o) a (.tup xs) → xs.length ≤ sizeLine) (h3 : ∀ xs, Rd (upd H a o) a (.dK xs) → xs.length ≤ sizeLine) : HL (upd H a o) := by
  refine ⟨fun b xs r => ?_, fun b xs r => ?_, fun b xs r => ?_⟩
  · by_cases e : b = a
    · subst e; exact h1 xs r
    · unfold Rd at r; rw [upd_ne e] at r; exact h.lst b xs r
  · by_cases e : b = a
    · subst e; exact h2 xs r
    · unfold Rd at r; rw [upd_ne e] at r; exact h.tup b xs r
  · by_cases e : b = a
    · subst e; exact h3 xs r
    · unfold Rd at r; rw [upd_ne e] at r; exact h.dK b xs r
theorem rd_upd {o u : HO} (r : Rd (upd H a o) a u) : o = u ∨ ∃ ob, o = .frz ob u := by
  unfold Rd at r
  rw [upd_same] at r
  rcases r with r | ⟨ob, r⟩
  · exact .inl (Option.some.inj r)
  · exact .inr ⟨ob, Option.some.inj r⟩
theorem HL.lstU (h : HL H) {xs : List V} (hl : xs.length ≤ sizeLine) : HL (L2.upd H a (.lst xs)) := by
  refine h.upd (fun ys r => ?_) (fun ys r => ?_) (fun ys r => ?_) <;> rcases rd_upd r with e | ⟨_, e⟩ <;> cases e
  exact hl
theorem HL.tupU (h : HL H) {xs : List V} (hl : xs.length ≤ sizeLine) : HL (L2.upd H a (.tup xs)) := by
  refine h.upd (fun ys r => ?_) (fun ys r => ?_) (fun ys r => ?_) <;> rcases rd_upd r with e | ⟨_, e⟩ <;> cases e
  exact hl
theorem HL.dKU (h : HL H) {xs : List (Key × V)} (hl : xs.length ≤ sizeLine) : HL (L2.upd H a (.dK xs)) := by
  refine h.upd (fun ys r => ?_) (fun ys r => ?_) (fun ys r => ?_) <;> rcases rd_upd r with e | ⟨_, e⟩ <;> cases e
  exact hl
theorem HL.insU (h : HL H) {C dx : Addr} {xs : List (Str × V)} : HL (L2.upd H a (.ins C dx xs)) := by
  refine h.upd (fun ys r => ?_) (fun ys r => ?_) (fun ys r => ?_) <;> rcases rd_upd r with e | ⟨_, e⟩ <;> cases e
end

/-- the slots stand for the state -/
structure Rel (F : Fx) (env : En) (σ : SV) (H : Hp) : Prop where
  len : env.length = σ.length
  dat : ∀ (i : Nat) (d : D), env[i]? = some (.dat d) → ∃ v, σ[i]? = some (some v) ∧ Rep F.K F.cl (Avd F.C env σ) H v d
  own : ∀ (i : Nat) (d : D), env[i]? = some (.own d) → ∃ a, σ[i]? = some (some (.ref a)) ∧ Top F.K F.cl (Avd F.C env σ) H a d ∧ ¬ F.C a ∧ F.H0 a = none
  io : ∀ (i : Nat) (d : D), env[i]? = some (.io d) → ∃ a, σ[i]? = some (some (.ref a)) ∧ Top F.K F.cl (Avd F.C env σ) H a d ∧ ¬ F.C a ∧ F.IO a
  bor : ∀ (i : Nat) (d : D), env[i]? = some (.bor d) → ∃ v, σ[i]? = some (some v) ∧ (Rep F.K F.cl (Avd F.C env σ) H v d ∨ ∃ a, v = .ref a ∧ TopR F.K F.cl (Avd F.C env σ) H a d ∧ F.H0 a ≠ none ∧ ¬ F.IO a)
  inj : ∀ (i j : Nat) (a : Addr) (di dj : D), (env[i]? = some (.own di) ∨ env[i]? = some (.io di)) → (env[j]? = some (.own dj) ∨ env[j]? = some (.io dj)) → σ[i]? = some (some (.ref a)) → σ[j]? = some (some (.ref a)) → i = j
  fr : ∀ b o, F.H0 b = some o → ¬ F.IO b → H b = some o
  cd : ∀ a, F.C a → H a ≠ none
  id : ∀ a, F.IO a → H a ≠ none
  sz : HL H
abbrev AvF (F : Fx) (env : En) (σ : SV) : Av := Avd F.C env σ
abbrev RepF (F : Fx) (env : En) (σ : SV) (H : Hp) : V → D → Prop := Rep F.K F.cl (Avd F.C env σ) H
abbrev RepAllF (F : Fx) (env : En) (σ : SV) (H : Hp) : List V → List D → Prop := RepAll F.K F.cl (Avd F.C env σ) H
abbrev TopF (F : Fx) (env : En) (σ : SV) (H : Hp) : Addr → D → Prop := Top F.K F.cl (Avd F.C env σ) H
/-- io slots stay where they are -/
def Io (env : En) (σ : SV) (env' : En) (σ' : SV) : Prop := ∀ (i : Nat) (d : D), env[i]? = some (.io d) → ∃ d', env'[i]? = some (.io d') ∧ σ'[i]? = σ[i]?
theorem Io.refl {env : En} {σ : SV} : Io env σ env σ := fun i d h => ⟨d, h, rfl⟩
theorem Io.trans {env env1 env2 : En} {σ σ1 σ2 : SV} (p : Io env σ env1 σ1) (q : Io env1 σ1 env2 σ2) : Io env σ env2 σ2 := fun i d h => by
  obtain ⟨d1, h1, e1⟩ := p i d h
  obtain ⟨d2, h2, e2⟩ := q i d1 h1
  exact ⟨d2, h2, e2.trans e1⟩
/-- a later state: what was there and not own stays, and stays not own -/
structure Lat (env : En) (σ : SV) (H : Hp) (env' : En) (σ' : SV) (H' : Hp) : Prop where
  kp : ∀ b o, H b = some o → ¬ Own env σ b → H' b = some o
  sub : ∀ a, H a ≠ none → Own env' σ' a → Own env σ a
  nn : ∀ a, H a ≠ none → H' a ≠ none
  io : Io env σ env' σ'
theorem Lat.refl {env : En} {σ : SV} {H : Hp} : Lat env σ H env σ H := ⟨fun _ _ e _ => e, fun _ _ z => z, fun _ z => z, Io.refl⟩
theorem Lat.trans {env env1 env2 : En} {σ σ1 σ2 : SV} {H H1 H2 : Hp} (p : Lat env σ H env1 σ1 H1) (q : Lat env1 σ1 H1 env2 σ2 H2) : Lat env σ H env2 σ2 H2 :=
  ⟨fun b o e n => q.kp b o (p.kp b o e n) fun z => n (p.sub b (by rw [e]; exact fun z => nomatch z) z), fun a h z => p.sub a h (q.sub a (p.nn a h) z), fun a z => q.nn a (p.nn a z), p.io.trans q.io⟩
/-- behind an expression -/
structure Pst (F : Fx) (env env' : En) (σ : SV) (H H' : Hp) : Prop extends Lat env σ H env' σ H' where
  rel : Rel F env' σ H'
section
variable {F : Fx} {env env' env1 env2 : En} {σ : SV} {H H' H1 H2 : Hp}
theorem Rel.ownSome (r : Rel F env σ H) {a : Addr} (o : Own env σ a) : H a ≠ none ∧ ¬ F.C a ∧ (F.H0 a = none ∨ F.IO a) := by
  obtain ⟨i, d, h | h, e⟩ := o
  · obtain ⟨b, e1, t, n, z⟩ := r.own i d h
    rw [e] at e1; cases e1
    exact ⟨t.nn, n, .inl z⟩
  · obtain ⟨b, e1, t, n, z⟩ := r.io i d h
    rw [e] at e1; cases e1
    exact ⟨t.nn, n, .inr z⟩
theorem Rel.avSome (r : Rel F env σ H) {a : Addr} (o : Avd F.C env σ a) : H a ≠ none := by
  rcases o with o | o
  · exact r.cd a o
  · exact (r.ownSome o).1
theorem Rel.new (r : Rel F env σ H) {a : Addr} (h : H a = none) : F.H0 a = none ∧ ¬ F.C a ∧ ¬ F.IO a := by
  have n2 : ¬ F.IO a := fun z => r.id a z h
  refine ⟨?_, fun z => r.cd a z h, n2⟩
  cases e : F.H0 a with
  | none => rfl
  | some o =>
    have := r.fr a o e n2
    rw [h] at this
    cases this
theorem Pst.refl (r : Rel F env σ H) : Pst F env env σ H H := { Lat.refl with rel := r }
theorem Pst.trans (p : Pst F env env1 σ H H1) (q : Pst F env1 env2 σ H1 H2) : Pst F env env2 σ H H2 := { p.toLat.trans q.toLat with rel := q.rel }
theorem Lat.kpA {C : Av} {σ' : SV} (p : Lat env σ H env1 σ' H1) : Kp (Avd C env σ) H H1 := Kp.of fun b o e n => p.kp b o e fun z => n (.inr z)
theorem Lat.av {C : Av} {σ' : SV} (p : Lat env σ H env1 σ' H1) {b : Addr} (h : H b ≠ none) (z : Avd C env1 σ' b) : Avd C env σ b := by
  rcases z with z | z
  · exact .inl z
  · exact .inr (p.sub b h z)
theorem Lat.rep {σ' : SV} (p : Lat env σ H env1 σ' H1) {v : V} {d : D} (r : RepF F env σ H v d) : RepF F env1 σ' H1 v d := r.mono p.kpA fun _ h z => p.av h z
theorem Lat.repAll {σ' : SV} (p : Lat env σ H env1 σ' H1) {v : List V} {d : List D} (r : RepAllF F env σ H v d) : RepAllF F env1 σ' H1 v d := r.mono p.kpA fun _ h z => p.av h z
theorem Pst.kpA (p : Pst F env env1 σ H H1) : Kp (Avd F.C env σ) H H1 := p.toLat.kpA
theorem Pst.rep (p : Pst F env env1 σ H H1) {v : V} {d : D} (r : RepF F env σ H v d) : RepF F env1 σ H1 v d := p.toLat.rep r
theorem Pst.repAll (p : Pst F env env1 σ H H1) {v : List V} {d : List D} (r : RepAllF F env σ H v d) : RepAllF F env1 σ H1 v d := p.toLat.repAll r

/-- a new object of which nothing knew -/
theorem Rel.laid {p : Addr} {o : HO} (r : Rel F env σ H) (n : H p = none) (hl : HL (upd H p o)) : Rel (F.add p) env σ (upd H p o) := by
  have k : Kp (Avd F.C env σ) H (upd H p o) := Kp.upd (.inl n)
  have hA : ∀ b, H b ≠ none → Avd (F.add p).C env σ b → Avd F.C env σ b := fun b hb z => by
    rcases z with (z | z) | z
    · exact .inl z
    · exact absurd n (z ▸ hb)
    · exact .inr z
  have e : ∀ {a : Addr}, H a ≠ none → ∀ u, H a = some u → upd H p o a = some u := fun {a} ha u q => by
    rw [upd_ne (ne_of_none q n)]
    exact q
  have nc : ∀ {a : Addr}, H a ≠ none → ¬ F.C a → ¬ (F.add p).C a := fun {a} ha h z => by
    rcases z with z | z
    · exact h z
    · exact ha (z ▸ n)
  refine ⟨r.len, fun i d h => ?_, fun i d h => ?_, fun i d h => ?_, fun i d h => ?_, r.inj, fun b u q nb => ?_, fun a z => ?_, fun a z => ?_, hl⟩
  · obtain ⟨v, e1, q⟩ := r.dat i d h
    exact ⟨v, e1, q.mono k hA⟩
  · obtain ⟨a, e1, t, nC, z⟩ := r.own i d h
    exact ⟨a, e1, t.mono k hA (e t.nn), nc t.nn nC, z⟩
  · obtain ⟨a, e1, t, nC, z⟩ := r.io i d h
    exact ⟨a, e1, t.mono k hA (e t.nn), nc t.nn nC, z⟩
  · obtain ⟨v, e1, q⟩ := r.bor i d h
    refine ⟨v, e1, ?_⟩
    rcases q with q | ⟨a, e2, t, z⟩
    · exact .inl (q.mono k hA)
    · exact .inr ⟨a, e2, t.mono k hA (e t.nn), z⟩
  · have q1 := r.fr b u q nb
    exact e (by rw [q1]; exact fun z => nomatch z) u q1
  · by_cases h : a = p
    · subst h; rw [upd_same]; exact fun z => nomatch z
    · rw [upd_ne h]
      rcases z with z | z
      · exact r.cd a z
      · exact absurd z h
  · have hz := r.id a z
    rw [upd_ne (fun q => hz (by rw [q]; exact n))]
    exact hz
/-- .. given back -/
theorem Rel.drop {p : Addr} (r : Rel (F.add p) env σ H) : Rel F env σ H := by
  have hA : ∀ b, H b ≠ none → Avd F.C env σ b → Avd (F.add p).C env σ b := fun b _ z => by
    rcases z with z | z
    · exact .inl (.inl z)
    · exact .inr z
  refine ⟨r.len, fun i d h => ?_, fun i d h => ?_, fun i d h => ?_, fun i d h => ?_, r.inj, r.fr, fun a z => r.cd a (.inl z), r.id, r.sz⟩
  · obtain ⟨v, e1, q⟩ := r.dat i d h
    exact ⟨v, e1, q.mono Kp.refl hA⟩
  · obtain ⟨a, e1, t, nC, z⟩ := r.own i d h
    exact ⟨a, e1, t.mono Kp.refl hA fun _ q => q, fun z => nC (.inl z), z⟩
  · obtain ⟨a, e1, t, nC, z⟩ := r.io i d h
    exact ⟨a, e1, t.mono Kp.refl hA fun _ q => q, fun z => nC (.inl z), z⟩
  · obtain ⟨v, e1, q⟩ := r.bor i d h
    refine ⟨v, e1, ?_⟩
    rcases q with q | ⟨a, e2, t, z⟩
    · exact .inl (q.mono Kp.refl hA)
    · exact .inr ⟨a, e2, t.mono Kp.refl hA (fun _ q => q), z⟩
theorem Lat.laid {p : Addr} {o : HO} (n : H p = none) : Lat env σ H env σ (upd H p o) :=
  ⟨fun b u e _ => by rw [upd_ne (ne_of_none e n)]; exact e, fun _ _ z => z, fun a z => by
    by_cases h : a = p
    · rw [h, upd_same]; exact fun q => nomatch q
    · rw [upd_ne h]; exact z, Io.refl⟩
theorem Pst.laid {p : Addr} {o : HO} (r : Rel F env σ H) (n : H p = none) (hl : HL (upd H p o)) : Pst F env env σ H (upd H p o) := { Lat.laid n with rel := (r.laid n hl).drop }

/-- the content of an own slot is changed -/
theorem Rel.put {i : Nat} {a : Addr} {o : HO} {d d' : D} (r : Rel F env σ H) (hi : env[i]? = some (.own d) ∨ env[i]? = some (.io d)) (ha : σ[i]? = some (some (.ref a))) (hl : HL (upd H a o))
    (t : TopF F env σ (upd H a o) a d') : Rel F (putM env i d') σ (upd H a o) ∧ ∀ b, Own (putM env i d') σ b ↔ Own env σ b := by
  have oa : Own env σ a := ⟨i, d, hi, ha⟩
  have k : Kp (Avd F.C env σ) H (upd H a o) := Kp.upd (.inr (.inr oa))
  have hin : i < env.length := by
    rcases hi with h | h <;> exact (List.getElem?_eq_some_iff.mp h).1
  have gi : ∀ (j : Nat), j ≠ i → (putM env i d')[j]? = env[j]? := fun j hj => by
    unfold putM
    rcases hi with h | h <;> simp only [h] <;> rw [List.getElem?_set_ne (Ne.symm hj)]
  have own_iff : ∀ b, Own (putM env i d') σ b ↔ Own env σ b := fun b => by
    constructor
    · rintro ⟨j, dj, hj, e⟩
      by_cases h : j = i
      · subst h
        exact ⟨j, d, hi, e⟩
      · rw [gi j h] at hj
        exact ⟨j, dj, hj, e⟩
    · rintro ⟨j, dj, hj, e⟩
      by_cases h : j = i
      · subst h
        refine ⟨j, d', ?_, e⟩
        unfold putM
        rcases hi with h | h <;> simp only [h]
        · exact .inl (List.getElem?_set_self hin)
        · exact .inr (List.getElem?_set_self hin)
      · exact ⟨j, dj, by rw [gi j h]; exact hj, e⟩
  have hA : ∀ b, H b ≠ none → Avd F.C (putM env i d') σ b → Avd F.C env σ b := fun b _ z => by
    rcases z with z | z
    · exact .inl z
    · exact .inr ((own_iff b).mp z)
  have hA' : ∀ b, upd H a o b ≠ none → Avd F.C (putM env i d') σ b → Avd F.C env σ b := fun b _ z => by
    rcases z with z | z
    · exact .inl z
    · exact .inr ((own_iff b).mp z)
  have t' : TopF F (putM env i d') σ (upd H a o) a d' := t.mono Kp.refl hA' fun _ q => q
  have oth : ∀ {b : Addr}, b ≠ a → ∀ u, H b = some u → upd H a o b = some u := fun hb u q => by
    rw [upd_ne hb]; exact q
  refine ⟨⟨?_, fun j dj h => ?_, fun j dj h => ?_, fun j dj h => ?_, fun j dj h => ?_, fun j j' b dj dj' h h' e e' => ?_, fun b u q nb => ?_, fun b z => ?_, fun b z => ?_, hl⟩, own_iff⟩
  · rw [← r.len]
    unfold putM
    rcases hi with h | h <;> simp only [h] <;> rw [List.length_set]
  · have hj : j ≠ i := fun z => by
      subst z
      unfold putM at h
      rcases hi with h' | h' <;> (simp only [h'] at h; rw [List.getElem?_set_self hin] at h; cases h)
    rw [gi j hj] at h
    obtain ⟨v, e1, q⟩ := r.dat j dj h
    exact ⟨v, e1, q.mono k hA⟩
  · by_cases hj : j = i
    · subst hj
      unfold putM at h
      rcases hi with h' | h'
      · simp only [h'] at h
        rw [List.getElem?_set_self hin] at h
        cases h
        obtain ⟨b, e1, _, nC, z⟩ := r.own j d h'
        rw [ha] at e1; cases e1
        exact ⟨a, ha, t', nC, z⟩
      · simp only [h'] at h
        rw [List.getElem?_set_self hin] at h
        cases h
    · rw [gi j hj] at h
      obtain ⟨b, e1, tb, nC, z⟩ := r.own j dj h
      have nb : b ≠ a := fun q => hj (r.inj j i a dj d (.inl h) hi (q ▸ e1) ha)
      exact ⟨b, e1, tb.mono k hA (oth nb), nC, z⟩
  · by_cases hj : j = i
    · subst hj
      unfold putM at h
      rcases hi with h' | h'
      · simp only [h'] at h
        rw [List.getElem?_set_self hin] at h
        cases h
      · simp only [h'] at h
        rw [List.getElem?_set_self hin] at h
        cases h
        obtain ⟨b, e1, _, nC, z⟩ := r.io j d h'
        rw [ha] at e1; cases e1
        exact ⟨a, ha, t', nC, z⟩
    · rw [gi j hj] at h
      obtain ⟨b, e1, tb, nC, z⟩ := r.io j dj h
      have nb : b ≠ a := fun q => hj (r.inj j i a dj d (.inr h) hi (q ▸ e1) ha)
      exact ⟨b, e1, tb.mono k hA (oth nb), nC, z⟩
  · have hj : j ≠ i := fun z => by
      subst z
      unfold putM at h
      rcases hi with h' | h' <;> (simp only [h'] at h; rw [List.getElem?_set_self hin] at h; cases h)
    rw [gi j hj] at h
    obtain ⟨v, e1, q⟩ := r.bor j dj h
    refine ⟨v, e1, ?_⟩
    rcases q with q | ⟨b, e2, tb, z⟩
    · exact .inl (q.mono k hA)
    · have nb : b ≠ a := fun q => by
        subst q
        rcases (r.ownSome oa).2.2 with y | y
        · exact z.1 y
        · exact z.2 y
      exact .inr ⟨b, e2, tb.mono k hA (oth nb), z⟩
  · have back : ∀ {j : Nat} {dj : D}, ((putM env i d')[j]? = some (.own dj) ∨ (putM env i d')[j]? = some (.io dj)) → ∃ dj', env[j]? = some (.own dj') ∨ env[j]? = some (.io dj') := fun {j dj} h => by
      by_cases hj : j = i
      · subst hj; exact ⟨d, hi⟩
      · rw [gi j hj] at h; exact ⟨dj, h⟩
    obtain ⟨x, hx⟩ := back h
    obtain ⟨y, hy⟩ := back h'
    exact r.inj j j' b x y hx hy e e'
  · have q1 := r.fr b u q nb
    have nba : b ≠ a := fun z => by
      subst z
      rcases (r.ownSome oa).2.2 with y | y
      · rw [y] at q; cases q
      · exact nb y
    exact oth nba u q1
  · by_cases h : b = a
    · subst h; rw [upd_same]; exact fun z => nomatch z
    · rw [upd_ne h]; exact r.cd b z
  · by_cases h : b = a
    · subst h; rw [upd_same]; exact fun z => nomatch z
    · rw [upd_ne h]; exact r.id b z
/-- a slot is filled with data, or emptied -/
theorem Rel.setGen {i : Nat} {s : Slot} {x : Option V} (r : Rel F env σ H) (ni : ∀ d, env[i]? ≠ some (.io d)) (hs : ∀ d, s ≠ .own d ∧ s ≠ .io d) (hi : i < env.length)
    (hd : ∀ d, s = .dat d → ∃ v, x = some v ∧ RepF F env σ H v d) (hb : ∀ d, s ≠ .bor d) : Rel F (env.set i s) (σ.set i x) H := by
  have hiσ : i < σ.length := by rw [← r.len]; exact hi
  have oE : ∀ {j : Nat} {d : D}, ((env.set i s)[j]? = some (.own d) ∨ (env.set i s)[j]? = some (.io d)) → j ≠ i ∧ (env[j]? = some (.own d) ∨ env[j]? = some (.io d)) := fun {j d} h => by
    by_cases hj : j = i
    · subst hj
      rw [List.getElem?_set_self hi] at h
      rcases h with h | h
      · exact absurd (Option.some.inj h) (hs d).1
      · exact absurd (Option.some.inj h) (hs d).2
    · rw [List.getElem?_set_ne (Ne.symm hj)] at h
      exact ⟨hj, h⟩
  have sub : ∀ b, Own (env.set i s) (σ.set i x) b → Own env σ b := fun b ⟨j, d, h, e⟩ => by
    obtain ⟨hj, h'⟩ := oE h
    rw [List.getElem?_set_ne (Ne.symm hj)] at e
    exact ⟨j, d, h', e⟩
  have hA : ∀ b, H b ≠ none → Avd F.C (env.set i s) (σ.set i x) b → Avd F.C env σ b := fun b _ z => by
    rcases z with z | z
    · exact .inl z
    · exact .inr (sub b z)
  refine ⟨by rw [List.length_set, List.length_set]; exact r.len, fun j d h => ?_, fun j d h => ?_, fun j d h => ?_, fun j d h => ?_, fun j j' b dj dj' h h' e e' => ?_, r.fr, r.cd, r.id, r.sz⟩
  · by_cases hj : j = i
    · subst hj
      rw [List.getElem?_set_self hi] at h
      obtain ⟨v, rfl, q⟩ := hd d (Option.some.inj h)
      exact ⟨v, List.getElem?_set_self hiσ, q.mono Kp.refl hA⟩
    · rw [List.getElem?_set_ne (Ne.symm hj)] at h
      obtain ⟨v, e1, q⟩ := r.dat j d h
      exact ⟨v, by rw [List.getElem?_set_ne (Ne.symm hj)]; exact e1, q.mono Kp.refl hA⟩
  · obtain ⟨hj, _⟩ := oE (.inl h)
    rw [List.getElem?_set_ne (Ne.symm hj)] at h
    obtain ⟨a, e1, t, z⟩ := r.own j d h
    exact ⟨a, by rw [List.getElem?_set_ne (Ne.symm hj)]; exact e1, t.mono Kp.refl hA (fun _ q => q), z⟩
  · obtain ⟨hj, _⟩ := oE (.inr h)
    rw [List.getElem?_set_ne (Ne.symm hj)] at h
    obtain ⟨a, e1, t, z⟩ := r.io j d h
    exact ⟨a, by rw [List.getElem?_set_ne (Ne.symm hj)]; exact e1, t.mono Kp.refl hA (fun _ q => q), z⟩
  · by_cases hj : j = i
    · subst hj
      rw [List.getElem?_set_self hi] at h
      exact absurd (Option.some.inj h) (hb d)
    · rw [List.getElem?_set_ne (Ne.symm hj)] at h
      obtain ⟨v, e1, q⟩ := r.bor j d h
      refine ⟨v, by rw [List.getElem?_set_ne (Ne.symm hj)]; exact e1, ?_⟩
      rcases q with q | ⟨a, e2, t, z⟩
      · exact .inl (q.mono Kp.refl hA)
      · exact .inr ⟨a, e2, t.mono Kp.refl hA (fun _ q => q), z⟩
  · obtain ⟨hj, g⟩ := oE h
    obtain ⟨hj', g'⟩ := oE h'
    rw [List.getElem?_set_ne (Ne.symm hj)] at e
    rw [List.getElem?_set_ne (Ne.symm hj')] at e'
    exact r.inj j j' b dj dj' g g' e e'
/-- .. or with a new object of its own -/
theorem Rel.setOwn {i : Nat} {p : Addr} {d : D} (r : Rel (F.add p) env σ H) (ni : ∀ d, env[i]? ≠ some (.io d)) (hi : i < env.length) (nC : ¬ F.C p) (h0 : F.H0 p = none) (t : TopF (F.add p) env σ H p d) :
    Rel F (env.set i (.own d)) (σ.set i (some (.ref p))) H := by
  have hiσ : i < σ.length := by rw [← r.len]; exact hi
  have oE : ∀ {j : Nat} {dj : D}, ((env.set i (.own d))[j]? = some (.own dj) ∨ (env.set i (.own d))[j]? = some (.io dj)) → j ≠ i → (env[j]? = some (.own dj) ∨ env[j]? = some (.io dj)) := fun {j dj} h hj => by
    rw [List.getElem?_set_ne (Ne.symm hj)] at h
    exact h
  have sub : ∀ b, Own (env.set i (.own d)) (σ.set i (some (.ref p))) b → Own env σ b ∨ b = p := fun b ⟨j, dj, h, e⟩ => by
    by_cases hj : j = i
    · subst hj
      rw [List.getElem?_set_self hiσ] at e
      cases e
      exact .inr rfl
    · rw [List.getElem?_set_ne (Ne.symm hj)] at e
      exact .inl ⟨j, dj, oE h hj, e⟩
  have hA : ∀ b, H b ≠ none → Avd F.C (env.set i (.own d)) (σ.set i (some (.ref p))) b → Avd (F.add p).C env σ b := fun b _ z => by
    rcases z with z | z
    · exact .inl (.inl z)
    · rcases sub b z with y | y
      · exact .inr y
      · exact .inl (.inr y)
  have np : ∀ {j : Nat} {dj : D}, (env[j]? = some (.own dj) ∨ env[j]? = some (.io dj)) → σ[j]? ≠ some (some (.ref p)) := fun {j dj} h e => by
    have := (r.ownSome ⟨j, dj, h, e⟩).2.1
    exact this (.inr rfl)
  refine ⟨by rw [List.length_set, List.length_set]; exact r.len, fun j dj h => ?_, fun j dj h => ?_, fun j dj h => ?_, fun j dj h => ?_, fun j j' b dj dj' h h' e e' => ?_, r.fr, fun a z => r.cd a (.inl z), r.id, r.sz⟩
  · have hj : j ≠ i := fun z => by
      subst z
      rw [List.getElem?_set_self hi] at h
      cases h
    rw [List.getElem?_set_ne (Ne.symm hj)] at h
    obtain ⟨v, e1, q⟩ := r.dat j dj h
    exact ⟨v, by rw [List.getElem?_set_ne (Ne.symm hj)]; exact e1, q.mono Kp.refl hA⟩
  · by_cases hj : j = i
    · subst hj
      rw [List.getElem?_set_self hi] at h
      cases h
      exact ⟨p, List.getElem?_set_self hiσ, t.mono Kp.refl hA (fun _ q => q), nC, h0⟩
    · rw [List.getElem?_set_ne (Ne.symm hj)] at h
      obtain ⟨a, e1, t', nC', z⟩ := r.own j dj h
      exact ⟨a, by rw [List.getElem?_set_ne (Ne.symm hj)]; exact e1, t'.mono Kp.refl hA (fun _ q => q), fun z => nC' (.inl z), z⟩
  · have hj : j ≠ i := fun z => by
      subst z
      rw [List.getElem?_set_self hi] at h
      cases h
    rw [List.getElem?_set_ne (Ne.symm hj)] at h
    obtain ⟨a, e1, t', nC', z⟩ := r.io j dj h
    exact ⟨a, by rw [List.getElem?_set_ne (Ne.symm hj)]; exact e1, t'.mono Kp.refl hA (fun _ q => q), fun z => nC' (.inl z), z⟩
  · have hj : j ≠ i := fun z => by
      subst z
      rw [List.getElem?_set_self hi] at h
      cases h
    rw [List.getElem?_set_ne (Ne.symm hj)] at h
    obtain ⟨v, e1, q⟩ := r.bor j dj h
    refine ⟨v, by rw [List.getElem?_set_ne (Ne.symm hj)]; exact e1, ?_⟩
    rcases q with q | ⟨a, e2, t', z⟩
    · exact .inl (q.mono Kp.refl hA)
    · exact .inr ⟨a, e2, t'.mono Kp.refl hA (fun _ q => q), z⟩
  · by_cases hj : j = i
    · by_cases hj' : j' = i
      · rw [hj, hj']
      · subst hj
        rw [List.getElem?_set_self hiσ] at e
        cases e
        rw [List.getElem?_set_ne (Ne.symm hj')] at e'
        exact absurd e' (np (oE h' hj'))
    · by_cases hj' : j' = i
      · subst hj'
        rw [List.getElem?_set_self hiσ] at e'
        cases e'
        rw [List.getElem?_set_ne (Ne.symm hj)] at e
        exact absurd e (np (oE h hj))
      · rw [List.getElem?_set_ne (Ne.symm hj)] at e
        rw [List.getElem?_set_ne (Ne.symm hj')] at e'
        exact r.inj j j' b dj dj' (oE h hj) (oE h' hj') e e'
/-- an own slot becomes data -/
theorem Rel.frz {i : Nat} {d : D} (r : Rel F env σ H) (h : env[i]? = some (.own d)) : Rel F (env.set i (.dat d)) σ H := by
  obtain ⟨a, ea, t, nC, z⟩ := r.own i d h
  have hi : i < env.length := (List.getElem?_eq_some_iff.mp h).1
  have oE : ∀ {j : Nat} {dj : D}, ((env.set i (.dat d))[j]? = some (.own dj) ∨ (env.set i (.dat d))[j]? = some (.io dj)) → j ≠ i ∧ (env[j]? = some (.own dj) ∨ env[j]? = some (.io dj)) := fun {j dj} h => by
    by_cases hj : j = i
    · subst hj
      rw [List.getElem?_set_self hi] at h
      rcases h with h | h <;> cases h
    · rw [List.getElem?_set_ne (Ne.symm hj)] at h
      exact ⟨hj, h⟩
  have sub : ∀ b, Own (env.set i (.dat d)) σ b → Own env σ b := fun b ⟨j, dj, h, e⟩ => ⟨j, dj, (oE h).2, e⟩
  have hA : ∀ b, H b ≠ none → Avd F.C (env.set i (.dat d)) σ b → Avd F.C env σ b := fun b _ z => by
    rcases z with z | z
    · exact .inl z
    · exact .inr (sub b z)
  have na : ¬ Avd F.C (env.set i (.dat d)) σ a := fun z => by
    rcases z with z | ⟨j, dj, hj, e⟩
    · exact nC z
    · obtain ⟨ne, g⟩ := oE hj
      exact ne (r.inj j i a dj d g (.inl h) e ea)
  refine ⟨by rw [List.length_set]; exact r.len, fun j dj h => ?_, fun j dj h => ?_, fun j dj h => ?_, fun j dj h => ?_, fun j j' b dj dj' h h' e e' => r.inj j j' b dj dj' (oE h).2 (oE h').2 e e', r.fr, r.cd, r.id, r.sz⟩
  · by_cases hj : j = i
    · subst hj
      rw [List.getElem?_set_self hi] at h
      cases h
      exact ⟨_, ea, (t.mono Kp.refl hA fun _ q => q).rep na⟩
    · rw [List.getElem?_set_ne (Ne.symm hj)] at h
      obtain ⟨v, e1, q⟩ := r.dat j dj h
      exact ⟨v, e1, q.mono Kp.refl hA⟩
  · have g := (oE (.inl h)).1
    rw [List.getElem?_set_ne (Ne.symm g)] at h
    obtain ⟨b, e1, t', z⟩ := r.own j dj h
    exact ⟨b, e1, t'.mono Kp.refl hA (fun _ q => q), z⟩
  · have g := (oE (.inr h)).1
    rw [List.getElem?_set_ne (Ne.symm g)] at h
    obtain ⟨b, e1, t', z⟩ := r.io j dj h
    exact ⟨b, e1, t'.mono Kp.refl hA (fun _ q => q), z⟩
  · have hj : j ≠ i := fun z => by
      subst z
      rw [List.getElem?_set_self hi] at h
      cases h
    rw [List.getElem?_set_ne (Ne.symm hj)] at h
    obtain ⟨v, e1, q⟩ := r.bor j dj h
    refine ⟨v, e1, ?_⟩
    rcases q with q | ⟨b, e2, t', z⟩
    · exact .inl (q.mono Kp.refl hA)
    · exact .inr ⟨b, e2, t'.mono Kp.refl hA (fun _ q => q), z⟩
theorem Rel.part {σ' : SV} (r : Rel F env σ H) (hl : env'.length = σ'.length) (h : ∀ (j : Nat) (s : Slot), env'[j]? = some s → s ≠ .un → env[j]? = some s ∧ σ'[j]? = σ[j]?) :
    Rel F env' σ' H ∧ ∀ a, Own env' σ' a → Own env σ a := by
  have oE : ∀ {j : Nat} {d : D}, (env'[j]? = some (.own d) ∨ env'[j]? = some (.io d)) → (env[j]? = some (.own d) ∨ env[j]? = some (.io d)) ∧ σ'[j]? = σ[j]? := fun {j d} q => by
    rcases q with q | q
    · obtain ⟨a, b⟩ := h j _ q (fun z => nomatch z)
      exact ⟨.inl a, b⟩
    · obtain ⟨a, b⟩ := h j _ q (fun z => nomatch z)
      exact ⟨.inr a, b⟩
  have sub : ∀ a, Own env' σ' a → Own env σ a := fun a ⟨j, d, q, e⟩ => by
    obtain ⟨q', e'⟩ := oE q
    rw [e'] at e
    exact ⟨j, d, q', e⟩
  have hA : ∀ b, H b ≠ none → Avd F.C env' σ' b → Avd F.C env σ b := fun b _ z => by
    rcases z with z | z
    · exact .inl z
    · exact .inr (sub b z)
  refine ⟨⟨hl, fun i d q => ?_, fun i d q => ?_, fun i d q => ?_, fun i d q => ?_, fun i j a di dj q q' e e' => ?_, r.fr, r.cd, r.id, r.sz⟩, sub⟩
  · obtain ⟨a, b⟩ := h i _ q (fun z => nomatch z)
    obtain ⟨v, e1, rv⟩ := r.dat i d a
    exact ⟨v, b.trans e1, rv.mono Kp.refl hA⟩
  · obtain ⟨a, b⟩ := h i _ q (fun z => nomatch z)
    obtain ⟨v, e1, t, z⟩ := r.own i d a
    exact ⟨v, b.trans e1, t.mono Kp.refl hA (fun _ q => q), z⟩
  · obtain ⟨a, b⟩ := h i _ q (fun z => nomatch z)
    obtain ⟨v, e1, t, z⟩ := r.io i d a
    exact ⟨v, b.trans e1, t.mono Kp.refl hA (fun _ q => q), z⟩
  · obtain ⟨a, b⟩ := h i _ q (fun z => nomatch z)
    obtain ⟨v, e1, q2⟩ := r.bor i d a
    refine ⟨v, b.trans e1, ?_⟩
    rcases q2 with q2 | ⟨c, e2, t, z⟩
    · exact .inl (q2.mono Kp.refl hA)
    · exact .inr ⟨c, e2, t.mono Kp.refl hA (fun _ q => q), z⟩
  · obtain ⟨a1, b1⟩ := oE q
    obtain ⟨a2, b2⟩ := oE q'
    exact r.inj i j a di dj a1 a2 (b1 ▸ e) (b2 ▸ e')
theorem Lat.part {env0 : En} {σ0 σ' : SV} {H0 : Hp} (la : Lat env0 σ0 H0 env σ H) (sub : ∀ a, Own env' σ' a → Own env σ a) (io : Io env0 σ0 env' σ') : Lat env0 σ0 H0 env' σ' H :=
  ⟨la.kp, fun a h z => la.sub a h (sub a z), la.nn, io⟩
/-- an avoided object is changed -/
theorem Rel.updC {a : Addr} {o : HO} (r : Rel F env σ H) (hC : F.C a) (h0 : F.H0 a = none) (hl : HL (upd H a o)) : Rel F env σ (upd H a o) := by
  have k : Kp (Avd F.C env σ) H (upd H a o) := Kp.upd (.inr (.inl hC))
  have hA : ∀ b, H b ≠ none → Avd F.C env σ b → Avd F.C env σ b := fun _ _ z => z
  have e : ∀ {b : Addr}, ¬ F.C b → ∀ u, H b = some u → upd H a o b = some u := fun {b} hb u q => by
    rw [upd_ne (fun z => hb (by rw [z]; exact hC))]; exact q
  have nn : ∀ b, H b ≠ none → upd H a o b ≠ none := fun b h => by
    by_cases z : b = a
    · rw [z, upd_same]; exact fun q => nomatch q
    · rw [upd_ne z]; exact h
  refine ⟨r.len, fun i d h => ?_, fun i d h => ?_, fun i d h => ?_, fun i d h => ?_, r.inj, fun b u q nb => ?_, fun b z => nn b (r.cd b z), fun b z => nn b (r.id b z), hl⟩
  · obtain ⟨v, e1, q⟩ := r.dat i d h
    exact ⟨v, e1, q.mono k hA⟩
  · obtain ⟨b, e1, t, nC, z⟩ := r.own i d h
    exact ⟨b, e1, t.mono k hA (e nC), nC, z⟩
  · obtain ⟨b, e1, t, nC, z⟩ := r.io i d h
    exact ⟨b, e1, t.mono k hA (e nC), nC, z⟩
  · obtain ⟨v, e1, q⟩ := r.bor i d h
    refine ⟨v, e1, ?_⟩
    rcases q with q | ⟨b, e2, t, z⟩
    · exact .inl (q.mono k hA)
    · exact .inr ⟨b, e2, t.mono k hA (fun u q => by rw [upd_ne (fun y => z.1 (by rw [y]; exact h0))]; exact q), z⟩
  · have q1 := r.fr b u q nb
    rw [upd_ne (fun z => by rw [z, h0] at q; cases q)]
    exact q1
end
end Dm
set_option Elab.async false
set_option linter.all false
set_option maxRecDepth 100000
set_option maxHeartbeats 1000000
namespace Dm
open PySem PySem.Spec PyProof.Rows L2

/-- a new object of which nobody else knows -/
def Fre (F : Fx) (env' : En) (σ : SV) (H H' : Hp) (v : V) (d : D) : Prop := d.isMut = true → ∃ a, v = .ref a ∧ H a = none ∧ Rel (F.add a) env' σ H' ∧ TopF (F.add a) env' σ H' a d
def Out (fr : Bool) (F : Fx) (env : En) (σ : SV) (H : Hp) (r : Res (D × En)) (Q : VK) : Prop := match r with
  | .ok p => ∀ v H', Pst F env p.2 σ H H' → RepF F p.2 σ H' v p.1 → (fr = true → Fre F p.2 σ H H' v p.1) → Q v H'
  | .exc c d => F.X c d
  | .bad => False
def OutA (F : Fx) (env : En) (σ : SV) (H : Hp) (r : Res (List D × En)) (Q : List V → Hp → Prop) : Prop := match r with
  | .ok p => ∀ v H', Pst F env p.2 σ H H' → RepAllF F p.2 σ H' v p.1 → Q v H'
  | .exc c d => F.X c d
  | .bad => False
def OutT (F : Fx) (env : En) (σ : SV) (H : Hp) (r : Res (Bool × En)) (Q : Bool → Hp → Prop) : Prop := match r with
  | .ok p => ∀ H', Pst F env p.2 σ H H' → Q p.1 H'
  | .exc c d => F.X c d
  | .bad => False
section
variable {F : Fx} {env : En} {σ : SV} {H H1 : Hp} {fr : Bool}
theorem Pst.none {env1 : En} (p : Pst F env env1 σ H H1) (a : Addr) (h : H1 a = none) : H a = none := by
  cases e : H a with
  | none => rfl
  | some o => exact absurd h (p.nn a (by rw [e]; exact fun z => nomatch z))
theorem Out.shift {env1 : En} {r : Res (D × En)} {Q : VK} (p : Pst F env env1 σ H H1) (h : Out fr F env σ H r Q) : Out fr F env1 σ H1 r Q := by
  cases r with
  | ok q => exact fun v H' ps rv hf => h v H' (p.trans ps) rv fun e m => let ⟨a, h1, h2, h3⟩ := hf e m; ⟨a, h1, p.none a h2, h3⟩
  | exc c d => exact h
  | bad => exact h
theorem OutA.shift {env1 : En} {r : Res (List D × En)} {Q : List V → Hp → Prop} (p : Pst F env env1 σ H H1) (h : OutA F env σ H r Q) : OutA F env1 σ H1 r Q := by
  cases r with
  | ok q => exact fun v H' ps rv => h v H' (p.trans ps) rv
  | exc c d => exact h
  | bad => exact h
theorem OutT.shift {env1 : En} {r : Res (Bool × En)} {Q : Bool → Hp → Prop} (p : Pst F env env1 σ H H1) (h : OutT F env σ H r Q) : OutT F env1 σ H1 r Q := by
  cases r with
  | ok q => exact fun H' ps => h H' (p.trans ps)
  | exc c d => exact h
  | bad => exact h
/-- first r, then f: into the reading of r -/
theorem Out.seq {r : Res (D × En)} {f : D × En → Res (D × En)} {Q Q1 : VK} (h : Out fr F env σ H (r.bind f) Q)
    (k : ∀ p v H1, r = .ok p → Pst F env p.2 σ H H1 → RepF F p.2 σ H1 v p.1 → Out fr F p.2 σ H1 (f p) Q → Q1 v H1) : Out false F env σ H r Q1 := by
  cases r with
  | ok p => exact fun v H1 ps rv _ => k p v H1 rfl ps rv (Out.shift ps h)
  | exc c d => exact h
  | bad => exact h
theorem Out.seqA {r : Res (List D × En)} {f : List D × En → Res (D × En)} {Q : VK} {Q1 : List V → Hp → Prop} (h : Out fr F env σ H (r.bind f) Q)
    (k : ∀ p v H1, r = .ok p → Pst F env p.2 σ H H1 → RepAllF F p.2 σ H1 v p.1 → Out fr F p.2 σ H1 (f p) Q → Q1 v H1) : OutA F env σ H r Q1 := by
  cases r with
  | ok p => exact fun v H1 ps rv => k p v H1 rfl ps rv (Out.shift ps h)
  | exc c d => exact h
  | bad => exact h
theorem Out.seqT {r : Res (Bool × En)} {f : Bool × En → Res (D × En)} {Q : VK} {Q1 : Bool → Hp → Prop} (h : Out fr F env σ H (r.bind f) Q)
    (k : ∀ p H1, r = .ok p → Pst F env p.2 σ H H1 → Out fr F p.2 σ H1 (f p) Q → Q1 p.1 H1) : OutT F env σ H r Q1 := by
  cases r with
  | ok p => exact fun H1 ps => k p H1 rfl ps (Out.shift ps h)
  | exc c d => exact h
  | bad => exact h
theorem OutA.seq {r : Res (D × En)} {f : D × En → Res (List D × En)} {Q : List V → Hp → Prop} {Q1 : VK} (h : OutA F env σ H (r.bind f) Q)
    (k : ∀ p v H1, r = .ok p → Pst F env p.2 σ H H1 → RepF F p.2 σ H1 v p.1 → OutA F p.2 σ H1 (f p) Q → Q1 v H1) : Out false F env σ H r Q1 := by
  cases r with
  | ok p => exact fun v H1 ps rv _ => k p v H1 rfl ps rv (OutA.shift ps h)
  | exc c d => exact h
  | bad => exact h
theorem OutA.seqA {r : Res (List D × En)} {f : List D × En → Res (List D × En)} {Q : List V → Hp → Prop} {Q1 : List V → Hp → Prop} (h : OutA F env σ H (r.bind f) Q)
    (k : ∀ p v H1, r = .ok p → Pst F env p.2 σ H H1 → RepAllF F p.2 σ H1 v p.1 → OutA F p.2 σ H1 (f p) Q → Q1 v H1) : OutA F env σ H r Q1 := by
  cases r with
  | ok p => exact fun v H1 ps rv => k p v H1 rfl ps rv (OutA.shift ps h)
  | exc c d => exact h
  | bad => exact h
theorem OutT.seq {r : Res (D × En)} {f : D × En → Res (Bool × En)} {Q : Bool → Hp → Prop} {Q1 : VK} (h : OutT F env σ H (r.bind f) Q)
    (k : ∀ p v H1, r = .ok p → Pst F env p.2 σ H H1 → RepF F p.2 σ H1 v p.1 → OutT F p.2 σ H1 (f p) Q → Q1 v H1) : Out false F env σ H r Q1 := by
  cases r with
  | ok p => exact fun v H1 ps rv _ => k p v H1 rfl ps rv (OutT.shift ps h)
  | exc c d => exact h
  | bad => exact h
theorem OutT.seqT {r : Res (Bool × En)} {f : Bool × En → Res (Bool × En)} {Q : Bool → Hp → Prop} {Q1 : Bool → Hp → Prop} (h : OutT F env σ H (r.bind f) Q)
    (k : ∀ p H1, r = .ok p → Pst F env p.2 σ H H1 → OutT F p.2 σ H1 (f p) Q → Q1 p.1 H1) : OutT F env σ H r Q1 := by
  cases r with
  | ok p => exact fun H1 ps => k p H1 rfl ps (OutT.shift ps h)
  | exc c d => exact h
  | bad => exact h
/-- the end: a value that is at hand -/
theorem Out.fin {d : D} {Q : VK} (rel : Rel F env σ H) (h : Out false F env σ H (.ok (d, env)) Q) {v : V} (r : RepF F env σ H v d) : Q v H := h v H (Pst.refl rel) r (fun e => nomatch e)
/-- .. a new list, tuple, dict -/
theorem Out.newL {xs : List V} {ds : List D} {Q : VK} (rel : Rel F env σ H) (h : Out fr F env σ H (.ok (.lst ds, env)) Q) (r : RepAllF F env σ H xs ds) (hl : xs.length ≤ sizeLine) {p : Addr} (n : H p = none) : Q (.ref p) (upd H p (.lst xs)) := by
  have ps := Pst.laid rel n (rel.sz.lstU hl)
  have rp := (rel.laid n (rel.sz.lstU hl))
  have np : ¬ Avd F.C env σ p := fun z => rel.avSome z n
  have r' : RepAllF (F.add p) env σ (upd H p (.lst xs)) xs ds := r.mono (Kp.upd (.inl n)) fun b hb z => by
    rcases z with (z | z) | z
    · exact .inl z
    · exact absurd (z ▸ n) hb
    · exact .inr z
  exact h _ _ ps (.lst (.inl upd_same) np (ps.repAll r)) fun _ _ => ⟨p, rfl, n, rp, .lst upd_same r'⟩
theorem Out.newT {xs : List V} {ds : List D} {Q : VK} (rel : Rel F env σ H) (h : Out fr F env σ H (.ok (.tup ds, env)) Q) (r : RepAllF F env σ H xs ds) (hl : xs.length ≤ sizeLine) {p : Addr} (n : H p = none) : Q (.ref p) (upd H p (.tup xs)) := by
  have ps := Pst.laid rel n (rel.sz.tupU hl)
  have np : ¬ Avd F.C env σ p := fun z => rel.avSome z n
  exact h _ _ ps (.tup (.inl upd_same) np (ps.repAll r)) fun _ z => nomatch z
theorem Out.newD {xs : List (Key × V)} {ds : List (Ky × D)} {Q : VK} (rel : Rel F env σ H) (h : Out fr F env σ H (.ok (.dic ds, env)) Q) (r : RepKv F.K F.cl (Avd F.C env σ) H xs ds) (hl : xs.length ≤ sizeLine) {p : Addr} (n : H p = none) : Q (.ref p) (upd H p (.dK xs)) := by
  have ps := Pst.laid rel n (rel.sz.dKU hl)
  have rp := (rel.laid n (rel.sz.dKU hl))
  have np : ¬ Avd F.C env σ p := fun z => rel.avSome z n
  have r' : RepKv F.K F.cl (Avd (F.add p).C env σ) (upd H p (.dK xs)) xs ds := r.mono (Kp.upd (.inl n)) fun b hb z => by
    rcases z with (z | z) | z
    · exact .inl z
    · exact absurd (z ▸ n) hb
    · exact .inr z
  exact h _ _ ps (.dic (.inl upd_same) np (r.mono ps.kpA fun _ h z => ps.toLat.av h z)) fun _ _ => ⟨p, rfl, n, rp, .dic upd_same r'⟩
end

section
variable {X : Cx}
theorem op_any {f : Value → Value → Sem Value} : OpR X f (fun x y H Q => ∃ r, OpR X f r ∧ r x y H Q) := fun pins s σ H x y v u Q I rx ry ⟨r, ho, h⟩ => ho pins s σ H x y v u Q I rx ry h
theorem call_any {f : Value} : CallR X f (fun xs H Q => ∃ r, CallR X f r ∧ r xs H Q) := fun pins s σ H xs us Q I r ⟨r', ho, h⟩ => ho pins s σ H xs us Q I r h
theorem ix_any : IxR X (fun x y H Q => ∃ r, IxR X r ∧ r x y H Q) := fun a b pins s σ H x y v u Q I rx ry ⟨r, ho, h⟩ hs => ho a b pins s σ H x y v u Q I rx ry h hs
theorem sl_any : SlR X (fun x lo hi H Q => ∃ r, SlR X r ∧ r x lo hi H Q) := fun pins s σ H x v vl vu lo hi sl Q I rx hs pl pu ⟨r, ho, h⟩ => ho pins s σ H x v vl vu lo hi sl Q I rx hs pl pu h
theorem lstR {pins : List (Addr × Obj)} {σ : L2.St} {H : Hp} {s : Shared} {l : Addr} {xs : List V} (I : Inv X pins σ H s) (hH : Rd H l (.lst xs)) : xs.length ≤ sizeLine ∧ ∃ (its : List Value) (n : Nat), Vals xs its ∧ xs.length = its.length ∧ s.heap.get? l = some { cls := .type "list", data := .seq its.toArray n } := by
  obtain ⟨z, its, n, r, e⟩ := hH.ok I.hok
  exact ⟨z, its, n, r, r.length, e⟩
def rCatR : R2 := fun x y H Q => ∃ l b xs zs, x = .ref l ∧ y = .ref b ∧ Rd H l (.lst xs) ∧ Rd H b (.lst zs) ∧ xs.length + zs.length ≤ sizeLine ∧ ∀ p, H p = none → Q (.ref p) (upd H p (.lst (xs ++ zs)))
theorem op_catR : OpR X (binaryOp .Add) rCatR := by
  intro pins s σ H x y v u Q I rx ry h
  obtain ⟨l, b, xs, zs, rfl, rfl, hH, hB, hz, q⟩ := h
  cases rx
  cases ry
  obtain ⟨z, its, n, r, hl, e⟩ := lstR I hH
  obtain ⟨z2, its2, n2, r2, hl2, e2⟩ := lstR I hB
  refine PySem.P.add_list e e2 ?_ (by rw [List.size_toArray, List.size_toArray]; omega)
  have ea : its.toArray ++ its2.toArray = (its ++ its2).toArray := by simp
  rw [ea]
  exact ⟨.ref _, _, I.lnew (t' := s.toks) (r.append r2) (by rw [List.length_append]; omega), rfl, q _ I.fresh⟩
def rRepR : R2 := fun x y H Q => ∃ l k xs, x = .ref l ∧ y = .int k ∧ Rd H l (.lst xs) ∧ -(2 ^ 63) ≤ k ∧ k < 2 ^ 63 ∧ xs.length * k.toNat ≤ sizeLine ∧
  ∀ p, H p = none → Q (.ref p) (upd H p (.lst (List.replicate k.toNat xs).flatten))
theorem op_repR : OpR X (binaryOp .Mult) rRepR := by
  intro pins s σ H x y v u Q I rx ry h
  obtain ⟨l, k, xs, rfl, rfl, hH, h1, h2, hz, q⟩ := h
  cases rx
  obtain ⟨t, rfl⟩ := ry
  obtain ⟨z, its, n, r, hl, e⟩ := lstR I hH
  have hlen : its.toArray.size * k.toNat ≤ sizeLine := by rw [List.size_toArray, ← hl]; exact hz
  have hcap : ¬ its.toArray.size * k.toNat > (2 ^ 63 - 1) / 8 := by
    have : (sizeLine : Nat) ≤ (2 ^ 63 - 1) / 8 := by decide
    omega
  have hfit : ¬ (!Builtin.List.listFitsIndex k) = true := by
    rw [fitsIndex_both h1 h2]
    exact Bool.false_ne_true
  have hlong : ¬ Builtin.List.listTooLong (its.toArray.size * k.toNat) = true := by
    rw [notLongL hlen]
    exact Bool.false_ne_true
  have hnew : List.foldl (fun x1 x2 => x1 ++ x2) #[] (List.replicate (if its.toArray.isEmpty = true then 0 else k.toNat) its.toArray) = (List.replicate k.toNat its).flatten.toArray := by
    have f0 : ∀ m : Nat, List.foldl (fun x1 x2 => x1 ++ x2) #[] (List.replicate m its.toArray) = (List.replicate m its).flatten.toArray := fun m => by
      have := foldl_rep its m []
      rw [List.nil_append] at this
      exact this
    rw [f0]
    cases its with
    | nil => simp
    | cons a r' => rw [if_neg (by simp)]
  refine wpAny_binaryOp_repeat_ref (T := "list") (U := "int") (by decide) ⟨_, e, rfl⟩ (fun s' => typeIs_int s' k t) noFill_list_mul F.fills_int_mul F.slot_int_rmul repeat_list F.slot_int_index.lookup
    (call_meets F.slot_int_rmul (typeIs_int s k t) F.entry_int_rmul (F.args_int_rmul_2 _ _) (int___rmul___int_list k t l its.toArray n)
      ⟨e, rfl, ⟨_, e, rfl⟩, call_meets F.slot_list_mul ⟨_, e, rfl⟩ F.entry_list_mul (F.args_list_mul_2 _ _) (AutoListH.list___mul___list_int_3 l its.toArray n k t hfit hcap hlong) ⟨e, ?_⟩⟩)
  rw [hnew]
  exact ⟨.ref _, _, I.lnew (t' := s.toks) (r.rep k.toNat) (by rw [PyProof.Rows.lm_len_rep_flat, Nat.mul_comm]; exact hz), rfl, q _ I.fresh⟩
theorem op_inDict (hu : X.A.units + 1 < cLine) : OpR X (compareOp .In) (fun x y H Q => ∃ a o, y = .ref a ∧ DGet H a x o ∧ Q (.bl o.isSome) H) := fun pins s σ H x y v u Q I rx ry ⟨a, o, e, g, q⟩ => by
  subst e
  cases ry
  exact d_in hu I g rx fun s3 I3 => ⟨.bl o.isSome, H, I3, rfl, q⟩
theorem op_notInDict (hu : X.A.units + 1 < cLine) : OpR X (compareOp .NotIn) (fun x y H Q => ∃ a o, y = .ref a ∧ DGet H a x o ∧ Q (.bl (!o.isSome)) H) := fun pins s σ H x y v u Q I rx ry ⟨a, o, e, g, q⟩ => by
  subst e
  cases ry
  exact d_notIn hu I g rx fun s3 I3 => ⟨.bl (!o.isSome), H, I3, rfl, q⟩
theorem ix_dict (hu : X.A.units + 1 < cLine) : IxR X (fun x y H Q => ∃ a z, x = .ref a ∧ DGet H a y (some z) ∧ Q z H) := fun value slice pins s σ H x y v u Q I rx ry ⟨a, z, e, g, q⟩ hs => by
  subst e
  cases rx
  have hT := dict_typeIs I g
  have h2 : wpAny (model X.prog X.w) X.A (getItem (.ref a) u) (EP X pins σ Q) X.xe s := d_getItem hu I g ry fun w' s3 I3 rw' => ⟨z, H, I3, rw', q⟩
  unfold subscriptTail
  refine wpAny_bind ?_
  rw [getitemInPython_of_ne hT.not_modules]
  refine wpAny_bind (wpAny_specialOf hT PySem.F.slot_dict_getitem.lookup ?_)
  have fin : wpAny (model X.prog X.w) X.A (subscripted slice false (.ref a) u) (fun r s₃ => wpAny (model X.prog X.w) X.A (letTemporaryGo value (.ref a) r >>= fun _ => pure r) (EP X pins σ Q) X.xe s₃) X.xe s := by
    rw [hs]
    exact wpAny_operating (wpAny_mono h2 (fun r s₃ h₃ => wpAny_bind (wpAny_letTemporaryGo (wpAny_pure h₃))) fun _ _ x => x)
  first
    | exact wpAny_pure (wpAny_bind fin)
    | exact wpAny_bind (wpAny_pure (wpAny_bind fin))
    | exact wpAny_bind fin
theorem call_lenR : CallR X (.builtin "len") (fun xs H Q => ∃ a kvs, xs = [V.ref a] ∧ Rd H a (.dK kvs) ∧ Q (.int kvs.length) H) := by
  intro pins s σ H xs us Q I r h
  obtain ⟨a, kvs, rfl, ha, q⟩ := h
  obtain ⟨u, rfl, ru⟩ := vals1 r
  cases ru
  exact d_len I ha fun t s' I' => ⟨.int kvs.length, H, I', ⟨t, rfl⟩, q⟩
def rExtR : V → List V → Hp → VK → Prop := fun x vs H Q => ∃ l b xs zs, x = .ref l ∧ vs = [.ref b] ∧ H l = some (.lst xs) ∧ Rd H b (.lst zs) ∧ xs.length + zs.length ≤ sizeLine ∧ Q .non (upd H l (.lst (xs ++ zs)))
theorem mt_extR : MtM X "list.extend" rExtR := by
  intro pins s σ H x vs v us Q I rx rv h
  obtain ⟨l, b, xs, zs, rfl, rfl, hH, hB, hz, q⟩ := h
  cases rx
  obtain ⟨u, rfl, ru⟩ := vals1 rv
  cases ru
  obtain ⟨z, its, n, r, hl, e⟩ := I.lstM hH
  obtain ⟨z2, its2, n2, r2, hl2, e2⟩ := lstR I hB
  have hsz : its.toArray.size + its2.toArray.size ≤ sizeLine := by rw [List.size_toArray, List.size_toArray]; omega
  have hlong : ¬ (!its.toArray.isEmpty && Builtin.List.listTooLong (its.toArray.size + its2.toArray.size)) = true := by
    rw [notLongL hsz, Bool.and_false]
    exact Bool.false_ne_true
  refine call_meets F.slot_list_extend ⟨_, e, rfl⟩ F.entry_list_extend (F.args_list_extend_2 _ _)
    (AutoSeq1.list_extend_list_list_0 l its.toArray n b its2.toArray n2 hlong (by rw [List.size_toArray]; omega) (by omega)) ⟨e, e2, ?_⟩
  refine ⟨.non, _, I.lset (its' := its ++ its2) hH e (by simp) (r.append r2) ?_, rfl, q⟩
  rw [List.length_append]
  omega
end
end Dm
set_option Elab.async false
set_option linter.all false
set_option maxRecDepth 100000
set_option maxHeartbeats 1000000
namespace Dm
open PySem PySem.Spec PyProof.Rows L2

def clOf (K : PySem.W.Frag) (c : Nat) : Addr := He.ga K (clsName c)
def Good (X : Cx) (F : Fx) : Prop := F.K = X.K ∧ (∀ c d, ¬ F.X c d) ∧ F.cl = clOf X.K
def tR (X : Cx) (fr : Bool) (f : En → Res (D × En)) : TE := fun σ H Q => ∃ F env, Good X F ∧ Rel F env σ H ∧ Out fr F env σ H (f env) Q
def tRA (X : Cx) (f : En → Res (List D × En)) : TA := fun σ H Q => ∃ F env, Good X F ∧ Rel F env σ H ∧ OutA F env σ H (f env) Q
def tRT (X : Cx) (f : En → Res (Bool × En)) : TT := fun σ H Q => ∃ F env, Good X F ∧ Rel F env σ H ∧ OutT F env σ H (f env) Q

section
variable {X : Cx} {e a b c : Expr} {es rest : List Expr} {fr fr' fr2 : Bool} {pos : Pos} {fa fb fc : En → Res (D × En)} {fs : En → Res (List D × En)} {ft : En → Res (Bool × En)}
theorem peImp {t t' : TE} (h : PE X e t) (i : ∀ σ H Q, t' σ H Q → t σ H Q) : PE X e t' := ⟨fun pins s σ H Q I q => h.run pins s σ H Q I (i σ H Q q)⟩
theorem paImp {t t' : TA} (h : PA X es t) (i : ∀ σ H Q, t' σ H Q → t σ H Q) : PA X es t' := ⟨fun pos pins s σ H Q I q => h.run pos pins s σ H Q I (i σ H Q q)⟩
theorem ptImp {t t' : TT} (h : PT X e t) (i : ∀ σ H Q, t' σ H Q → t σ H Q) : PT X e t' := ⟨fun pins s σ H Q I q => h.run pins s σ H Q I (i σ H Q q)⟩
theorem Out.up {F : Fx} {env : En} {σ : SV} {H : Hp} {r : Res (D × En)} {Q : VK} (h : Out false F env σ H r Q) : Out fr F env σ H r Q := by
  cases r with
  | ok p => exact fun v H' ps rv _ => h v H' ps rv (fun z => nomatch z)
  | exc c d => exact h
  | bad => exact h
theorem peWeak (h : PE X e (tR X fr fa)) : PE X e (tR X false fa) := peImp h fun σ H Q ⟨F, env, g, rel, o⟩ => ⟨F, env, g, rel, o.up⟩
theorem peSame {f : En → Res (D × En)} (h : PE X e (tR X fr fa)) (q : ∀ env, f env = fa env) : PE X e (tR X fr f) := by
  have : f = fa := funext q
  rw [this]; exact h
theorem ptSame {f g : En → Res (Bool × En)} (h : PT X e (tRT X f)) (q : ∀ env, g env = f env) : PT X e (tRT X g) := by
  have : g = f := funext q
  rw [this]; exact h
theorem paSame {f g : En → Res (List D × En)} (h : PA X es (tRA X f)) (q : ∀ env, g env = f env) : PA X es (tRA X g) := by
  have : g = f := funext q
  rw [this]; exact h
theorem Out.fin' {F : Fx} {env : En} {σ : SV} {H : Hp} {d : D} {Q : VK} (rel : Rel F env σ H) (h : Out fr F env σ H (.ok (d, env)) Q) (m : d.isMut = false) {v : V} (r : RepF F env σ H v d) : Q v H := h v H (Pst.refl rel) r fun _ z => by
  rw [m] at z
  cases z

theorem s_var {i : Nat} {x : Str} (hN : X.N[i]? = some x) (hv : Vis X.env.scope x) (hd : (x == ("__debug__" : Str)) = false) (hcd : (x == ("__classdict__" : Str)) = false) :
    PE X (.Name x pos) (tR X false fun env => match env[i]? with | some (.dat d) => .ok (d, env) | _ => .bad) := by
  refine peImp (pe_var hN hv hd hcd) fun σ H Q ⟨F, env, g, rel, o⟩ => ?_
  dsimp only at o
  cases e : env[i]? with
  | none => rw [e] at o; exact o.elim
  | some s =>
    rw [e] at o
    cases s with
    | dat d =>
      obtain ⟨v, e1, r⟩ := rel.dat i d e
      exact ⟨v, e1, Out.fin rel o r⟩
    | _ => exact o.elim
theorem s_con {v : V} {d : D} (h : PE X e (tC v)) (r : ∀ F env σ H, Good X F → RepF F env σ H v d) : PE X e (tR X false fun env => .ok (d, env)) :=
  peImp h fun σ H Q ⟨F, env, g, rel, o⟩ => Out.fin rel o (r F env σ H g)
theorem s_nil : PA X [] (tRA X fun env => .ok ([], env)) := paImp pa_nil fun σ H Q ⟨F, env, g, rel, o⟩ => o [] H (Pst.refl rel) .nil
theorem s_cons (ha : PE X e (tR X fr fa)) (hr : PA X es (tRA X fs)) (hs : starEach (e :: es) X.env = (false, eval e X.env) :: starEach es X.env) :
    PA X (e :: es) (tRA X fun env => (fa env).bind fun p => (fs p.2).bind fun q => .ok (p.1 :: q.1, q.2)) :=
  paImp (pa_cons (peWeak ha) hr hs) fun σ H Q ⟨F, env, g, rel, o⟩ => ⟨F, env, g, rel, o.seq fun p v H1 _ ps rv o1 => ⟨F, p.2, g, ps.rel, o1.seqA fun q vs H2 _ ps2 rvs o2 => o2 (v :: vs) H2 (Pst.refl ps2.rel) (.cons (ps2.rep rv) rvs)⟩⟩
theorem s_lst (h : PA X es (tRA X fs)) (hl : ∀ env p, fs env = .ok p → p.1.length ≤ sizeLine) : PE X (.List es pos) (tR X true fun env => (fs env).bind fun q => .ok (.lst q.1, q.2)) :=
  peImp (pe_lst h) fun σ H Q ⟨F, env, g, rel, o⟩ => ⟨F, env, g, rel, o.seqA fun p vs H1 e1 ps rvs o1 => ⟨by rw [rvs.length]; exact hl _ _ e1, fun q nq => Out.newL ps.rel o1 rvs (by rw [rvs.length]; exact hl _ _ e1) nq⟩⟩
theorem s_tup {k : Nat} (h : PA X es (tRA X fs)) (hl : ∀ env p, fs env = .ok p → p.1.length ≤ sizeLine) : PE X (.Tuple es k pos) (tR X true fun env => (fs env).bind fun q => .ok (.tup q.1, q.2)) :=
  peImp (pe_tup h) fun σ H Q ⟨F, env, g, rel, o⟩ => ⟨F, env, g, rel, o.seqA fun p vs H1 e1 ps rvs o1 => ⟨by rw [rvs.length]; exact hl _ _ e1, fun q nq => Out.newT ps.rel o1 rvs (by rw [rvs.length]; exact hl _ _ e1) nq⟩⟩
theorem s_dic0 : PE X (.Dict [] [] pos) (tR X true fun env => .ok (.dic [], env)) :=
  peImp pe_dnewK fun σ H Q ⟨F, env, g, rel, o⟩ => fun p n => Out.newD rel o .nil (Nat.zero_le _) n

theorem len_flat {α : Type} (xs : List α) (n : Nat) : ((List.replicate n xs).flatten).length = xs.length * n := by
  rw [PyProof.Rows.lm_len_rep_flat, Nat.mul_comm]
theorem RepAll.rep {K : PySem.W.Frag} {cl : Nat → Addr} {A : Av} {H : Hp} {v : List V} {d : List D} (r : RepAll K cl A H v d) : ∀ n : Nat, RepAll K cl A H (List.replicate n v).flatten (List.replicate n d).flatten
  | 0 => .nil
  | n + 1 => by
    rw [List.replicate_succ, List.replicate_succ, List.flatten_cons, List.flatten_cons]
    exact r.append (r.rep n)
theorem bin_fin {F : Fx} {env : En} {σ : SV} {H : Hp} {op : Operator} {d1 d2 : D} {v u : V} {Q : VK} (g : Good X F) (rel : Rel F env σ H) (rv : RepF F env σ H v d1) (ru : RepF F env σ H u d2) (o : Out true F env σ H (opt (binD op d1 d2) env) Q) :
    ∃ r, OpR X (binaryOp op) r ∧ r v u H Q := by
  have nz : ∀ {x : Str}, True := trivial
  unfold binD at o
  split at o
  · cases rv; cases ru; exact ⟨_, op_add, _, _, rfl, rfl, Out.fin' rel o rfl (.int _)⟩
  · cases rv; cases ru
    split at o
    · rename_i h; exact ⟨_, op_add_str, _, _, rfl, rfl, h, Out.fin' rel o rfl (.str _)⟩
    · exact o.elim
  · split at o
    · rename_i h
      obtain ⟨p, xs, rfl, h1, r1⟩ := rv.lstV
      obtain ⟨q, ys, rfl, h2, r2⟩ := ru.lstV
      have hl : xs.length + ys.length ≤ sizeLine := by rw [r1.length, r2.length]; exact h
      exact ⟨_, op_catR, _, _, _, _, rfl, rfl, h1, h2, hl, fun a n => Out.newL rel o (r1.append r2) (by rw [List.length_append]; exact hl) n⟩
    · exact o.elim
  · split at o
    · rename_i h
      have rv' := rv
      have ru' := ru
      obtain ⟨p, xs, rfl, h1, r1⟩ := rv.tupV
      obtain ⟨q, ys, rfl, h2, r2⟩ := ru.tupV
      have hl : xs.length + ys.length ≤ sizeLine := by rw [r1.length, r2.length]; exact h
      rw [g.1] at h1 h2
      refine ⟨_, op_catA, _, _, _, _, rfl, rfl, h1, h2, hl, fun e => ?_, fun _ e => ?_, fun _ _ a n => Out.newT rel o (r1.append r2) (by rw [List.length_append]; exact hl) n⟩
      · subst e
        cases r1
        exact Out.fin' rel o rfl ru'
      · subst e
        cases r2
        rw [List.append_nil] at o
        exact Out.fin' rel o rfl rv'
    · exact o.elim
  · cases rv; cases ru; exact ⟨_, op_sub, _, _, rfl, rfl, Out.fin' rel o rfl (.int _)⟩
  · cases rv; cases ru
    split at o
    · rename_i h
      refine ⟨_, op_mul, _, _, rfl, rfl, ?_, Out.fin' rel o rfl (.int _)⟩
      unfold CMul
      unfold M64 at h
      rcases h with h | h
      · exact .inl ⟨by omega, by omega⟩
      · exact .inr ⟨by omega, by omega⟩
    · exact o.elim
  · split at o
    · rename_i h
      obtain ⟨p, xs, rfl, h1, r1⟩ := rv.lstV
      cases ru
      obtain ⟨h2, h3, h4⟩ := h
      exact ⟨_, op_repR, _, _, _, rfl, rfl, h1, by omega, by omega, by rw [r1.length]; exact h4, fun a n => Out.newL rel o (r1.rep _) (by rw [len_flat, r1.length]; exact h4) n⟩
    · exact o.elim
  · split at o
    · rename_i h
      obtain ⟨p, xs, rfl, h1, r1⟩ := rv.tupV
      cases ru
      obtain ⟨h0, h2, h3, h4⟩ := h
      rw [g.1] at h1
      refine ⟨_, op_repT, _, _, _, rfl, rfl, h1, fun z => ?_, h2, h3, by rw [r1.length]; exact h4, fun a n => Out.newT rel o (r1.rep _) ?_ n⟩
      · subst z
        cases r1
        cases h0
      · rw [len_flat, r1.length, sizeLine_eq]
        exact Nat.le_trans (Nat.mul_le_mul h4 (Int.toNat_le.mpr h3)) (by decide)
    · exact o.elim
  · cases rv; cases ru
    split at o
    · rename_i h; exact ⟨_, op_fdiv, _, _, rfl, rfl, h, Out.fin' rel o rfl (.int _)⟩
    · exact o.elim
  · cases rv; cases ru
    split at o
    · rename_i h; exact ⟨_, op_mod, _, _, rfl, rfl, h, Out.fin' rel o rfl (.int _)⟩
    · exact o.elim
  · cases rv; cases ru
    split at o
    · rename_i h; exact ⟨_, op_pow, _, _, rfl, rfl, h, Out.fin' rel o rfl (.int _)⟩
    · exact o.elim
  · cases rv; cases ru; exact ⟨_, op_and, _, _, rfl, rfl, Out.fin' rel o rfl (.int _)⟩
  · cases rv; cases ru; exact ⟨_, op_or, _, _, rfl, rfl, Out.fin' rel o rfl (.int _)⟩
  · cases rv; cases ru; exact ⟨_, op_xor, _, _, rfl, rfl, Out.fin' rel o rfl (.int _)⟩
  · exact o.elim
theorem s_bin {op : Operator} (ha : PE X a (tR X fr fa)) (hb : PE X b (tR X fr' fb)) :
    PE X (.BinOp a op b pos) (tR X true fun env => (fa env).bind fun p => (fb p.2).bind fun q => opt (binD op p.1 q.1) q.2) :=
  peImp (pe_op op_any (peWeak ha) (peWeak hb)) fun σ H Q ⟨F, env, g, rel, o⟩ => ⟨F, env, g, rel, o.seq fun p v H1 _ ps rv o1 => ⟨F, p.2, g, ps.rel, o1.seq fun q u H2 _ ps2 ru o2 => bin_fin g ps2.rel (ps2.rep rv) ru o2⟩⟩
theorem s_neg (ha : PE X a (tR X fr fa)) : PE X (.UnaryOp .USub a pos) (tR X true fun env => (fa env).bind fun p => match p.1 with | .int i => .ok (.int (-i), p.2) | _ => .bad) :=
  peImp (pe_un un_neg (peWeak ha)) fun σ H Q ⟨F, env, g, rel, o⟩ => ⟨F, env, g, rel, o.seq fun ⟨d, env1⟩ v H1 _ ps rv o1 => by
    cases d with
    | int i => cases rv; exact ⟨i, rfl, Out.fin' ps.rel o1 rfl (.int _)⟩
    | _ => exact (show False from o1).elim⟩

theorem deq_spec {d1 d2 : D} {k : Bool} (h : deq d1 d2 = some k) : (∃ x y, d1.py = some x ∧ d2.py = some y ∧ SeqAt.shaped x = true ∧ SeqAt.shaped y = true ∧ PyData.eqv x y = k) ∨
    (∃ i j, d1 = .int i ∧ d2 = .int j ∧ decide (i = j) = k) ∨ (∃ i j, d1 = .str i ∧ d2 = .str j ∧ decide (i = j) = k) ∨ (∃ i j, d1 = .bl i ∧ d2 = .bl j ∧ (i == j) = k) ∨ (d1 = .non ∧ d2 = .non ∧ k = true) ∨ (∃ xs ys, d1 = .lst xs ∧ d2 = .lst ys ∧ xs.length ≠ ys.length ∧ k = false) ∨ (∃ x xs, d1 = .tup (x :: xs) ∧ d2 = .tup [] ∧ k = false) ∨ (∃ ka kb, d1 = .dic ka ∧ d2 = .dic kb ∧ deqK ka kb = some k) := by
  unfold deq at h
  split at h
  · exact .inr (.inl ⟨_, _, rfl, rfl, Option.some.inj h⟩)
  · exact .inr (.inr (.inl ⟨_, _, rfl, rfl, Option.some.inj h⟩))
  · exact .inr (.inr (.inr (.inl ⟨_, _, rfl, rfl, Option.some.inj h⟩)))
  · exact .inr (.inr (.inr (.inr (.inl ⟨rfl, rfl, (Option.some.inj h).symm⟩))))
  · exact .inl ⟨.list [], .list [], rfl, rfl, by decide +kernel, by decide +kernel, by rw [← Option.some.inj h]; decide +kernel⟩
  · exact .inr (.inr (.inr (.inr (.inr (.inl ⟨_, _, rfl, rfl, by simp, (Option.some.inj h).symm⟩)))))
  · exact .inl ⟨.tuple [], .tuple [], rfl, rfl, by decide +kernel, by decide +kernel, by rw [← Option.some.inj h]; decide +kernel⟩
  · exact .inr (.inr (.inr (.inr (.inr (.inr (.inl ⟨_, _, rfl, rfl, (Option.some.inj h).symm⟩))))))
  · split at h
    · rename_i x y e1 e2
      split at h
      · rename_i hs
        simp only [Bool.and_eq_true] at hs
        exact .inl ⟨x, y, e1, e2, hs.1, hs.2, Option.some.inj h⟩
      · cases h
    · split at h
      · split at h
        · cases h
        · rename_i hl
          exact .inr (.inr (.inr (.inr (.inr (.inl ⟨_, _, rfl, rfl, hl, (Option.some.inj h).symm⟩)))))
      · exact .inr (.inr (.inr (.inr (.inr (.inr (.inr ⟨_, _, rfl, rfl, h⟩))))))
      · cases h
/-- two lists of unlike sizes -/
theorem op_eqL (hu : X.A.units < cLine) : OpR X (compareOp .Eq) fun x y H Q => ∃ a b xs ys, x = .ref a ∧ y = .ref b ∧ SqL X.K H a xs ∧ SqL X.K H b ys ∧ xs.length ≠ ys.length ∧ Q (.bl false) H := by
  intro pins s σ H x y v u Q I rx ry h
  obtain ⟨a, b, xs, ys, rfl, rfl, ha, hb, hl, q⟩ := h
  cases (show v = Value.ref a from rx)
  cases (show u = Value.ref b from ry)
  obtain ⟨us, r1, p1, _⟩ := I.list ha
  obtain ⟨ws, r2, p2, _⟩ := I.list hb
  have hsz : (us.toArray.size != ws.toArray.size) = true := by
    rw [List.size_toArray, List.size_toArray, ← r1.length, ← r2.length]
    simpa using hl
  exact SeqAt.RcAt.lists_lengths p1.isList p2.isList hsz hu _ _ _ _ ⟨.bl false, H, I, rfl, q⟩
theorem op_neL (hu : X.A.units < cLine) : OpR X (compareOp .NotEq) fun x y H Q => ∃ a b xs ys, x = .ref a ∧ y = .ref b ∧ SqL X.K H a xs ∧ SqL X.K H b ys ∧ xs.length ≠ ys.length ∧ Q (.bl true) H := by
  intro pins s σ H x y v u Q I rx ry h
  obtain ⟨a, b, xs, ys, rfl, rfl, ha, hb, hl, q⟩ := h
  cases (show v = Value.ref a from rx)
  cases (show u = Value.ref b from ry)
  obtain ⟨us, r1, p1, _⟩ := I.list ha
  obtain ⟨ws, r2, p2, _⟩ := I.list hb
  have hsz : (us.toArray.size != ws.toArray.size) = true := by
    rw [List.size_toArray, List.size_toArray, ← r1.length, ← r2.length]
    simpa using hl
  exact SeqAt.RcNeAt.lists_lengths p1.isList p2.isList hsz hu _ _ _ _ ⟨.bl true, H, I, rfl, q⟩
/-- a tuple and an empty one -/
theorem op_eqT0 (hu : X.A.units < cLine) : OpR X (compareOp .Eq) fun x y H Q => ∃ a b xs, x = .ref a ∧ y = .ref b ∧ SqT X.K H a xs ∧ SqT X.K H b [] ∧ xs ≠ [] ∧ Q (.bl false) H := by
  intro pins s σ H x y v u Q I rx ry h
  obtain ⟨a, b, xs, rfl, rfl, ha, hb, hl, q⟩ := h
  cases (show v = Value.ref a from rx)
  cases (show u = Value.ref b from ry)
  obtain ⟨us, r1, p1, _⟩ := I.tuple ha
  obtain ⟨ws, r2, p2, _⟩ := I.tuple hb
  cases r2
  refine SeqAt.RcAt.tuples (e := fun _ => true) p1 p2 hu (fun j h1 h2 => absurd h2 (by simp)) _ _ _ _ ?_
  have e1 : (us.toArray.size == ([] : List Value).toArray.size) = false := by
    rw [List.size_toArray, ← r1.length]
    cases xs with
    | nil => exact absurd rfl hl
    | cons _ _ => rfl
  rw [e1, Bool.and_false]
  exact ⟨.bl false, H, I, rfl, q⟩
theorem op_neT0 (hu : X.A.units < cLine) : OpR X (compareOp .NotEq) fun x y H Q => ∃ a b xs, x = .ref a ∧ y = .ref b ∧ SqT X.K H a xs ∧ SqT X.K H b [] ∧ xs ≠ [] ∧ Q (.bl true) H := by
  intro pins s σ H x y v u Q I rx ry h
  obtain ⟨a, b, xs, rfl, rfl, ha, hb, hl, q⟩ := h
  cases (show v = Value.ref a from rx)
  cases (show u = Value.ref b from ry)
  obtain ⟨us, r1, p1, _⟩ := I.tuple ha
  obtain ⟨ws, r2, p2, _⟩ := I.tuple hb
  cases r2
  refine SeqAt.RcNeAt.tuples (e := fun _ => true) p1 p2 hu (fun j h1 h2 => absurd h2 (by simp)) _ _ _ _ ?_
  have e1 : (us.toArray.size == ([] : List Value).toArray.size) = false := by
    rw [List.size_toArray, ← r1.length]
    cases xs with
    | nil => exact absurd rfl hl
    | cons _ _ => rfl
  rw [e1, Bool.and_false]
  exact ⟨.bl true, H, I, rfl, q⟩
theorem key_of {F : Fx} {env : En} {σ : SV} {H : Hp} {v : V} {d : D} {k : Ky} (r : RepF F env σ H v d) (h : d.key = some k) : ∃ q, k = .k q ∧ v = kV q := by
  cases r with
  | int i => exact ⟨.inl i, (Option.some.inj h).symm, rfl⟩
  | str i => exact ⟨.inr i, (Option.some.inj h).symm, rfl⟩
  | _ => cases h
theorem look_of {K : PySem.W.Frag} {cl : Nat → Addr} {A : Av} {H : Hp} {q : Key} : ∀ {v : List (Key × V)} {d : List (Ky × D)}, RepKv K cl A H v d →
    (∀ x, lookD d (.k q) = some x → ∃ y, valV v q = some y ∧ Rep K cl A H y x) ∧ (lookD d (.k q) = none → valV v q = none)
  | _, _, .nil => ⟨fun x h => (nomatch h), fun _ => rfl⟩
  | _, _, .cons (k := k) (v := y) (vs := vs) (d := x) (ds := ds) r t => by
    have ih := look_of (q := q) t
    unfold lookD
    by_cases e : k = q
    · subst e
      rw [if_pos rfl]
      refine ⟨fun z hz => ⟨y, ?_, by cases hz; exact r⟩, fun hz => nomatch hz⟩
      unfold valV
      rw [List.find?_cons_of_pos (by simp)]
      rfl
    · rw [if_neg (fun z => e (by injection z))]
      have : valV ((k, y) :: vs) q = valV vs q := by
        unfold valV
        rw [List.find?_cons_of_neg (by simpa using e)]
      rw [this]
      exact ih
theorem Rep.dicV {K : PySem.W.Frag} {cl : Nat → Addr} {A : Av} {H : Hp} {v : V} {ds : List (Ky × D)} (r : Rep K cl A H v (.dic ds)) : ∃ a xs, v = .ref a ∧ Rd H a (.dK xs) ∧ RepKv K cl A H xs ds := by
  cases r with
  | dic r n q => exact ⟨_, _, rfl, r, q⟩
inductive HitsV (K : PySem.W.Frag) (H : Hp) (ls : List (Key × V)) : List (Key × V) → Bool → Prop
  | nil : HitsV K H ls [] true
  | miss {k : Key} {v : V} {r : List (Key × V)} : valV ls k = none → HitsV K H ls ((k, v) :: r) false
  | hit {k : Key} {v u : V} {r : List (Key × V)} {d e : PyData} {b : Bool} : valV ls k = some u → Dp K H v d → Dp K H u e → SeqAt.shaped d = true → SeqAt.shaped e = true → HitsV K H ls r b → HitsV K H ls ((k, v) :: r) (PyData.eqv d e && b)
theorem hits_K {pins : List (Addr × Obj)} {σ : L2.St} {H : Hp} {s : Shared} (I : Inv X pins σ H s) (hu : X.A.units + 65 < cLine) {ls : List (Key × V)} {vb : List (Key × Value)} (rb : KV ls vb) : ∀ {ks : List (Key × V)} {va : List (Key × Value)} {b : Bool}, KV ks va → HitsV X.K H ls ks b → PySem.W.KeqHits X.A.in1 s vb va b := by
  intro ks va b ra h
  unfold KV at ra
  induction ra generalizing b with
  | nil => cases h; exact .nil
  | @cons p q ps qs hpq t ih =>
    obtain ⟨h1, h2⟩ := hpq
    obtain ⟨k', v'⟩ := q
    have h1 : p.1 = k' := h1
    cases h with
    | miss hn =>
      have rr : RelO none (valueAt vb k') := by rw [← h1, ← hn]; exact rb.val _
      refine .miss ?_
      cases e : valueAt vb k' with
      | none => rfl
      | some z => rw [e] at rr; exact rr.elim
    | hit hy d1 d2 s1 s2 hr =>
      have rr := rb.val k'
      cases h1
      rw [hy] at rr
      obtain ⟨y, ey, ry⟩ := RelO.some_of rr
      obtain ⟨as, r1⟩ := Dp.reads I _ _ _ d1 h2
      obtain ⟨bs, r2⟩ := Dp.reads I _ _ _ d2 ry
      exact .hit ey (SeqAt.eqAt_reads _ _ _ _ _ _ _ _ r1 r2 (SeqAt.canLay_of_shaped s1) (SeqAt.canLay_of_shaped s2) (SeqAt.room_of_shaped s1 (by show X.A.units + 1 + 64 < cLine; omega))) (ih hr)
def rEqK (K : PySem.W.Frag) (ne : Bool) : R2 := fun x y H Q => ∃ a b ks ls r, x = .ref a ∧ y = .ref b ∧ Rd H a (.dK ks) ∧ Rd H b (.dK ls) ∧ (ks.length = ls.length → HitsV K H ls ks r) ∧ Q (.bl (if ne then !(ks.length == ls.length && r) else (ks.length == ls.length && r))) H
theorem op_eqK (hu : X.A.units + 65 < cLine) : OpR X (compareOp .Eq) (rEqK X.K false) := by
  intro pins s σ H x y v u Q I rx ry h
  obtain ⟨a, b, ks, ls, r, rfl, rfl, ea, eb, hh, q⟩ := h
  cases (show v = Value.ref a from rx)
  cases (show u = Value.ref b from ry)
  obtain ⟨_, ya, va, ra, da⟩ := (show ObjOk X.prog X.w H s.heap a (.dK ks) from ea.ok I.hok)
  obtain ⟨_, yb, vb, rb, db⟩ := (show ObjOk X.prog X.w H s.heap b (.dK ls) from eb.ok I.hok)
  refine PySem.W.keq_eq (knd := mixKind X.prog X.w) (r := r) ya yb da db (by omega) (fun z => hits_K I hu rb ra (hh (by rw [ra.length, rb.length]; exact z))) ⟨.bl _, H, I, rfl, ?_⟩
  rw [← ra.length, ← rb.length]
  exact q
theorem op_neK (hu : X.A.units + 65 < cLine) : OpR X (compareOp .NotEq) (rEqK X.K true) := by
  intro pins s σ H x y v u Q I rx ry h
  obtain ⟨a, b, ks, ls, r, rfl, rfl, ea, eb, hh, q⟩ := h
  cases (show v = Value.ref a from rx)
  cases (show u = Value.ref b from ry)
  obtain ⟨_, ya, va, ra, da⟩ := (show ObjOk X.prog X.w H s.heap a (.dK ks) from ea.ok I.hok)
  obtain ⟨_, yb, vb, rb, db⟩ := (show ObjOk X.prog X.w H s.heap b (.dK ls) from eb.ok I.hok)
  refine PySem.W.keq_ne (knd := mixKind X.prog X.w) (r := r) ya yb da db (by omega) (fun z => hits_K I hu rb ra (hh (by rw [ra.length, rb.length]; exact z))) ⟨.bl _, H, I, rfl, ?_⟩
  rw [← ra.length, ← rb.length]
  exact q
theorem hits_of {K : PySem.W.Frag} {cl : Nat → Addr} {A : Av} {H : Hp} {ls : List (Key × V)} {kb : List (Ky × D)} (rb : RepKv K cl A H ls kb) : ∀ {ks : List (Key × V)} {ka : List (Ky × D)} {b : Bool}, RepKv K cl A H ks ka → hitsD kb ka = some b → HitsV K H ls ks b
  | _, _, _, .nil, h => by cases h; exact .nil
  | _, _, b, .cons (k := k) (v := v) (vs := vs) (d := x) (ds := ds) r t, h => by
    obtain ⟨l1, l2⟩ := look_of (q := k) rb
    unfold hitsD at h
    cases e : lookD kb (.k k) with
    | none =>
      rw [e] at h
      cases h
      exact .miss (l2 e)
    | some y =>
      rw [e] at h
      obtain ⟨u, eu, ru⟩ := l1 y e
      dsimp only at h
      split at h
      · rename_i p q e1 e2
        split at h
        · rename_i hs
          obtain ⟨s1, s2⟩ := Bool.and_eq_true_iff.mp hs
          rw [Option.map_eq_some_iff] at h
          obtain ⟨b', h1, rfl⟩ := h
          exact .hit eu (r.dp e1) (ru.dp e2) s1 s2 (hits_of rb t h1)
        · cases h
      · cases h
theorem eq_fin {F : Fx} {env : En} {σ : SV} {H : Hp} {d1 d2 : D} {v u : V} {k : Bool} {Q : VK} (hu : X.A.units + 65 < cLine) (g : Good X F) (rv : RepF F env σ H v d1) (ru : RepF F env σ H u d2) (h : deq d1 d2 = some k) :
    (Q (.bl k) H → ∃ r, OpR X (compareOp .Eq) r ∧ r v u H Q) ∧ (Q (.bl (!k)) H → ∃ r, OpR X (compareOp .NotEq) r ∧ r v u H Q) := by
  rcases deq_spec h with ⟨x, y, e1, e2, s1, s2, e3⟩ | ⟨i, j, rfl, rfl, e⟩ | ⟨i, j, rfl, rfl, e⟩ | ⟨i, j, rfl, rfl, e⟩ | ⟨rfl, rfl, rfl⟩ | ⟨xs, ys, rfl, rfl, hl, rfl⟩ | ⟨x0, xs0, rfl, rfl, rfl⟩ | ⟨ka, kb, rfl, rfl, hk⟩
  · exact ⟨fun q => ⟨_, op_eqD (by omega), x, y, g.1 ▸ rv.dp e1, g.1 ▸ ru.dp e2, s1, s2, by rw [e3]; exact q⟩, fun q => ⟨_, op_neD (by omega), x, y, g.1 ▸ rv.dp e1, g.1 ▸ ru.dp e2, s1, s2, by rw [e3]; exact q⟩⟩
  · cases rv; cases ru
    have e' : decide (V.int i = V.int j) = k := by rw [dec_int, Bool.beq_eq_decide_eq]; exact e
    exact ⟨fun q => ⟨_, op_eq, rfl, by rw [e']; exact q⟩, fun q => ⟨_, op_ne, rfl, by rw [e']; exact q⟩⟩
  · cases rv; cases ru
    have e' : decide (V.str i = V.str j) = k := by rw [dec_str, Bool.beq_eq_decide_eq]; exact e
    exact ⟨fun q => ⟨_, op_eq, rfl, by rw [e']; exact q⟩, fun q => ⟨_, op_ne, rfl, by rw [e']; exact q⟩⟩
  · cases rv; cases ru
    have e' : decide (V.bl i = V.bl j) = k := by rw [dec_bl]; exact e
    exact ⟨fun q => ⟨_, op_eq, rfl, by rw [e']; exact q⟩, fun q => ⟨_, op_ne, rfl, by rw [e']; exact q⟩⟩
  · cases rv; cases ru
    have sn : SeqAt.shaped PyData.none = true := by simp [SeqAt.shaped, PyData.canLay0, PyData.depth]
    have en : PyData.eqv PyData.none PyData.none = true := by simp [PyData.eqv]
    exact ⟨fun q => ⟨_, op_eqD (by omega), .none, .none, .non, .non, sn, sn, by rw [en]; exact q⟩, fun q => ⟨_, op_neD (by omega), .none, .none, .non, .non, sn, sn, by rw [en]; exact q⟩⟩
  · obtain ⟨a, vs, rfl, h1, r1⟩ := rv.lstV
    obtain ⟨b, us, rfl, h2, r2⟩ := ru.lstV
    have hl' : vs.length ≠ us.length := by rw [r1.length, r2.length]; exact hl
    exact ⟨fun q => ⟨_, op_eqL (by omega), _, _, _, _, rfl, rfl, .inl h1, .inl h2, hl', q⟩, fun q => ⟨_, op_neL (by omega), _, _, _, _, rfl, rfl, .inl h1, .inl h2, hl', q⟩⟩
  · obtain ⟨a, vs, rfl, h1, r1⟩ := rv.tupV
    obtain ⟨b, us, rfl, h2, r2⟩ := ru.tupV
    cases r2
    have hl' : vs ≠ [] := fun z => by rw [z] at r1; cases r1
    exact ⟨fun q => ⟨_, op_eqT0 (by omega), _, _, _, rfl, rfl, g.1 ▸ h1, g.1 ▸ h2, hl', q⟩, fun q => ⟨_, op_neT0 (by omega), _, _, _, rfl, rfl, g.1 ▸ h1, g.1 ▸ h2, hl', q⟩⟩
  · obtain ⟨a, vs, rfl, h1, r1⟩ := rv.dicV
    obtain ⟨b, us, rfl, h2, r2⟩ := ru.dicV
    have l1 := r1.length
    have l2 := r2.length
    unfold deqK at hk
    by_cases hl : ka.length = kb.length
    · rw [if_pos hl] at hk
      have hv := hits_of r2 r1 hk
      have e : (vs.length == us.length && k) = k := by rw [l1, l2, hl]; simp
      exact ⟨fun q => ⟨_, op_eqK hu, a, b, vs, us, k, rfl, rfl, h1, h2, fun _ => g.1 ▸ hv, by rw [e]; exact q⟩, fun q => ⟨_, op_neK hu, a, b, vs, us, k, rfl, rfl, h1, h2, fun _ => g.1 ▸ hv, by rw [e]; exact q⟩⟩
    · rw [if_neg hl] at hk
      cases hk
      have hn : vs.length ≠ us.length := by rw [l1, l2]; exact hl
      have e : (vs.length == us.length && true) = false := by simpa using hn
      exact ⟨fun q => ⟨_, op_eqK hu, a, b, vs, us, true, rfl, rfl, h1, h2, fun z => absurd z hn, by rw [e]; exact q⟩, fun q => ⟨_, op_neK hu, a, b, vs, us, true, rfl, rfl, h1, h2, fun z => absurd z hn, by rw [e]; exact q⟩⟩
theorem flatV_of {F : Fx} {env : En} {σ : SV} {H : Hp} {v : V} {d : D} (r : RepF F env σ H v d) (h : d.flat = true) : flatV v = true := by
  cases r <;> first | rfl | cases h
theorem flatAll_of {F : Fx} {env : En} {σ : SV} {H : Hp} : ∀ {v : List V} {d : List D}, RepAllF F env σ H v d → d.all D.flat = true → v.all flatV = true
  | _, _, .nil, _ => rfl
  | _, _, .cons r q, h => by
    rw [List.all_cons, Bool.and_eq_true] at h ⊢
    exact ⟨flatV_of r h.1, flatAll_of q h.2⟩
theorem eqV_of {F : Fx} {env : En} {σ : SV} {H : Hp} {v u : V} {d c : D} (r : RepF F env σ H v d) (q : RepF F env σ H u c) (h : d.flat = true) (h2 : c.flat = true) : eqV v u = eqF d c := by
  cases r <;> cases q <;> first | rfl | (exact absurd h (fun z => nomatch z)) | (exact absurd h2 (fun z => nomatch z))
theorem inV_of {F : Fx} {env : En} {σ : SV} {H : Hp} {u : V} {c : D} (q : RepF F env σ H u c) (h2 : c.flat = true) : ∀ {v : List V} {d : List D}, RepAllF F env σ H v d → d.all D.flat = true → inV u v = d.any fun y => eqF y c
  | _, _, .nil, _ => rfl
  | _, _, .cons r t, h => by
    rw [List.all_cons, Bool.and_eq_true] at h
    have ih := inV_of q h2 t h.2
    unfold inV at ih ⊢
    rw [List.any_cons, List.any_cons, ih, eqV_of r q h.1 h2]
theorem in_fin {F : Fx} {env : En} {σ : SV} {H : Hp} {d1 d2 : D} {v u : V} {k : Bool} {Q : VK} (hu : X.A.units + 65 < cLine) (g : Good X F) (rel : Rel F env σ H) (rv : RepF F env σ H v d1) (ru : RepF F env σ H u d2) (h : din d1 d2 = some k) (q : Q (.bl k) H) :
    (∃ r, OpR X (compareOp .In) r ∧ r v u H Q) := by
  unfold din at h
  split at h
  · obtain ⟨p, xs, rfl, h1, r1⟩ := ru.lstV
    unfold inRow at h
    split at h
    · rename_i hf
      simp only [Bool.and_eq_true] at hf
      refine ⟨_, op_in_seq, p, xs, rfl, .inl (.inl h1), flatV_of rv hf.1, flatAll_of r1 hf.2, ?_⟩
      simp only [Bool.false_eq_true, if_false]
      rw [inV_of rv hf.1 r1 hf.2, Option.some.inj h]
      exact q
    · split at h
      · rename_i a as e1 e2
        split at h
        · rename_i hs
          simp only [Bool.and_eq_true] at hs
          refine ⟨_, op_inD hu, a, as, g.1 ▸ rv.dp e1, ?_, hs.1, hs.2, ?_⟩
          · exact g.1 ▸ (.lst (.inl h1) (r1.dp e2))
          · rw [Option.some.inj h]; exact q
        · cases h
      · cases h
  · split at h
    · rename_i hf
      obtain ⟨p, xs, rfl, h1, r1⟩ := ru.tupV
      simp only [Bool.and_eq_true] at hf
      refine ⟨_, op_in_seq, p, xs, rfl, .inr (g.1 ▸ h1), flatV_of rv hf.1, flatAll_of r1 hf.2, ?_⟩
      simp only [Bool.false_eq_true, if_false]
      rw [inV_of rv hf.1 r1 hf.2, Option.some.inj h]
      exact q
    · cases h
  · split at h
    · rename_i k' ek
      obtain ⟨q', rfl, rfl⟩ := key_of rv ek
      obtain ⟨a, xs, rfl, h1, r1⟩ := ru.dicV
      obtain ⟨l1, l2⟩ := look_of (q := q') r1
      refine ⟨_, op_inDict (by omega), a, valV xs q', rfl, .inl ⟨xs, q', h1, rfl, rfl⟩, ?_⟩
      cases e : lookD _ (Ky.k q') with
      | none => rw [e] at h; rw [l2 e]; cases h; exact q
      | some x =>
        obtain ⟨y, hy, _⟩ := l1 x e
        rw [e] at h; rw [hy]; cases h; exact q
    · cases h
  · split at h
    · cases rv; cases ru
      exact ⟨_, op_in_sign, _, _, rfl, rfl, by rw [Option.some.inj h]; exact q⟩
    · cases h
  · cases h
theorem notin_fin {F : Fx} {env : En} {σ : SV} {H : Hp} {d1 d2 : D} {v u : V} {k : Bool} {Q : VK} (hu : X.A.units + 65 < cLine) (g : Good X F) (rel : Rel F env σ H) (rv : RepF F env σ H v d1) (ru : RepF F env σ H u d2) (h : din d1 d2 = some k) (q : Q (.bl (!k)) H) :
    (∃ r, OpR X (compareOp .NotIn) r ∧ r v u H Q) := by
  unfold din at h
  split at h
  · obtain ⟨p, xs, rfl, h1, r1⟩ := ru.lstV
    unfold inRow at h
    split at h
    · rename_i hf
      simp only [Bool.and_eq_true] at hf
      refine ⟨_, op_notIn_seq, p, xs, rfl, .inl (.inl h1), flatV_of rv hf.1, flatAll_of r1 hf.2, ?_⟩
      simp only [if_true]
      rw [inV_of rv hf.1 r1 hf.2, Option.some.inj h]
      exact q
    · split at h
      · rename_i a as e1 e2
        split at h
        · rename_i hs
          simp only [Bool.and_eq_true] at hs
          refine ⟨_, op_notInD hu, a, as, g.1 ▸ rv.dp e1, ?_, hs.1, hs.2, ?_⟩
          · exact g.1 ▸ (.lst (.inl h1) (r1.dp e2))
          · rw [Option.some.inj h]; exact q
        · cases h
      · cases h
  · split at h
    · rename_i hf
      obtain ⟨p, xs, rfl, h1, r1⟩ := ru.tupV
      simp only [Bool.and_eq_true] at hf
      refine ⟨_, op_notIn_seq, p, xs, rfl, .inr (g.1 ▸ h1), flatV_of rv hf.1, flatAll_of r1 hf.2, ?_⟩
      simp only [if_true]
      rw [inV_of rv hf.1 r1 hf.2, Option.some.inj h]
      exact q
    · cases h
  · split at h
    · rename_i k' ek
      obtain ⟨q', rfl, rfl⟩ := key_of rv ek
      obtain ⟨a, xs, rfl, h1, r1⟩ := ru.dicV
      obtain ⟨l1, l2⟩ := look_of (q := q') r1
      refine ⟨_, op_notInDict (by omega), a, valV xs q', rfl, .inl ⟨xs, q', h1, rfl, rfl⟩, ?_⟩
      cases e : lookD _ (Ky.k q') with
      | none => rw [e] at h; rw [l2 e]; cases h; exact q
      | some x =>
        obtain ⟨y, hy, _⟩ := l1 x e
        rw [e] at h; rw [hy]; cases h; exact q
    · cases h
  · split at h
    · cases rv; cases ru
      exact ⟨_, op_notIn_sign, _, _, rfl, rfl, by rw [Option.some.inj h]; exact q⟩
    · cases h
  · cases h
theorem Out.finB {F : Fx} {env : En} {σ : SV} {H : Hp} {k : Bool} {Q : VK} (rel : Rel F env σ H) (o : Out fr F env σ H (optB (some k) env) Q) : Q (.bl k) H := Out.fin' rel o rfl (.bl k)
theorem cmp_fin {F : Fx} {env : En} {σ : SV} {H : Hp} {op : CmpOp} {d1 d2 : D} {v u : V} {k : Bool} {Q : VK} (hu : X.A.units + 65 < cLine) (g : Good X F) (rel : Rel F env σ H) (rv : RepF F env σ H v d1) (ru : RepF F env σ H u d2) (h : cmpD op d1 d2 = some k) (q : Q (.bl k) H) :
    ∃ r, OpR X (compareOp op) r ∧ r v u H Q := by
  unfold cmpD at h
  split at h
  · exact (eq_fin hu g rv ru h).1 q
  · rw [Option.map_eq_some_iff] at h
    obtain ⟨k', h, rfl⟩ := h
    exact (eq_fin hu g rv ru h).2 q
  · split at h
    · cases rv; cases ru; exact ⟨_, op_lt, _, _, rfl, rfl, by dsimp only; rw [Option.some.inj h]; exact q⟩
    · cases h
  · split at h
    · cases rv; cases ru; exact ⟨_, op_le, _, _, rfl, rfl, by dsimp only; rw [Option.some.inj h]; exact q⟩
    · cases h
  · split at h
    · cases rv; cases ru; exact ⟨_, op_gt, _, _, rfl, rfl, by dsimp only; rw [Option.some.inj h]; exact q⟩
    · cases h
  · split at h
    · cases rv; cases ru; exact ⟨_, op_ge, _, _, rfl, rfl, by dsimp only; rw [Option.some.inj h]; exact q⟩
    · cases h
  · split at h
    · cases ru
      refine ⟨_, op_isN, rfl, ?_⟩
      split at h
      · cases rv; cases h; exact q
      · rename_i hn
        have e : decide (v = .non) = false := decide_eq_false fun z => by
          subst z; cases rv; exact hn rfl
        rw [e]; cases h; exact q
    · cases h
  · split at h
    · cases ru
      refine ⟨_, op_notN, rfl, ?_⟩
      split at h
      · cases rv; cases h; exact q
      · rename_i hn
        have e : decide (v = .non) = false := decide_eq_false fun z => by
          subst z; cases rv; exact hn rfl
        rw [e]; cases h; exact q
    · cases h
  · exact in_fin hu g rel rv ru h q
  · rw [Option.map_eq_some_iff] at h
    obtain ⟨k', h, rfl⟩ := h
    exact notin_fin hu g rel rv ru h q
theorem s_cmp {op : CmpOp} (hu : X.A.units + 65 < cLine) (ha : PE X a (tR X fr fa)) (hb : PE X b (tR X fr' fb)) (hm : behindInMarks op b = false) :
    PE X (.Compare a [op] [b] pos) (tR X true fun env => (fa env).bind fun p => (fb p.2).bind fun q => optB (cmpD op p.1 q.1) q.2) :=
  peImp (pe_cmpR op_any (peWeak ha) (peWeak hb) hm) fun σ H Q ⟨F, env, g, rel, o⟩ => ⟨F, env, g, rel, o.seq fun p v H1 _ ps rv o1 => ⟨F, p.2, g, ps.rel, o1.seq fun q u H2 _ ps2 ru o2 => by
    cases e : cmpD op p.1 q.1 with
    | none => rw [e] at o2; exact o2.elim
    | some k => rw [e] at o2; exact cmp_fin hu g ps2.rel (ps2.rep rv) ru e (Out.finB ps2.rel o2)⟩⟩
theorem OutT.fin {F : Fx} {env : En} {σ : SV} {H : Hp} {k : Bool} {Q : Bool → Hp → Prop} (rel : Rel F env σ H) (h : OutT F env σ H (.ok (k, env)) Q) : Q k H := h H (Pst.refl rel)
theorem t_cmp {op : CmpOp} (hu : X.A.units + 65 < cLine) (ha : PE X a (tR X fr fa)) (hb : PE X b (tR X fr' fb)) (hm : behindInMarks op b = false) :
    PT X (.Compare a [op] [b] pos) (tRT X fun env => (fa env).bind fun p => (fb p.2).bind fun q => match cmpD op p.1 q.1 with | some k => .ok (k, q.2) | none => .bad) :=
  ptImp (pt_cmpR op_any (peWeak ha) (peWeak hb) hm) fun σ H Q ⟨F, env, g, rel, o⟩ => ⟨F, env, g, rel, o.seq fun p v H1 _ ps rv o1 => ⟨F, p.2, g, ps.rel, o1.seq fun q u H2 _ ps2 ru o2 => by
    cases e : cmpD op p.1 q.1 with
    | none => simp only [e] at o2; exact o2.elim
    | some k => simp only [e] at o2; exact cmp_fin hu g ps2.rel (ps2.rep rv) ru e ⟨k, rfl, OutT.fin ps2.rel o2⟩⟩⟩
end
end Dm
set_option Elab.async false
set_option linter.all false
set_option maxRecDepth 100000
set_option maxHeartbeats 1000000
namespace Dm
open PySem PySem.Spec PyProof.Rows L2
section
variable {X : Cx} {e a b c : Expr} {es rest : List Expr} {fr fr' fr2 : Bool} {pos : Pos} {fa fb fc : En → Res (D × En)} {fs : En → Res (List D × En)} {ft : En → Res (Bool × En)}

theorem tru_of {F : Fx} {env : En} {σ : SV} {H : Hp} {v : V} {d : D} {k : Bool} (r : RepF F env σ H v d) (h : tru d = some k) : TruV F.K v H k := by
  cases r with
  | non => exact (Option.some.inj h).symm
  | bl b => exact (Option.some.inj h).symm
  | int i => exact (Option.some.inj h).symm
  | str x =>
    have h : (if x.length ≤ sizeLine then some (x.length != 0) else none) = some k := h
    split at h
    · rename_i hl
      refine ⟨hl, ?_⟩
      rw [← Option.some.inj h]
      cases hx : x.length with
      | zero => rfl
      | succ n =>
        have h1 : (n + 1 != 0) = true := by simp
        have h2 : (((n + 1 : Nat) : Int) != 0) = true := by simp; omega
        rw [h1, h2]
    · cases h
  | lst h1 n q =>
    refine .inl ⟨_, .inl h1, ?_⟩
    rw [← Option.some.inj h]
    cases q <;> rfl
  | tup h1 n q =>
    refine .inr (.inl ⟨_, .inl h1, ?_⟩)
    rw [← Option.some.inj h]
    cases q <;> rfl
  | tupK h1 q =>
    refine .inr (.inl ⟨_, .inr h1, ?_⟩)
    rw [← Option.some.inj h]
    cases q <;> rfl
  | dic _ _ _ => cases h
  | ins _ _ _ => cases h
  | scr _ => cases h
  | odd _ _ => cases h
theorem truR_bind {β : Type} (r : Res (D × En)) (f : Bool × En → Res β) : (truR r).bind f = r.bind fun p => match tru p.1 with | some k => f (k, p.2) | none => .bad := by
  cases r with
  | ok p =>
    show Res.bind (match tru p.1 with | some k => Res.ok (k, p.2) | none => Res.bad) f = _
    show _ = (match tru p.1 with | some k => f (k, p.2) | none => Res.bad)
    cases tru p.1 <;> rfl
  | exc c d => rfl
  | bad => rfl
theorem s_not (ha : PE X a (tR X fr fa)) : PE X (.UnaryOp .Not a pos) (tR X true fun env => (truR (fa env)).bind fun p => .ok (.bl (!p.1), p.2)) :=
  peImp (pe_notT (peWeak ha)) fun σ H Q ⟨F, env, g, rel, o⟩ => ⟨F, env, g, rel, by
    dsimp only at o
    rw [truR_bind] at o
    refine o.seq fun p v H1 _ ps rv o1 => ?_
    cases e : tru p.1 with
    | none => simp only [e] at o1; exact o1.elim
    | some k => simp only [e] at o1; exact ⟨k, g.1 ▸ tru_of rv e, Out.fin' ps.rel o1 rfl (.bl _)⟩⟩
theorem s_and (ha : PE X a (tR X fr fa)) (hb : PE X (.BoolOp .And (b :: rest) pos) (tR X fr' fb)) :
    PE X (.BoolOp .And (a :: b :: rest) pos) (tR X false fun env => (fa env).bind fun p => match tru p.1 with | some true => fb p.2 | some false => .ok p | none => .bad) :=
  peImp (pe_andT (peWeak ha) (peWeak hb)) fun σ H Q ⟨F, env, g, rel, o⟩ => ⟨F, env, g, rel, o.seq fun p v H1 _ ps rv o1 => by
    cases e : tru p.1 with
    | none => simp only [e] at o1; exact o1.elim
    | some k =>
      refine ⟨k, g.1 ▸ tru_of rv e, ?_⟩
      cases k with
      | true => simp only [e] at o1; exact ⟨F, p.2, g, ps.rel, o1⟩
      | false => simp only [e] at o1; exact Out.fin ps.rel o1 rv⟩
theorem s_or (ha : PE X a (tR X fr fa)) (hb : PE X (.BoolOp .Or (b :: rest) pos) (tR X fr' fb)) :
    PE X (.BoolOp .Or (a :: b :: rest) pos) (tR X false fun env => (fa env).bind fun p => match tru p.1 with | some true => .ok p | some false => fb p.2 | none => .bad) :=
  peImp (pe_orT (peWeak ha) (peWeak hb)) fun σ H Q ⟨F, env, g, rel, o⟩ => ⟨F, env, g, rel, o.seq fun p v H1 _ ps rv o1 => by
    cases e : tru p.1 with
    | none => simp only [e] at o1; exact o1.elim
    | some k =>
      refine ⟨k, g.1 ▸ tru_of rv e, ?_⟩
      cases k with
      | false => simp only [e] at o1; exact ⟨F, p.2, g, ps.rel, o1⟩
      | true => simp only [e] at o1; exact Out.fin ps.rel o1 rv⟩
theorem s_one {op : BoolOp} (h : PE X a (tR X fr fa)) : PE X (.BoolOp op [a] pos) (tR X fr fa) := pe_one h
/-- a test by the value's truth -/
theorem t_val (ha : PE X a (tR X fr fa)) (he : ∀ whole, isTrue a X.env whole = (do let v ← whole; standAt a.pos; holding [v] (truthy v))) : PT X a (tRT X fun env => truR (fa env)) :=
  ptImp (pt_truth (peWeak ha) he) fun σ H Q ⟨F, env, g, rel, o⟩ => ⟨F, env, g, rel, o.seq fun p v H1 _ ps rv o1 => by
    cases e : tru p.1 with
    | none => simp only [e] at o1; exact o1.elim
    | some k => simp only [e] at o1; exact ⟨k, g.1 ▸ tru_of rv e, OutT.fin ps.rel o1⟩⟩
theorem t_not {ft : En → Res (Bool × En)} (ha : PT X a (tRT X ft)) : PT X (.UnaryOp .Not a pos) (tRT X fun env => (ft env).bind fun p => .ok (!p.1, p.2)) :=
  ptImp (pt_not ha) fun σ H Q ⟨F, env, g, rel, o⟩ => ⟨F, env, g, rel, o.seqT fun p H1 _ ps o1 => OutT.fin ps.rel o1⟩
theorem ptPw {op : BoolOp} {vs : List Expr} {t : TT} (h : PT X (.BoolOp op vs pos) t) : PW X (.BoolOp op vs pos) t := ⟨fun whole pins s σ H Q I q => by
  have := h.run pins s σ H Q I q
  simp only [PySem.isTrue] at this ⊢
  exact this⟩
theorem t_one {op : BoolOp} {ft : En → Res (Bool × En)} (h : PT X a (tRT X ft)) : PT X (.BoolOp op [a] pos) (tRT X ft) := by
  cases op with
  | And => exact (pw_and1 h).pt
  | Or => exact (pw_or1 h).pt
theorem t_and {f1 f2 : En → Res (Bool × En)} (ha : PT X a (tRT X f1)) (hb : PT X (.BoolOp .And (b :: rest) pos) (tRT X f2)) :
    PT X (.BoolOp .And (a :: b :: rest) pos) (tRT X fun env => (f1 env).bind fun p => if p.1 then f2 p.2 else .ok (false, p.2)) :=
  ptImp (pw_and ha (ptPw hb)).pt fun σ H Q ⟨F, env, g, rel, o⟩ => ⟨F, env, g, rel, o.seqT fun ⟨k, env1⟩ H1 _ ps o1 => by
    cases k with
    | true => exact ⟨F, env1, g, ps.rel, o1⟩
    | false => exact OutT.fin ps.rel o1⟩
theorem t_or {f1 f2 : En → Res (Bool × En)} (ha : PT X a (tRT X f1)) (hb : PT X (.BoolOp .Or (b :: rest) pos) (tRT X f2)) :
    PT X (.BoolOp .Or (a :: b :: rest) pos) (tRT X fun env => (f1 env).bind fun p => if p.1 then .ok (true, p.2) else f2 p.2) :=
  ptImp (pw_or ha (ptPw hb)).pt fun σ H Q ⟨F, env, g, rel, o⟩ => ⟨F, env, g, rel, o.seqT fun ⟨k, env1⟩ H1 _ ps o1 => by
    cases k with
    | false => exact ⟨F, env1, g, ps.rel, o1⟩
    | true => exact OutT.fin ps.rel o1⟩
theorem s_ife {ft : En → Res (Bool × En)} (hc : PT X c (tRT X ft)) (ha : PE X a (tR X fr fa)) (hb : PE X b (tR X fr' fb)) :
    PE X (.IfExp c a b pos) (tR X false fun env => (ft env).bind fun p => if p.1 then fa p.2 else fb p.2) :=
  peImp (pe_ifExp hc (peWeak ha) (peWeak hb)) fun σ H Q ⟨F, env, g, rel, o⟩ => ⟨F, env, g, rel, o.seqT fun ⟨k, env1⟩ H1 _ ps o1 => by
    cases k with
    | true => exact ⟨F, env1, g, ps.rel, o1⟩
    | false => exact ⟨F, env1, g, ps.rel, o1⟩⟩
theorem s_chn {op op' : CmpOp} (hu : X.A.units + 65 < cLine) (ha : PE X a (tR X fr fa)) (hb : PE X b (tR X fr' fb)) (hc : PE X c (tR X fr2 fc)) (hm : lastMarks [op, op'] [b, c] = false) :
    PE X (.Compare a [op, op'] [b, c] pos) (tR X true fun env => (fa env).bind fun p => (fb p.2).bind fun q => match cmpD op p.1 q.1 with
      | some true => (fc q.2).bind fun r => optB (cmpD op' q.1 r.1) r.2
      | some false => .ok (.bl false, q.2)
      | none => .bad) :=
  peImp (pe_chain op_any op_any (peWeak ha) (peWeak hb) (peWeak hc) hm) fun σ H Q ⟨F, env, g, rel, o⟩ => ⟨F, env, g, rel, o.seq fun p v H1 _ ps rv o1 => ⟨F, p.2, g, ps.rel, o1.seq fun q u H2 _ ps2 ru o2 => by
    cases e : cmpD op p.1 q.1 with
    | none => simp only [e] at o2; exact o2.elim
    | some k =>
      refine cmp_fin hu g ps2.rel (ps2.rep rv) ru e ⟨k, rfl, ?_⟩
      cases k with
      | false => simp only [e] at o2; exact Out.fin' ps2.rel o2 rfl (.bl _)
      | true =>
        simp only [e] at o2
        exact ⟨F, q.2, g, ps2.rel, o2.seq fun r w H3 _ ps3 rw3 o3 => by
          cases e3 : cmpD op' q.1 r.1 with
          | none => rw [e3] at o3; exact o3.elim
          | some k3 => rw [e3] at o3; exact cmp_fin hu g ps3.rel (ps3.rep ru) rw3 e3 (Out.finB ps3.rel o3)⟩⟩⟩
theorem t_chn {op op' : CmpOp} (hu : X.A.units + 65 < cLine) (ha : PE X a (tR X fr fa)) (hb : PE X b (tR X fr' fb)) (hc : PE X c (tR X fr2 fc)) (hm : lastMarks [op, op'] [b, c] = false) :
    PT X (.Compare a [op, op'] [b, c] pos) (tRT X fun env => (fa env).bind fun p => (fb p.2).bind fun q => match cmpD op p.1 q.1 with
      | some true => (fc q.2).bind fun r => match cmpD op' q.1 r.1 with | some k => .ok (k, r.2) | none => .bad
      | some false => .ok (false, q.2)
      | none => .bad) :=
  ptImp (pt_chain op_any op_any (peWeak ha) (peWeak hb) (peWeak hc) hm) fun σ H Q ⟨F, env, g, rel, o⟩ => ⟨F, env, g, rel, o.seq fun p v H1 _ ps rv o1 => ⟨F, p.2, g, ps.rel, o1.seq fun q u H2 _ ps2 ru o2 => by
    cases e : cmpD op p.1 q.1 with
    | none => simp only [e] at o2; exact o2.elim
    | some k =>
      refine cmp_fin hu g ps2.rel (ps2.rep rv) ru e ⟨k, rfl, ?_⟩
      cases k with
      | false => simp only [e] at o2; exact ⟨false, rfl, OutT.fin ps2.rel o2⟩
      | true =>
        simp only [e] at o2
        exact ⟨F, q.2, g, ps2.rel, o2.seq fun r w H3 _ ps3 rw3 o3 => by
          cases e3 : cmpD op' q.1 r.1 with
          | none => simp only [e3] at o3; exact o3.elim
          | some k3 => simp only [e3] at o3; exact cmp_fin hu g ps3.rel (ps3.rep ru) rw3 e3 ⟨k3, rfl, OutT.fin ps3.rel o3⟩⟩⟩⟩

def WRep (F : Fx) (env : En) (σ : SV) (H : Hp) (v : V) (d : D) : Prop := RepF F env σ H v d ∨ ∃ a, v = .ref a ∧ TopR F.K F.cl (Avd F.C env σ) H a d
theorem pkV {F : Fx} {env : En} {σ : SV} {H : Hp} {i : Nat} {d : D} (rel : Rel F env σ H) (h : pk env i = some d) : ∃ v, σ[i]? = some (some v) ∧ WRep F env σ H v d := by
  unfold pk at h
  split at h
  · rename_i e; cases h
    obtain ⟨v, e1, r⟩ := rel.dat i d e
    exact ⟨v, e1, .inl r⟩
  · rename_i e; cases h
    obtain ⟨a, e1, t, _⟩ := rel.own i d e
    exact ⟨_, e1, .inr ⟨a, rfl, t.r⟩⟩
  · rename_i e; cases h
    obtain ⟨a, e1, t, _⟩ := rel.io i d e
    exact ⟨_, e1, .inr ⟨a, rfl, t.r⟩⟩
  · rename_i e; cases h
    obtain ⟨v, e1, r⟩ := rel.bor i d e
    rcases r with r | ⟨a, e2, t, _⟩
    · exact ⟨v, e1, .inl r⟩
    · exact ⟨v, e1, .inr ⟨a, e2, t⟩⟩
  · cases h
theorem WRep.lstV {F : Fx} {env : En} {σ : SV} {H : Hp} {v : V} {ds : List D} (r : WRep F env σ H v (.lst ds)) : ∃ a xs, v = .ref a ∧ Rd H a (.lst xs) ∧ RepAllF F env σ H xs ds := by
  rcases r with r | ⟨a, e, t⟩
  · exact r.lstV
  · cases t with
    | lst h q => exact ⟨a, _, e, h, q⟩
theorem WRep.tupV {F : Fx} {env : En} {σ : SV} {H : Hp} {v : V} {ds : List D} (r : WRep F env σ H v (.tup ds)) : ∃ a xs, v = .ref a ∧ SqT F.K H a xs ∧ RepAllF F env σ H xs ds := by
  rcases r with r | ⟨a, e, t⟩
  · exact r.tupV
  · cases t
theorem WRep.dicV {F : Fx} {env : En} {σ : SV} {H : Hp} {v : V} {ds : List (Ky × D)} (r : WRep F env σ H v (.dic ds)) : ∃ a xs, v = .ref a ∧ Rd H a (.dK xs) ∧ RepKv F.K F.cl (Avd F.C env σ) H xs ds := by
  rcases r with r | ⟨a, e, t⟩
  · exact r.dicV
  · cases t with
    | dic h q => exact ⟨a, _, e, h, q⟩

theorem WRep.scrV {F : Fx} {env : En} {σ : SV} {H : Hp} {v : V} {ds : List Int} (r : WRep F env σ H v (.scr ds)) : ∃ a, v = .ref a ∧ SqL F.K H a (ds.map V.int) := by
  rcases r with r | ⟨a, e, t⟩
  · exact r.scrV
  · cases t
theorem RepAll.ints {K : PySem.W.Frag} {cl : Nat → Addr} {A : Av} {H : Hp} : ∀ (ns : List Int), RepAll K cl A H (ns.map V.int) (ns.map D.int)
  | [] => .nil
  | n :: ns => .cons (.int n) (RepAll.ints ns)
theorem atD_of {F : Fx} {env : En} {σ : SV} {H : Hp} {xs : List V} {ds : List D} {i : Int} {d : D} (r : RepAllF F env σ H xs ds) (h : atD ds i = some d) : ∃ v, atI xs i = some v ∧ RepF F env σ H v d := by
  have hl := r.length
  unfold atD at h
  unfold atI ixN
  by_cases h0 : 0 ≤ i
  · rw [if_pos h0] at h
    obtain ⟨y, e, ry⟩ := r.get h
    have hi : i.toNat < xs.length := (List.getElem?_eq_some_iff.mp e).1
    rw [if_pos h0, if_pos (by omega)]
    exact ⟨y, e, ry⟩
  · rw [if_neg h0] at h
    split at h
    · rename_i h1
      obtain ⟨y, e, ry⟩ := r.get h
      rw [if_neg h0, if_pos (by omega)]
      rw [← hl] at e
      exact ⟨y, e, ry⟩
    · cases h
theorem sub_fin {F : Fx} {env : En} {σ : SV} {H : Hp} {d1 d2 d : D} {v u : V} {Q : VK} (hu : X.A.units + 65 < cLine) (g : Good X F) (rel : Rel F env σ H) (rv : WRep F env σ H v d1) (ru : RepF F env σ H u d2) (h : subD d1 d2 = some d) (o : Out false F env σ H (.ok (d, env)) Q) :
    ∃ r, IxR X r ∧ r v u H Q := by
  unfold subD at h
  split at h
  · obtain ⟨a, xs, rfl, h1, r1⟩ := rv.lstV
    cases ru
    obtain ⟨y, e, ry⟩ := atD_of r1 h
    exact ⟨_, ix_list, _, _, _, _, rfl, rfl, .inl h1, e, Out.fin rel o ry⟩
  · obtain ⟨a, xs, rfl, h1, r1⟩ := rv.tupV
    cases ru
    obtain ⟨y, e, ry⟩ := atD_of r1 h
    exact ⟨_, ix_tup, _, _, _, _, rfl, rfl, g.1 ▸ h1, e, Out.fin rel o ry⟩
  · rename_i ns j
    obtain ⟨a, rfl, h1⟩ := rv.scrV
    cases ru
    obtain ⟨y, e, ry⟩ := atD_of (RepAll.ints ns) h
    exact ⟨_, ix_list, _, _, _, _, rfl, rfl, g.1 ▸ h1, e, Out.fin rel o ry⟩
  · split at h
    · rename_i k ek
      obtain ⟨a, xs, rfl, h1, r1⟩ := rv.dicV
      obtain ⟨q', rfl, rfl⟩ := key_of ru ek
      obtain ⟨y, hy, ry⟩ := (look_of (q := q') r1).1 d h
      exact ⟨_, ix_dict (by omega), a, y, rfl, .inl ⟨xs, q', h1, rfl, hy.symm⟩, Out.fin rel o ry⟩
    · cases h
  · cases h
theorem s_sub (hu : X.A.units + 65 < cLine) (ha : PE X a (tR X fr fa)) (hb : PE X b (tR X fr' fb)) (hs : PlainIx b) :
    PE X (.Subscript a b pos) (tR X false fun env => (fa env).bind fun p => (fb p.2).bind fun q => opt (subD p.1 q.1) q.2) :=
  peImp (pe_ix ix_any (peWeak ha) (peWeak hb) hs) fun σ H Q ⟨F, env, g, rel, o⟩ => ⟨F, env, g, rel, o.seq fun p v H1 _ ps rv o1 => ⟨F, p.2, g, ps.rel, o1.seq fun q u H2 _ ps2 ru o2 => by
    cases e : subD p.1 q.1 with
    | none => simp only [e] at o2; exact o2.elim
    | some d => simp only [e] at o2; exact sub_fin hu g ps2.rel (.inl (ps2.rep rv)) ru e o2⟩⟩
theorem s_subP {i : Nat} {x : Str} {p' : Pos} (hu : X.A.units + 65 < cLine) (hN : X.N[i]? = some x) (hv : Vis X.env.scope x) (hd : (x == ("__debug__" : Str)) = false) (hcd : (x == ("__classdict__" : Str)) = false)
    (hb : PE X b (tR X fr' fb)) (hs : PlainIx b) :
    PE X (.Subscript (.Name x p') b pos) (tR X false fun env => match pk env i with
      | none => .bad
      | some _ => (fb env).bind fun q => match pk q.2 i with
        | some d => opt (subD d q.1) q.2
        | none => .bad) :=
  peImp (pe_ix ix_any (pe_var hN hv hd hcd) (peWeak hb) hs) fun σ H Q ⟨F, env, g, rel, o⟩ => by
    dsimp only at o
    cases e0 : pk env i with
    | none => simp only [e0] at o; exact o.elim
    | some d0 =>
      simp only [e0] at o
      obtain ⟨v, ev, _⟩ := pkV rel e0
      refine ⟨v, ev, F, env, g, rel, o.seq fun q u H2 _ ps2 ru o2 => ?_⟩
      cases e2 : pk q.2 i with
      | none => simp only [e2] at o2; exact o2.elim
      | some d =>
        simp only [e2] at o2
        obtain ⟨v', ev', wr⟩ := pkV ps2.rel e2
        rw [ev] at ev'
        cases ev'
        cases e : subD d q.1 with
        | none => simp only [e] at o2; exact o2.elim
        | some d' => simp only [e] at o2; exact sub_fin hu g ps2.rel wr ru e o2
end
end Dm
set_option Elab.async false
set_option linter.all false
set_option maxRecDepth 100000
set_option maxHeartbeats 1000000
namespace Dm
open PySem PySem.Spec PyProof.Rows L2
section
variable {prog : Program} {w : World} {A : Around} {E : Value → Shared → Prop} {s : Shared}
theorem adjust_rev (n : Nat) : Builtin.Slice.sliceAdjust none none (-1) (n : Int) = ((n : Int) - 1, -1) := by
  unfold Builtin.Slice.sliceAdjust
  simp
theorem places_rev (n : Nat) : Builtin.Slice.slicePlaces ((n : Int) - 1) (-1) (-1) = n := by
  unfold Builtin.Slice.slicePlaces
  have h1 : ¬ ((-1 : Int) > 0) := by omega
  simp only [h1, if_false]
  split
  · simp
  · omega
theorem sliceApplied_rev {sl : Addr} {t : Tok} {n : Nat} {Q : Int × Int × Nat → Shared → Prop} (hs : s.heap.IsSliceOf sl .none .none (.int (-1) t))
    (h : Q ((n : Int) - 1, -1, n) s) : wpAny (model prog w) A (Builtin.Slice.sliceApplied (.ref sl) (pure (n : Int))) Q E s := by
  obtain ⟨os, hos, hcs, hds⟩ := id hs
  unfold Builtin.Slice.sliceApplied Builtin.Slice.sliceFields
  refine wpAny_bind (wpAny_bind (wpAny_field hos hds (x := .none) rfl (wpAny_bind (wpAny_field hos hds (x := .none) rfl (wpAny_bind (wpAny_field hos hds (x := .int (-1) t) rfl (wpAny_pure ?_)))))))
  refine wpAny_bind (slicePart_int ?_)
  show wpAny _ _ (if ((-1 : Int) == 0) = true then _ else _) _ _ s
  rw [if_neg (by decide)]
  refine wpAny_bind (slicePart_none (wpAny_bind (slicePart_none (wpAny_bind (wpAny_pure ?_)))))
  show wpAny _ _ (match Builtin.Slice.sliceAdjust none none (-1) (n : Int) with | (lo, hi) => pure (lo, (-1 : Int), Builtin.Slice.slicePlaces lo hi (-1))) _ _ s
  rw [adjust_rev]
  show wpAny _ _ (pure ((n : Int) - 1, (-1 : Int), Builtin.Slice.slicePlaces ((n : Int) - 1) (-1) (-1))) _ _ s
  rw [places_rev]
  exact wpAny_pure h
theorem fm_congr {α β : Type} {f : α → Option β} {g : α → β} : ∀ {l : List α}, (∀ m ∈ l, f m = some (g m)) → l.filterMap f = l.map g
  | [], _ => rfl
  | x :: r, h => by
    rw [List.filterMap_cons, h x List.mem_cons_self, List.map_cons, fm_congr fun m hm => h m (List.mem_cons_of_mem _ hm)]
theorem pick_rev (xs : Array Value) : ((List.range xs.size).filterMap fun (m : Nat) => xs[(((xs.size : Int) - 1) + (m : Int) * (-1)).toNat]?).toArray = xs.toList.reverse.toArray := by
  congr 1
  have e : ∀ m ∈ List.range xs.size, xs[(((xs.size : Int) - 1) + (m : Int) * (-1)).toNat]? = some (xs.toList.reverse.getD m default) := fun m hm => by
    have hm := List.mem_range.mp hm
    have h1 : (((xs.size : Int) - 1) + (m : Int) * (-1)).toNat = xs.size - 1 - m := by omega
    rw [h1, ← Array.getElem?_toList, List.getD_eq_getElem?_getD, List.getElem?_reverse (by simpa using hm), Array.length_toList]
    rw [List.getElem?_eq_getElem (by rw [Array.length_toList]; omega)]
    rfl
  rw [fm_congr e]
  apply List.ext_getElem?
  intro i
  rw [List.getElem?_map]
  by_cases hi : i < xs.size
  · rw [List.getElem?_range hi]
    show some (xs.toList.reverse.getD i default) = _
    rw [List.getD_eq_getElem?_getD, List.getElem?_eq_getElem (by simpa using hi)]
    rfl
  · rw [List.getElem?_eq_none (by simpa using hi), List.getElem?_eq_none (by simpa using hi)]
    rfl
theorem getItem_tuple_rev {t sl : Addr} {items : Array Value} {u : Tok} {Q : Value → Shared → Prop} (ht : IsTup s.heap t items) (hs : s.heap.IsSliceOf sl .none .none (.int (-1) u))
    (h : Q (.ref s.heap.objs.size) { s with heap := s.heap.push { cls := .type "tuple", data := .seq items.toList.reverse.toArray } })
    (hsz : items.size ≤ sizeLine) : wpAny (model prog w) A (getItem (.ref t) (.ref sl)) Q E s := by
  have htake : sizeOk (.seq items.toList.reverse.toArray) := by
    show items.toList.reverse.toArray.size ≤ sizeLine
    rw [List.size_toArray, List.length_reverse, Array.length_toList]
    exact hsz
  obtain ⟨os, hos, hcs, hds⟩ := id hs
  have hTs : s.TypeIs (.ref sl) "slice" := ⟨os, hos, hcs⟩
  unfold getItem
  try with_reducible refine wpAny_holding ?_
  first | refine wpAny_bind (wpAny_pure ?_) | skip
  refine wpAny_bind (wpAny_sequenceKey ht.typeIs (by decide) ?_)
  refine wpAny_bind (wpAny_callSpecial?_slot (name := Str.ofString "__getitem__") ht.typeIs PyProof.Rows.slot_tuple_getitem
    (wpAny_call_entry PyProof.Rows.slot_tuple_getitem ht.typeIs entry_tuple_getitem ?_ (args_tuple_getitem _ _)))
  show wpAny _ _ (Builtin.Tuple.tupleItemsOf (.ref t) >>= _) _ _ s
  refine wpAny_bind (tupleItemsOf_ ht ?_)
  refine wpAny_bind (wpAny_typeOf hTs ?_)
  rw [if_pos (by decide)]
  refine wpAny_bind (sliceApplied_rev hs ?_)
  have hno : ¬ ((((items.size : Int) - 1) == 0 && (-1 : Int) == 1 && items.size == items.size) = true) := by simp
  show wpAny _ _ (if ((((items.size : Int) - 1) == 0 && (-1 : Int) == 1 && items.size == items.size) = true) then _ else _) _ _ s
  rw [if_neg hno, pick_rev]
  first
    | exact wpAny_bind (m := Builtin.Tuple.tupleExact _) (wpAny_newObj_type (wpAny_pure ⟨_, rfl, wpAny_pure h⟩) htake)
    | exact wpAny_bind (m := Builtin.Tuple.tupleExact _) (wpAny_newObj_type (wpAny_bind (wpAny_pure (wpAny_pure ⟨_, rfl, wpAny_pure h⟩))) htake)
    | exact wpAny_bind (wpAny_bind (m := Builtin.Tuple.tupleExact _) (wpAny_newObj_type (wpAny_pure (wpAny_pure ⟨_, rfl, wpAny_pure h⟩)) htake))
    | exact wpAny_bind (wpAny_bind (m := Builtin.Tuple.tupleExact _) (wpAny_newObj_type (wpAny_pure ⟨_, rfl, wpAny_pure h⟩) htake))
end
section
variable {X : Cx}
/-- e[::-1], of a list or a tuple -/
def tRev (K : PySem.W.Frag) (te : TE) : TE := fun σ H Q => te σ H fun x H1 => ∃ a xs, x = .ref a ∧ ((SqL K H1 a xs ∧ ∀ p, H1 p = none → Q (.ref p) (upd H1 p (.lst xs.reverse))) ∨ (SqT K H1 a xs ∧ ∀ p, H1 p = none → Q (.ref p) (upd H1 p (.tup xs.reverse))))
theorem pe_rev {e : Expr} {te : TE} {k : Nat} {p1 p2 p3 pos : Pos} (he : PE X e te) : PE X (.Subscript e (.Slice none none (some (.UnaryOp .USub (.Constant (.int 1) k p1) p2)) p3) pos) (tRev X.K te) := by
  refine ⟨fun pins s σ H Q I h => ?_⟩
  refine Subscript_ (thn (he.run pins s σ H _ I h) fun v s1 ⟨x, H1, I1, r1, q1⟩ => ?_)
  obtain ⟨a, xs, ex, hx⟩ := q1
  subst ex
  cases r1
  have hst : PO X (some (.UnaryOp .USub (.Constant (.int 1) k p1) p2)) (tPart (tUn (rU fun i => .int (-i)) (tC (.int 1)))) := po_some (pe_un un_neg pe_int)
  refine wpAny_Slice (thn (po_none.run pins s1 σ H1 (fun o H2 => o = none ∧ H2 = H1) I1 ⟨rfl, rfl⟩) fun vl s2 ⟨l, H2, I2, pl, el, e2⟩ => ?_)
  subst el e2
  refine thn (po_none.run pins s2 σ H2 (fun o H3 => o = none ∧ H3 = H2) I2 ⟨rfl, rfl⟩) fun vu s3 ⟨u, H3, I3, pu, eu, e3⟩ => ?_
  subst eu e3
  refine thn (hst.run pins s3 σ H3 (fun o H4 => o = some (-1) ∧ H4 = H3) I3 ⟨1, rfl, -1, rfl, rfl, rfl⟩) fun vs s4 ⟨o, H4, I4, ps, eo, e4⟩ => ?_
  subst eo e4
  have I5 : Inv X pins σ H4 { s4 with heap := s4.heap.push { cls := .type "slice", data := .fields #[vl, vu, vs] } } := I4.kept (t' := s4.toks) fun b ob q => Heap.get?_push_of_some _ q
  show wpAny (model X.prog X.w) X.A (subscriptTail e (.Slice none none (some (.UnaryOp .USub (.Constant (.int 1) k p1) p2)) p3) (.ref a) (.ref s4.heap.objs.size)) (EP X pins σ Q) X.xe { s4 with heap := s4.heap.push { cls := .type "slice", data := .fields #[vl, vu, vs] } }
  rcases hx with ⟨hx, q⟩ | ⟨hx, q⟩
  · obtain ⟨its, r, ht, hz⟩ := I5.list hx
    have hlen := r.length
    refine tail_any (ops := [.ref a, .ref s4.heap.objs.size]) ht.isList.typeIs (PySem.slot_list_getitem.lookup) ?_ (by with_unfolding_all rfl)
    refine wpAny_getItem_list_slice ht.isList (Heap.IsSliceOf.new _ vl vu vs) pl pu ps (by decide) ?_ (by rw [List.size_toArray]; omega)
    rw [PySem.W.krv_pick]
    refine ⟨.ref _, _, I5.laid (t' := s4.toks) (o := .lst xs.reverse) (fun b ob q => Heap.get?_push_of_some _ q) (Nat.le_refl _) ?_, rfl, q _ (I5.hok.fresh (Nat.le_refl _))⟩
    exact ⟨by rw [List.length_reverse]; exact hz, _, 0, r.reverse, Heap.get?_push_size _ rfl⟩
  · obtain ⟨its, r, ht, hz⟩ := I5.tuple hx
    have hlen := r.length
    cases pl
    cases pu
    cases ps with
    | int i t =>
    refine tail_any (ops := [.ref a, .ref s4.heap.objs.size]) ht.typeIs (PyProof.Rows.slot_tuple_getitem.lookup) ?_ (by with_unfolding_all rfl)
    refine getItem_tuple_rev ht (Heap.IsSliceOf.new _ _ _ _) ?_ (by rw [List.size_toArray]; omega)
    refine ⟨.ref _, _, I5.laid (t' := s4.toks) (o := .tup xs.reverse) (fun b ob q => Heap.get?_push_of_some _ q) (Nat.le_refl _) ?_, rfl, q _ (I5.hok.fresh (Nat.le_refl _))⟩
    exact ⟨by rw [List.length_reverse]; exact hz, _, r.reverse, IsTup.new _ _⟩
end
end Dm
set_option Elab.async false
set_option linter.all false
set_option maxRecDepth 100000
set_option maxHeartbeats 1000000
namespace Dm
open PySem PySem.Spec PyProof.Rows L2
section
variable {X : Cx} {pins : List (Addr × Obj)} {σ : L2.St} {H : Hp} {s : Shared}
theorem odd_at (I : Inv X pins σ H s) {q : Addr} {n : Nat} (r : Rd H q (oddO q n)) : (q == sysModules) = false ∧ n ≤ sizeLine ∧ ∃ es ep, s.heap.DictRaw q es ep ∧ es.size = n := (r.ok I.hok).1
theorem len_raw {q : Addr} {es : Array DictEntry} {ep : Nat} {A : Around} {E : Value → Shared → Prop} {Q : Value → Shared → Prop} {P : Program} {w : World} (nq : (q == sysModules) = false) (raw : s.heap.DictRaw q es ep) (fit : (es.size : Int) < 2 ^ 63)
    (fin : Q (.int es.size (s.toks + 1)) { s with toks := s.toks + 1 + 1 }) : wpAny (model P w) A (call (.builtin "len") [.ref q]) Q E s := by
  refine Calls.call_function_entry kind_len plain_len entry_len (args_len1 _) ?_
  unfold Builtin.«len»
  refine wpAny_bind (m := oneArg "len" _) (wpAny_pure (wpAny_bind (m := callSpecial? (.ref q) (Str.ofString "__len__")) (wpAny_callSpecial?_slot (name := Str.ofString "__len__") raw.typeIs F.slot_dict_len ?_)))
  refine call_meetsIn F.slot_dict_len raw.typeIs F.entry_dict_len (F.args_dict_len_1 _) (meets_dict_len_raw q nq) ⟨es, ep, raw, ?_⟩
  show wpAny _ _ _ _ _ { s with toks := s.toks + 1 }
  refine wpAny_bind (wpAny_holding (wpAny_pure (wpAny_bind (wpAny_letGo ?_))))
  show wpAny _ _ (if ((es.size : Nat) : Int) < 0 then _ else _) _ _ _
  rw [if_neg (show ¬ ((es.size : Nat) : Int) < 0 by omega)]
  show wpAny _ _ (if ((es.size : Nat) : Int) ≥ 2 ^ 63 then _ else _) _ _ _
  rw [if_neg (show ¬ ((es.size : Nat) : Int) ≥ 2 ^ 63 by omega)]
  exact wpAny_bind (wpAny_mkInt (wpAny_pure ⟨_, rfl, fin⟩))
theorem call_lenO : CallR X (.builtin "len") (fun xs H Q => ∃ q n, xs = [V.ref q] ∧ Rd H q (oddO q n) ∧ Q (.int n) H) := by
  intro pins s σ H xs us Q I r ⟨q, n, ex, hq, hQ⟩
  subst ex
  obtain ⟨u, rfl, ru⟩ := vals1 r
  cases ru
  obtain ⟨nq, hz, es, ep, raw, hs⟩ := odd_at I hq
  refine len_raw nq raw (by rw [hs]; rw [sizeLine_eq] at hz; omega) ?_
  rw [hs]
  exact ⟨.int n, H, I.tok _, ⟨_, rfl⟩, hQ⟩
/-- what an object is, the untold dict too -/
inductive TyZ (K : PySem.W.Frag) (H : Hp) : V → Value → Prop where
  | x {v : V} {t : Value} : TyX K H v t → TyZ K H v t
  | odd {q : Addr} {n : Nat} : Rd H q (oddO q n) → TyZ K H (.ref q) (.type "dict")
theorem kitZ {v : V} {u t : Value} (I : Inv X pins σ H s) (rv : RelV v u) (ty : TyZ X.K H v t) : ∃ P : Heap → Prop, PySem.W.KitX X.K u t P ∧ P s.heap ∧ u ≠ .builtin "__main__.__loader__#opaque" := by
  cases ty with
  | x ty => exact kit_of I rv ty
  | @odd q n r =>
    cases (show u = Value.ref q from rv)
    obtain ⟨_, _, _, _, ⟨o, h1, h2, _⟩, _⟩ := odd_at I r
    exact ⟨_, PySem.W.kitx_dict, ⟨o, h1, h2.1⟩, fun z => nomatch z⟩
def rOne (K : PySem.W.Frag) : List V → Hp → VK → Prop := fun vs H Q => ∃ (v c : V) (t u : Value) (b : Bool), vs = [v, c] ∧ ClsV c u ∧ TyZ K H v t ∧ PySem.W.kitOne K t u = some b ∧ Q (.bl b) H
def rAny (K : PySem.W.Frag) : List V → Hp → VK → Prop := fun vs H Q => ∃ (v : V) (tp : Addr) (cs : List V) (t : Value) (us : List Value) (b : Bool), vs = [v, .ref tp] ∧ H tp = some (.tup cs) ∧ Paired ClsV cs us ∧ TyZ K H v t ∧ PySem.W.kitAny K t us = some b ∧ Q (.bl b) H
theorem call_one : CallR X (.builtin "isinstance") (rOne X.K) := by
  intro pins s σ H vs ws Q I r ⟨v, c, t, u, b, ev, hc, ty, ek, hQ⟩
  subst ev
  obtain ⟨w1, w2, ew, r1, r2⟩ := vals2 r
  subst ew
  obtain rfl := hc.eq r2
  obtain ⟨P, kit, hp, nop⟩ := kitZ I r1 ty
  exact PySem.W.kia_one kit I.kIn hp ek nop fun tk => ⟨.bl b, H, I.tok tk, rfl, hQ⟩
theorem call_some : CallR X (.builtin "isinstance") (rAny X.K) := by
  intro pins s σ H vs ws Q I r ⟨v, tp, cs, t, us, b, ev, htp, hcs, ty, ek, hQ⟩
  subst ev
  obtain ⟨w1, w2, ew, r1, r2⟩ := vals2 r
  subst ew
  cases (show w2 = Value.ref tp from r2)
  obtain ⟨P, kit, hp, nop⟩ := kitZ I r1 ty
  have htup : ObjOk X.prog X.w H s.heap tp (.tup cs) := I.hok tp _ htp
  obtain ⟨_, its, rv, ⟨oc, od, dt, sl⟩, h1, h2, n, h3⟩ := htup
  obtain rfl := ClsV.all hcs rv
  simp only at h2 h3
  subst h2 h3
  exact PySem.W.kia_tup kit I.kIn hp h1 ek nop fun tk => ⟨.bl b, H, I.tok tk, rfl, hQ⟩
end
end Dm
set_option Elab.async false
set_option linter.all false
set_option maxRecDepth 100000
set_option maxHeartbeats 1000000
namespace Dm
open PySem PySem.Spec PyProof.Rows L2
def lf : Key → Leaf
  | .inl i => .num i
  | .inr x => .text x
theorem lf_inj {a b : Key} (h : lf a = lf b) : a = b := by
  cases a <;> cases b <;> simp_all [lf]
theorem lf_is {P : Program} {w : World} {k : Key} {u : Value} (r : RelV (kV k) u) : (leafKind P w).is (lf k) u = true := by
  cases k with
  | inl i => obtain ⟨t, rfl⟩ := (show ∃ t, u = Value.int i t from r); exact decide_eq_true rfl
  | inr x =>
    obtain ⟨t, rfl⟩ := (show ∃ t, u = Value.str x t from r)
    show (x == x) = true
    simp
theorem stored_keys {acc : List (Leaf × Value)} {kk : List (Key × V)} {q : Key} {u : Value} {v : V} (h : acc.map (·.1) = kk.map fun p => lf p.1) : (stored acc (lf q) u).map (·.1) = (putK kk q v).map fun p => lf p.1 := by
  have e : (acc.any fun kv => decide (kv.1 = lf q)) = (kk.any fun kv => decide (kv.1 = q)) := by
    have e1 : (acc.any fun kv => decide (kv.1 = lf q)) = ((acc.map (·.1)).any fun x => decide (x = lf q)) := by rw [List.any_map]; rfl
    rw [e1, h, List.any_map]
    congr 1
    funext kv
    show decide (lf kv.1 = lf q) = _
    by_cases z : kv.1 = q
    · rw [z]; simp
    · rw [decide_eq_false z, decide_eq_false fun y => z (lf_inj y)]
  unfold stored putK
  rw [e]
  split
  · rw [List.map_map, List.map_map]
    have e1 : ((fun x : Leaf × Value => x.1) ∘ fun kv : Leaf × Value => if kv.1 = lf q then (kv.1, u) else kv) = fun x => x.1 := by
      funext kv
      simp only [Function.comp_apply]
      split <;> rfl
    have e2 : ((fun p : Key × V => lf p.1) ∘ fun kv : Key × V => if kv.1 = q then (kv.1, v) else kv) = fun p => lf p.1 := by
      funext kv
      simp only [Function.comp_apply]
      split <;> rfl
    rw [e1, e2, h]
  · rw [List.map_append, List.map_append, h]
    rfl
theorem merged_keys : ∀ {more : List (Leaf × Value)} {mk : List (Key × V)} {acc : List (Leaf × Value)} {kk : List (Key × V)}, more.map (·.1) = mk.map (fun p => lf p.1) → acc.map (·.1) = kk.map (fun p => lf p.1) → (merged acc more).map (·.1) = (mergeK kk mk).map fun p => lf p.1
  | [], [], _, _, _, h => h
  | [], _ :: _, _, _, h, _ => by cases h
  | _ :: _, [], _, _, h, _ => by cases h
  | (a, u) :: more, (k, v) :: mk, acc, kk, h, h' => by
    rw [List.map_cons, List.map_cons] at h
    injection h with h1 h2
    have h1 : a = lf k := h1
    subst h1
    exact merged_keys (acc := stored acc (lf k) u) (kk := putK kk k v) h2 (stored_keys h')
theorem none_last {acc : List (Leaf × Value)} {kk : List (Key × V)} {u : Value} (h : acc.map (·.1) = kk.map fun p => lf p.1) : (stored acc .none u).length = kk.length + 1 := by
  have hl : acc.length = kk.length := by have := congrArg List.length h; simpa using this
  have e : (acc.any fun kv => decide (kv.1 = .none)) = false := by
    have e1 : (acc.any fun kv => decide (kv.1 = .none)) = ((acc.map (·.1)).any fun x => decide (x = Leaf.none)) := by rw [List.any_map]; rfl
    rw [e1, h, List.any_map, List.any_eq_false]
    intro kv _
    show ¬ decide (lf kv.1 = .none) = true
    cases kv.1 <;> simp [lf]
  unfold stored
  rw [e]
  simp [hl]
section
variable {X : Cx} {pins : List (Addr × Obj)} {σ : L2.St} {H : Hp} {s : Shared}
/-- the pairs as they lie -/
theorem lie {ps : List Addr} {kvs : List (Key × V)} (I : Inv X pins σ H s) (h : Paired (fun p kv => SqT X.K H p [kV kv.1, kv.2]) ps kvs) :
    ∃ (pv : List (Value × Value)) (prs : List (Leaf × Value)), pv.length = ps.length ∧ prs.length = ps.length ∧ prs.map (·.1) = kvs.map (fun p => lf p.1) ∧ ∀ (j : Nat) (a b : Value), pv[j]? = some (a, b) → ∃ (t : Addr) (l : Leaf), ps[j]? = some t ∧ IsTup s.heap t #[a, b] ∧ prs[j]? = some (l, b) ∧ (leafKind X.prog X.w).is l a = true := by
  induction h with
  | nil => exact ⟨[], [], rfl, rfl, rfl, fun j a b e => by simp at e⟩
  | @cons p kv _ _ h0 _ ih =>
    obtain ⟨pv, prs, l1, l2, l3, g⟩ := ih
    obtain ⟨its, rv, ht, _⟩ := I.tuple h0
    obtain ⟨a0, b0, rfl, ra, rb⟩ := vals2 rv
    refine ⟨(a0, b0) :: pv, (lf kv.1, b0) :: prs, by simp [l1], by simp [l2], by rw [List.map_cons, List.map_cons, l3], fun j a b e => ?_⟩
    cases j with
    | zero =>
      have e' : (a0, b0) = (a, b) := Option.some.inj e
      cases e'
      exact ⟨p, lf kv.1, rfl, ht, rfl, lf_is ra⟩
    | succ j =>
      obtain ⟨t, l, e1, e2, e3, e4⟩ := g j a b (by simpa using e)
      exact ⟨t, l, by simpa using e1, e2, by simpa using e3, e4⟩
theorem call_dictO (hc : X.calm = true) : CallR X (.type "dict") (fun xs H Q => ∃ (q : Addr) (ps : List Addr) (kvs : List (Key × V)) (pn : Addr) (vn : V), xs = [.ref q] ∧ SqL X.K H q ((ps ++ [pn]).map V.ref) ∧ Paired (fun p kv => SqT X.K H p [kV kv.1, kv.2]) ps kvs ∧ SqT X.K H pn [.non, vn] ∧
    ∀ p, H p = none → Q (.ref p) (upd H p (oddO p ((mergeK [] kvs).length + 1)))) := by
  intro pins s σ H xs us Q I r ⟨q, ps, kvs, pn, vn, ex, hq, hp, hn, hQ⟩
  subst ex
  obtain ⟨u, rfl, ru⟩ := vals1 r
  cases ru
  obtain ⟨its, rv, ⟨o, n, ho, hcl, hd, hdat⟩, hz⟩ := I.list hq
  obtain rfl := refs_at rv
  obtain ⟨pv, prs, l1, l2, l3, g⟩ := lie I hp
  obtain ⟨jts, rn, tn, _⟩ := I.tuple hn
  obtain ⟨a0, b0, rfl, ra, rb⟩ := vals2 rn
  cases (show a0 = Value.none from ra)
  have hlen : (ps ++ [pn]).length ≤ sizeLine := by simpa using hz
  have lk : ∀ (j : Nat) (a b : Value), (pv ++ [(Value.none, b0)])[j]? = some (a, b) → ∃ (t : Addr) (l : Leaf), (ps ++ [pn])[j]? = some t ∧ IsTup s.heap t #[a, b] ∧ (prs ++ [(Leaf.none, b0)])[j]? = some (l, b) ∧ (leafKind X.prog X.w).is l a = true := fun j a b e => by
    by_cases hj : j < pv.length
    · rw [List.getElem?_append_left hj] at e
      obtain ⟨t, l, e1, e2, e3, e4⟩ := g j a b e
      exact ⟨t, l, by rw [List.getElem?_append_left (by omega)]; exact e1, e2, by rw [List.getElem?_append_left (by omega)]; exact e3, e4⟩
    · rw [List.getElem?_append_right (by omega)] at e
      have h0 : j - pv.length = 0 := by
        have := (List.getElem?_eq_some_iff.mp e).1
        simp at this
        omega
      rw [h0] at e
      simp at e
      obtain ⟨rfl, rfl⟩ := e
      refine ⟨pn, .none, ?_, tn, ?_, rfl⟩
      · rw [List.getElem?_append_right (by omega), show j - ps.length = 0 by omega]; rfl
      · rw [List.getElem?_append_right (by omega), show j - prs.length = 0 by omega]; rfl
  refine PySem.call_dict_pairs (knd := leafKind X.prog X.w) (kvs := prs ++ [(Leaf.none, b0)]) (PairArg.list q _ (fun j => (ps ++ [pn]).getD j 0) (pv ++ [(Value.none, b0)])) (I.ok.hd hc) ⟨⟨o, n, ho, hcl, hd, hdat⟩, ?_, fun j a b e => ?_⟩ ⟨?_, fun j a b e => ?_⟩ ?_ fun h' tk hd' k => ?_
  · simp [l1]
  · obtain ⟨t, l, e1, e2, _, _⟩ := lk j a b e
    have et : (ps ++ [pn]).getD j 0 = t := by rw [List.getD_eq_getElem?_getD, e1]; rfl
    refine ⟨?_, .inl ?_⟩
    · show _ = some (Value.ref ((ps ++ [pn]).getD j 0))
      rw [et, List.getElem?_toArray, List.getElem?_map, e1]; rfl
    · show s.heap.IsTuple ((ps ++ [pn]).getD j 0) _
      rw [et]; exact e2
  · simp [l1, l2]
  · obtain ⟨t, l, _, _, e3, e4⟩ := lk j a b e
    exact ⟨l, e3, e4⟩
  · simp [l1]; simpa using hlen
  · obtain ⟨es, ep, raw, hs, _⟩ := hd'.raw
    have hm : merged [] (prs ++ [(Leaf.none, b0)]) = stored (merged [] prs) .none b0 := by simp [merged, List.foldl_append]
    have hn' : es.size = (mergeK [] kvs).length + 1 := by rw [hs, hm]; exact none_last (merged_keys l3 rfl)
    have hle : (mergeK [] kvs).length + 1 ≤ sizeLine := by
      have e1 := length_mergeK kvs []
      have e2 : kvs.length = ps.length := (Paired.length hp).symm
      simp at e1 hlen
      omega
    have big : (s.heap.objs.size == sysModules) = false := beq_eq_false_iff_ne.mpr (Nat.ne_of_gt I.big)
    refine ⟨.ref s.heap.objs.size, upd H s.heap.objs.size (oddO s.heap.objs.size ((mergeK [] kvs).length + 1)), I.laid (t' := tk) (fun b o e => k b o (by simp) e) (Nat.le_refl _) ?_, rfl, hQ _ (I.hok.fresh (Nat.le_refl _))⟩
    refine ⟨⟨big, hle, es, ep, raw, hn'⟩, let ⟨o, e, _⟩ := raw; ⟨o, e⟩, fun h1 h2 ⟨y1, y2, es1, ep1, y3, y4⟩ hk => ⟨y1, y2, es1, ep1, y3.at hk, y4⟩⟩
end
end Dm
set_option Elab.async false
set_option linter.all false
set_option maxRecDepth 100000
namespace Dm
open PySem PySem.Spec PyProof.Rows
theorem lt_cons {x y : Nat} {a b : List Nat} : ltCps (x :: a) (y :: b) = false ↔ y < x ∨ (x = y ∧ ltCps a b = false) := by
  show (decide (x < y) || (x == y && ltCps a b)) = false ↔ _
  simp only [Bool.or_eq_false_iff, Bool.and_eq_false_iff, decide_eq_false_iff_not, beq_eq_false_iff_ne]
  constructor
  · rintro ⟨h1, h2⟩
    rcases Nat.lt_trichotomy x y with h | h | h
    · exact absurd h h1
    · exact .inr ⟨h, h2.resolve_left (fun z => z h)⟩
    · exact .inl h
  · rintro (h | ⟨rfl, h⟩)
    · exact ⟨by omega, .inl (by omega)⟩
    · exact ⟨by omega, .inr h⟩
theorem lt_anti : ∀ {a b : List Nat}, ltCps a b = false → ltCps b a = false → a = b
  | [], [], _, _ => rfl
  | [], _ :: _, h, _ => by cases h
  | _ :: _, [], _, h => by cases h
  | x :: a, y :: b, h, h' => by
    rw [lt_cons] at h h'
    rcases h with h | ⟨rfl, h⟩
    · rcases h' with h' | ⟨h', _⟩ <;> omega
    · rcases h' with h' | ⟨_, h'⟩
      · omega
      · rw [lt_anti h h']
/-- ≤ is transitive: ¬ b < a, ¬ c < b gives ¬ c < a -/
theorem le_trans : ∀ {a b c : List Nat}, ltCps b a = false → ltCps c b = false → ltCps c a = false
  | [], _, c, _, _ => by cases c <;> rfl
  | _ :: _, [], _, h, _ => by cases h
  | _ :: _, _ :: _, [], _, h => by cases h
  | x :: a, y :: b, z :: c, h, h' => by
    rw [lt_cons] at h h' ⊢
    rcases h with h | ⟨rfl, h⟩
    · rcases h' with h' | ⟨rfl, _⟩
      · exact .inl (by omega)
      · exact .inl h
    · rcases h' with h' | ⟨rfl, h'⟩
      · exact .inl h'
      · exact .inr ⟨rfl, le_trans h h'⟩
theorem le_total (a b : List Nat) : ltCps a b = false ∨ ltCps b a = false := by
  induction a generalizing b with
  | nil => cases b <;> exact .inr rfl
  | cons x a ih =>
    cases b with
    | nil => exact .inl rfl
    | cons y b =>
      rw [lt_cons, lt_cons]
      rcases Nat.lt_trichotomy x y with h | h | h
      · exact .inr (.inl h)
      · rcases ih b with z | z
        · exact .inl (.inr ⟨h, z⟩)
        · exact .inr (.inr ⟨h.symm, z⟩)
      · exact .inl (.inl h)
theorem insS_perm (x : Str) : ∀ l, (insS x l).Perm (x :: l)
  | [] => List.Perm.refl _
  | y :: l => by
    unfold insS
    split
    · exact List.Perm.refl _
    · exact ((insS_perm x l).cons y).trans (List.Perm.swap x y l)
theorem sortS_perm : ∀ l, (sortS l).Perm l
  | [] => List.Perm.refl _
  | x :: l => (insS_perm x (sortS l)).trans ((sortS_perm l).cons x)
abbrev LeS (x y : Str) : Prop := leS x y = true
theorem leS_iff {x y : Str} : LeS x y ↔ ltCps y.cps.toList x.cps.toList = false := by
  unfold LeS leS
  simp
theorem leS_trans {x y z : Str} (h : LeS x y) (h' : LeS y z) : LeS x z := leS_iff.mpr (le_trans (leS_iff.mp h) (leS_iff.mp h'))
theorem leS_anti {x y : Str} (h : LeS x y) (h' : LeS y x) : x = y := by
  have := lt_anti (leS_iff.mp h') (leS_iff.mp h)
  obtain ⟨⟨a⟩⟩ := x
  obtain ⟨⟨b⟩⟩ := y
  simp at this
  rw [this]
theorem leS_tot {x y : Str} (h : ¬ LeS x y) : LeS y x := by
  rcases le_total y.cps.toList x.cps.toList with z | z
  · exact absurd (leS_iff.mpr z) h
  · exact leS_iff.mpr z
theorem insS_sorted (x : Str) : ∀ {l : List Str}, l.Pairwise LeS → (insS x l).Pairwise LeS
  | [], _ => List.pairwise_singleton _ _
  | y :: l, h => by
    unfold insS
    rw [List.pairwise_cons] at h
    split
    · rename_i hxy
      refine List.pairwise_cons.mpr ⟨fun z hz => ?_, List.pairwise_cons.mpr h⟩
      rcases List.mem_cons.mp hz with rfl | hz
      · exact hxy
      · exact leS_trans hxy (h.1 z hz)
    · rename_i hxy
      refine List.pairwise_cons.mpr ⟨fun z hz => ?_, insS_sorted x h.2⟩
      rcases List.mem_cons.mp ((insS_perm x l).mem_iff.mp hz) with rfl | hz
      · exact leS_tot hxy
      · exact h.1 z hz
theorem sortS_sorted : ∀ l, (sortS l).Pairwise LeS
  | [] => List.Pairwise.nil
  | x :: l => insS_sorted x (sortS_sorted l)
theorem uniqS : ∀ {l m : List Str}, l.Perm m → l.Pairwise LeS → m.Pairwise LeS → l = m
  | [], m, h, _, _ => by rw [List.nil_perm.mp h]
  | x :: l, [], h, _, _ => by have := h.length_eq; simp at this
  | x :: l, y :: m, h, h1, h2 => by
    rw [List.pairwise_cons] at h1 h2
    have e : x = y := by
      have a : x ∈ y :: m := h.mem_iff.mp (List.mem_cons_self ..)
      have b : y ∈ x :: l := h.mem_iff.mpr (List.mem_cons_self ..)
      rcases List.mem_cons.mp a with a | a
      · exact a
      · rcases List.mem_cons.mp b with b | b
        · exact b.symm
        · exact leS_anti (h1.1 y b) (h2.1 x a)
    subst e
    rw [uniqS (List.Perm.cons_inv h) h1.2 h2.2]
theorem rising_pw : ∀ {l : List Str} {p : Str}, risingS p l = true → (p :: l).Pairwise LeS
  | [], _, _ => List.pairwise_singleton _ _
  | x :: l, p, h => by
    have h : (!ltCps x.cps.toList p.cps.toList && risingS x l) = true := h
    rw [Bool.and_eq_true] at h
    have ih := rising_pw h.2
    have px : LeS p x := h.1
    refine List.pairwise_cons.mpr ⟨fun z hz => ?_, ih⟩
    rcases List.mem_cons.mp hz with rfl | hz
    · exact px
    · exact leS_trans px ((List.pairwise_cons.mp ih).1 z hz)
theorem sorted_pw {l : List Str} (h : sortedS l = true) : l.Pairwise LeS := by
  cases l with
  | nil => exact List.Pairwise.nil
  | cons x l => exact rising_pw h
theorem insI_perm (x : Int) : ∀ l, (insI x l).Perm (x :: l)
  | [] => List.Perm.refl _
  | y :: l => by
    unfold insI
    split
    · exact List.Perm.refl _
    · exact ((insI_perm x l).cons y).trans (List.Perm.swap x y l)
theorem sortI_perm : ∀ l, (sortI l).Perm l
  | [] => List.Perm.refl _
  | x :: l => (insI_perm x (sortI l)).trans ((sortI_perm l).cons x)
theorem insI_sorted (x : Int) : ∀ {l : List Int}, l.Pairwise (· ≤ ·) → (insI x l).Pairwise (· ≤ ·)
  | [], _ => List.pairwise_singleton _ _
  | y :: l, h => by
    unfold insI
    rw [List.pairwise_cons] at h
    split
    · rename_i hxy
      refine List.pairwise_cons.mpr ⟨fun z hz => ?_, List.pairwise_cons.mpr h⟩
      rcases List.mem_cons.mp hz with rfl | hz
      · exact hxy
      · exact Int.le_trans hxy (h.1 z hz)
    · rename_i hxy
      refine List.pairwise_cons.mpr ⟨fun z hz => ?_, insI_sorted x h.2⟩
      rcases List.mem_cons.mp ((insI_perm x l).mem_iff.mp hz) with rfl | hz
      · omega
      · exact h.1 z hz
theorem sortI_sorted : ∀ l, (sortI l).Pairwise (· ≤ ·)
  | [] => List.Pairwise.nil
  | x :: l => insI_sorted x (sortI_sorted l)
theorem sorted_uniq : ∀ {l m : List Int}, l.Perm m → l.Pairwise (· ≤ ·) → m.Pairwise (· ≤ ·) → l = m
  | [], m, h, _, _ => by rw [List.nil_perm.mp h]
  | x :: l, [], h, _, _ => by have := h.length_eq; simp at this
  | x :: l, y :: m, h, h1, h2 => by
    rw [List.pairwise_cons] at h1 h2
    have e : x = y := by
      have a : x ∈ y :: m := h.mem_iff.mp (List.mem_cons_self ..)
      have b : y ∈ x :: l := h.mem_iff.mpr (List.mem_cons_self ..)
      rcases List.mem_cons.mp a with a | a
      · exact a
      · rcases List.mem_cons.mp b with b | b
        · exact b.symm
        · have := h2.1 x a
          have := h1.1 y b
          omega
    subst e
    rw [sorted_uniq (List.Perm.cons_inv h) h1.2 h2.2]
end Dm
set_option Elab.async false
set_option linter.all false
set_option maxRecDepth 100000
set_option maxHeartbeats 1000000
namespace Dm
open PySem PySem.Spec PyProof.Rows L2
theorem hl_of {P : Program} {w : World} {H : Hp} {h : Heap} (ok : HOk P w H h) : HL H :=
  ⟨fun a xs r => (r.ok ok).1, fun a xs r => (r.ok ok).1, fun a xs r => (r.ok ok).1⟩
section
variable {X : Cx} {e a b c : Expr} {es rest : List Expr} {fr fr' fr2 : Bool} {pos p : Pos} {fa fb fc : En → Res (D × En)} {fs : En → Res (List D × En)} {ft : En → Res (Bool × En)}
def tyN : D → String
  | .non => "NoneType"
  | .bl _ => "bool"
  | .int _ => "int"
  | .str _ => "str"
  | .lst _ => "list"
  | .tup _ => "tuple"
  | .dic _ => "dict"
  | .ins _ _ => "object"
  | .scr _ => "list"
  | .odd _ => "dict"
def okTys : List String := ["str", "int", "bool", "tuple", "list", "dict"]
theorem tyZ_of {F : Fx} {env : En} {σ : SV} {H : Hp} {v : V} {d : D} (r : RepF F env σ H v d) (h : d.isIns = false) : TyZ F.K H v (.type (tyN d)) := by
  cases r with
  | non => exact .x (.base .non)
  | bl b => exact .x (.base (.bl b))
  | int b => exact .x (.base (.int b))
  | str b => exact .x (.base (.str b))
  | lst r _ _ =>
    rcases r with r | ⟨o, r⟩
    · exact .x (.base (.lst r))
    · exact .x (.base (.frz r))
  | tup r _ _ =>
    rcases r with r | ⟨o, r⟩
    · exact .x (.base (.tup r))
    · exact .x (.fTuple r)
  | tupK r _ =>
    obtain ⟨o, its, n, h1, h2, _⟩ := r
    exact .x (.kTuple h1 h2)
  | dic r _ _ =>
    rcases r with r | ⟨o, r⟩
    · exact .x (.base (.dK r))
    · exact .x (.fDict r)
  | ins _ _ _ => cases h
  | scr _ => cases h
  | odd r _ => exact .odd r
theorem kitB_of (d : D) (t : String) (h : d.isIns = false) (ht : t ∈ okTys) : kitB (tyN d) t = some (isTy d t) := by
  simp only [okTys, List.mem_cons, List.not_mem_nil, or_false] at ht
  cases d with
  | ins _ _ => cases h
  | scr _ => cases h
  | _ => rcases ht with rfl | rfl | rfl | rfl | rfl | rfl <;> (simp only [tyN, isTy]; decide +kernel)
theorem s_isi1 {T : String} {pT : Pos} (ha : PE X a (tR X fr fa)) (hT : T ∈ okTys) (hg : Gl X "isinstance") (hm : X.mg "isinstance" = none) (hgT : Gl X T) (hmT : X.mg T = none) (hs : starEach [a, .Name T pT] X.env = (false, eval a X.env) :: starEach [.Name T pT] X.env) :
    PE X (.Call (.Name "isinstance" p) [a, .Name T pT] [] pos) (tR X false fun env => (fa env).bind fun p => if p.1.isIns then .bad else .ok (.bl (isTy p.1 T), p.2)) := by
  have hty : PE X (.Name (T : Str) pT) (tC (.ty T)) := by
    simp only [okTys, List.mem_cons, List.not_mem_nil, or_false] at hT
    rcases hT with rfl | rfl | rfl | rfl | rfl | rfl
    · exact pe_bltn hgT hmT (by decide +kernel) rfl
    · exact pe_bltn hgT hmT (by decide +kernel) rfl
    · exact pe_bltn hgT hmT (by decide +kernel) rfl
    · exact pe_bltn hgT hmT (by decide +kernel) rfl
    · exact pe_bltn hgT hmT (by decide +kernel) rfl
    · exact pe_bltn hgT hmT (by decide +kernel) rfl
  refine peImp (pe_callB call_one hg hm (by decide +kernel) (pa_cons (peWeak ha) (pa_cons hty pa_nil) hs) (he := hs)) fun σ H Q ⟨F, env, g, rel, o⟩ => ⟨F, env, g, rel, o.seq fun q v H1 _ ps rv o1 => ?_⟩
  cases hi : q.1.isIns with
  | true => simp only [hi, if_true] at o1; exact o1.elim
  | false =>
    simp only [hi, Bool.false_eq_true, if_false] at o1
    exact ⟨v, .ty T, .type (tyN q.1), .type T, isTy q.1 T, rfl, .ty T, g.1 ▸ tyZ_of rv hi, kit_ty (kitB_of q.1 T hi hT), Out.fin ps.rel o1 (.bl _)⟩
theorem kitAny_of {K : PySem.W.Frag} (d : D) (h : d.isIns = false) : ∀ ts : List String, (∀ t ∈ ts, t ∈ okTys) → PySem.W.kitAny K (.type (tyN d)) (ts.map Value.type) = some (ts.any (isTy d))
  | [], _ => rfl
  | t :: ts, ht => by
    show (match PySem.W.kitOne K (.type (tyN d)) (.type t) with
      | some true => some true
      | some false => PySem.W.kitAny K (.type (tyN d)) (ts.map Value.type)
      | none => none) = some (isTy d t || ts.any (isTy d))
    rw [kit_ty (kitB_of d t h (ht t List.mem_cons_self))]
    cases isTy d t with
    | true => rfl
    | false => simp only [Bool.false_or]; exact kitAny_of d h ts fun u hu => ht u (List.mem_cons_of_mem _ hu)
theorem s_isi2 {T U : String} {pT pU pP : Pos} {k : Nat} (ha : PE X a (tR X fr fa)) (hT : T ∈ okTys) (hU : U ∈ okTys) (hg : Gl X "isinstance") (hm : X.mg "isinstance" = none) (hgT : Gl X T) (hmT : X.mg T = none) (hgU : Gl X U) (hmU : X.mg U = none)
    (hs : starEach [a, .Tuple [.Name T pT, .Name U pU] k pP] X.env = (false, eval a X.env) :: starEach [.Tuple [.Name T pT, .Name U pU] k pP] X.env) :
    PE X (.Call (.Name "isinstance" p) [a, .Tuple [.Name T pT, .Name U pU] k pP] [] pos) (tR X false fun env => (fa env).bind fun p => if p.1.isIns then .bad else .ok (.bl ([T, U].any (isTy p.1)), p.2)) := by
  have hty : ∀ {T : String} {pT : Pos}, T ∈ okTys → Gl X T → X.mg T = none → PE X (.Name (T : Str) pT) (tC (.ty T)) := fun {T pT} hT hgT hmT => by
    simp only [okTys, List.mem_cons, List.not_mem_nil, or_false] at hT
    rcases hT with rfl | rfl | rfl | rfl | rfl | rfl
    · exact pe_bltn hgT hmT (by decide +kernel) rfl
    · exact pe_bltn hgT hmT (by decide +kernel) rfl
    · exact pe_bltn hgT hmT (by decide +kernel) rfl
    · exact pe_bltn hgT hmT (by decide +kernel) rfl
    · exact pe_bltn hgT hmT (by decide +kernel) rfl
    · exact pe_bltn hgT hmT (by decide +kernel) rfl
  refine peImp (pe_callB call_some hg hm (by decide +kernel) (pa_cons (peWeak ha) (pa_cons (pe_tup (pa_cons (hty hT hgT hmT) (pa_cons (hty hU hgU hmU) pa_nil))) pa_nil) hs) (he := hs)) fun σ H Q ⟨F, env, g, rel, o⟩ => ⟨F, env, g, rel, o.seq fun q v H1 _ ps rv o1 => ?_⟩
  refine ⟨by show 2 ≤ sizeLine; decide, fun tp ntp => ?_⟩
  cases hi : q.1.isIns with
  | true => simp only [hi, if_true] at o1; exact o1.elim
  | false =>
    simp only [hi, Bool.false_eq_true, if_false] at o1
    have hl : HL (upd H1 tp (.tup [.ty T, .ty U])) := ps.rel.sz.tupU (by show 2 ≤ sizeLine; decide)
    have ps2 := Pst.laid ps.rel ntp hl
    have rv2 := ps2.rep rv
    refine ⟨v, tp, [.ty T, .ty U], .type (tyN q.1), [.type T, .type U], [T, U].any (isTy q.1), rfl, upd_same, .cons (.ty T) (.cons (.ty U) .nil), g.1 ▸ tyZ_of rv2 hi, kitAny_of q.1 hi [T, U] (fun t ht => ?_), o1 _ _ ps2 (.bl _) (fun z => nomatch z)⟩
    simp only [List.mem_cons, List.not_mem_nil, or_false] at ht
    rcases ht with rfl | rfl
    · exact hT
    · exact hU

theorem bits_of {F : Fx} {env : En} {σ : SV} {H : Hp} : ∀ {v : List V} {d : List D} {bs : List Bool}, RepAllF F env σ H v d → bitsOf d = some bs → v = bs.map V.bl
  | _, _, _, .nil, h => by cases h; rfl
  | _, _, bs, .cons r q, h => by
    cases r with
    | bl b =>
      simp only [bitsOf, Option.map_eq_some_iff] at h
      obtain ⟨cs, h1, rfl⟩ := h
      rw [bits_of q h1]
      rfl
    | _ => simp [bitsOf] at h
theorem nums_of {F : Fx} {env : En} {σ : SV} {H : Hp} : ∀ {v : List V} {d : List D} {bs : List Int}, RepAllF F env σ H v d → numsOf d = some bs → v = bs.map V.int
  | _, _, _, .nil, h => by cases h; rfl
  | _, _, bs, .cons r q, h => by
    cases r with
    | int b =>
      simp only [numsOf, Option.map_eq_some_iff] at h
      obtain ⟨cs, h1, rfl⟩ := h
      rw [nums_of q h1]
      rfl
    | _ => simp [numsOf] at h
theorem RepKv.any {K : PySem.W.Frag} {cl : Nat → Addr} {A : Av} {H : Hp} {q : Key} : ∀ {v : List (Key × V)} {d : List (Ky × D)}, RepKv K cl A H v d → (v.any fun kv => decide (kv.1 = q)) = (d.any fun p => decide (p.1 = .k q))
  | _, _, .nil => rfl
  | _, _, .cons (k := k) r t => by
    rw [List.any_cons, List.any_cons, RepKv.any t]
    congr 1
    show decide (k = q) = decide (Ky.k k = Ky.k q)
    by_cases e : k = q
    · subst e; simp
    · have : ¬ Ky.k k = Ky.k q := fun z => e (by injection z)
      rw [decide_eq_false e, decide_eq_false this]
theorem RepKv.map {K : PySem.W.Frag} {cl : Nat → Addr} {A : Av} {H : Hp} {q : Key} {y : V} {x : D} (r : Rep K cl A H y x) : ∀ {v : List (Key × V)} {d : List (Ky × D)}, RepKv K cl A H v d →
    RepKv K cl A H (v.map fun kv => if kv.1 = q then (kv.1, y) else kv) (d.map fun p => if p.1 = .k q then (p.1, x) else p)
  | _, _, .nil => .nil
  | _, _, .cons (k := k) r' t => by
    rw [List.map_cons, List.map_cons]
    by_cases e : k = q
    · subst e
      rw [if_pos rfl, if_pos rfl]
      exact .cons r (RepKv.map r t)
    · rw [if_neg e, if_neg (fun z => e (by injection z))]
      exact .cons r' (RepKv.map r t)
theorem RepKv.append {K : PySem.W.Frag} {cl : Nat → Addr} {A : Av} {H : Hp} : ∀ {v w : List (Key × V)} {d e : List (Ky × D)}, RepKv K cl A H v d → RepKv K cl A H w e → RepKv K cl A H (v ++ w) (d ++ e)
  | _, _, _, _, .nil, s => s
  | _, _, _, _, .cons r t, s => .cons r (RepKv.append t s)
theorem RepKv.put {K : PySem.W.Frag} {cl : Nat → Addr} {A : Av} {H : Hp} {q : Key} {y : V} {x : D} (r : Rep K cl A H y x) {v : List (Key × V)} {d : List (Ky × D)} (t : RepKv K cl A H v d) : RepKv K cl A H (putK v q y) (putD d (.k q) x) := by
  unfold putK putD
  rw [t.any]
  split
  · exact t.map r
  · exact t.append (.cons r .nil)
theorem pairs_of {F : Fx} {env : En} {σ : SV} {H : Hp} : ∀ {v : List V} {d : List D} {ps : List (Ky × D)}, RepAllF F env σ H v d → pairs d = some ps → ∃ (as : List Addr) (kvs : List (Key × V)), v = as.map V.ref ∧ Paired (fun p kv => SqT F.K H p [kV kv.1, kv.2]) as kvs ∧ RepKv F.K F.cl (Avd F.C env σ) H kvs ps
  | _, _, _, .nil, h => by cases h; exact ⟨[], [], rfl, .nil, .nil⟩
  | _, d :: ds, ps, .cons r q, h => by
    unfold pairs at h
    split at h
    · rename_i heq; cases heq
    · rename_i k v rest heq
      split at h
      · rename_i k' ps' e1 e2
        cases heq
        cases h
        obtain ⟨a, xs, rfl, h1, r1⟩ := r.tupV
        cases r1 with
        | cons rk r1 =>
          cases r1 with
          | cons rv' r1 =>
            cases r1
            obtain ⟨q', rfl, rfl⟩ := key_of rk e1
            obtain ⟨as, kvs, rfl, h2, h3⟩ := pairs_of q e2
            exact ⟨a :: as, (q', _) :: kvs, rfl, .cons h1 h2, .cons rv' h3⟩
      · cases h
    · cases h
theorem merge_of {K : PySem.W.Frag} {cl : Nat → Addr} {A : Av} {H : Hp} : ∀ {w v : List (Key × V)} {e d : List (Ky × D)}, RepKv K cl A H w e → RepKv K cl A H v d → RepKv K cl A H (mergeK v w) (merge d e)
  | _, _, _, _, .nil, s => s
  | _, v, _, d, .cons (k := k) (v := y) (vs := vs) (d := x) (ds := ds) r t, s => by
    show RepKv K cl A H (mergeK (putK v k y) vs) (merge (putD d (.k k) x) ds)
    exact merge_of t (RepKv.put r s)
theorem len_putK {kvs : List (Key × V)} {k : Key} {v : V} : (putK kvs k v).length ≤ kvs.length + 1 := length_putK kvs k v
theorem len_merge : ∀ (w v : List (Key × V)), (mergeK v w).length ≤ v.length + w.length
  | [], v => Nat.le_refl _
  | x :: w, v => by
    have h1 := len_merge w (putK v x.1 x.2)
    have h2 := length_putK v x.1 x.2
    show (mergeK (putK v x.1 x.2) w).length ≤ v.length + (w.length + 1)
    omega
def bltF : Blt → Str × Value
  | .len => ("len", .builtin "len")
  | .int => ("int", .type "int")
  | .max2 => ("max", .builtin "max")
  | .min2 => ("min", .builtin "min")
  | .all => ("all", .builtin "all")
  | .any => ("any", .builtin "any")
  | .sum => ("sum", .builtin "sum")
  | .tuple => ("tuple", .type "tuple")
  | .list => ("list", .type "list")
  | .dict => ("dict", .type "dict")
  | .srt => ("sorted", .builtin "sorted")
  | .strO => ("str", .type "str")
  | .repr => ("repr", .builtin "repr")
theorem texts_of {K : PySem.W.Frag} {cl : Nat → Addr} {A : Av} {H : Hp} : ∀ {v : List V} {d : List D} {bs : List Str}, RepAll K cl A H v d → textsOf d = some bs → v = bs.map V.str
  | _, _, _, .nil, h => by cases h; rfl
  | _, _, _, .cons (d := d) r q, h => by
    cases d with
    | str x =>
      have h : (textsOf _).map (x :: ·) = some _ := h
      rw [Option.map_eq_some_iff] at h
      obtain ⟨bs', h1, rfl⟩ := h
      cases r
      rw [texts_of q h1]
      rfl
    | _ => cases h
theorem rep_ints {K : PySem.W.Frag} {cl : Nat → Addr} {A : Av} {H : Hp} : ∀ l : List Int, RepAll K cl A H (l.map V.int) (l.map D.int)
  | [] => .nil
  | x :: l => .cons (.int x) (rep_ints l)
theorem rep_strs {K : PySem.W.Frag} {cl : Nat → Addr} {A : Av} {H : Hp} : ∀ l : List Str, RepAll K cl A H (l.map V.str) (l.map D.str)
  | [] => .nil
  | x :: l => .cons (.str x) (rep_strs l)
theorem odd_hl {H : Hp} {p : Addr} {n : Nat} (h : HL H) : HL (upd H p (oddO p n)) := by
  refine h.upd (fun ys r => ?_) (fun ys r => ?_) (fun ys r => ?_) <;> rcases rd_upd r with e | ⟨_, e⟩ <;> cases e
theorem RepAll.cut {K : PySem.W.Frag} {cl : Nat → Addr} {A : Av} {H : Hp} : ∀ {l : List D} {v : List V} {e : D}, RepAll K cl A H v (l ++ [e]) → ∃ w y, v = w ++ [y] ∧ RepAll K cl A H w l ∧ Rep K cl A H y e
  | [], _, _, .cons r .nil => ⟨[], _, rfl, .nil, r⟩
  | d :: l, _, _, .cons r q => by
    obtain ⟨w, y, rfl, h1, h2⟩ := RepAll.cut q
    exact ⟨_ :: w, y, rfl, .cons r h1, h2⟩
theorem odd_of {F : Fx} {env : En} {σ : SV} {H : Hp} {v : List V} {d : List D} {n : Nat} (r : RepAllF F env σ H v d) (h : oddN d = some n) :
    ∃ (as : List Addr) (kvs : List (Key × V)) (pn : Addr) (vn : V), v = (as ++ [pn]).map V.ref ∧ Paired (fun p kv => SqT F.K H p [kV kv.1, kv.2]) as kvs ∧ SqT F.K H pn [.non, vn] ∧ n = (mergeK [] kvs).length + 1 := by
  unfold oddN at h
  split at h
  · rename_i x ps e1 e2
    cases h
    have ed : d = d.dropLast ++ [.tup [.non, x]] := by
      have hne : d ≠ [] := fun z => by rw [z] at e1; cases e1
      have := List.dropLast_concat_getLast hne
      rw [List.getLast?_eq_some_getLast hne] at e1
      rw [← Option.some.inj e1]
      exact this.symm
    rw [ed] at r
    obtain ⟨w, y, rfl, r1, r2⟩ := RepAll.cut r
    obtain ⟨as, kvs, rfl, h3, h4⟩ := pairs_of r1 e2
    obtain ⟨pn, xs, rfl, h5, r5⟩ := r2.tupV
    cases r5 with
    | cons ra r5 =>
      cases r5 with
      | cons rb r5 =>
        cases r5
        cases ra
        refine ⟨as, kvs, pn, _, by rw [List.map_append]; rfl, h3, h5, ?_⟩
        rw [(merge_of h4 .nil).length]
  · cases h
theorem call_reprD (gd : X.A.guards = some []) (hu : X.A.units + 65 < cLine) : CallR X (.builtin "repr") (fun xs H Q => ∃ v d, xs = [v] ∧ Dp X.K H v d ∧ d.showable = true ∧ d.hasDict = false ∧ d.depth ≤ 60 ∧ d.shown.length ≤ sizeLine ∧ Q (.str d.shown) H) := by
  intro pins s σ H xs us Q I r h
  obtain ⟨v, d, rfl, hd, h1, h2, h3, h4, q⟩ := h
  obtain ⟨u, rfl, ru⟩ := vals1 r
  obtain ⟨as, rd⟩ := Dp.reads I d v u hd ru
  have fin : ∀ (t : Tok) (tk : Nat), EP X pins σ Q (.str d.shown t) { s with toks := tk } := fun t tk => ⟨.str d.shown, H, I.tok _, ⟨t, rfl⟩, q⟩
  cases rd with
  | none => exact PySem.P.repr_of_none (fin _ _)
  | bool b => exact PySem.P.repr_of_bool (fin _ _)
  | int i t => exact PySem.P.repr_of_int (by simpa [PyData.showable] using h1) (fin _ _)
  | str x t => exact PySem.P.repr_of_str (fin _ _) h4
  | list a1 a2 a3 a4 => exact repr_of_reads' (.list a1 a2 a3 a4) h1 (PyData.noDict_hsm h2) gd (by omega) (fun _ _ e => e) (fun h' u tk hk => ⟨.str _, H, I.kept hk, ⟨u, rfl⟩, q⟩) h4
  | tuple a1 a2 a3 a4 => exact repr_of_reads' (.tuple a1 a2 a3 a4) h1 (PyData.noDict_hsm h2) gd (by omega) (fun _ _ e => e) (fun h' u tk hk => ⟨.str _, H, I.kept hk, ⟨u, rfl⟩, q⟩) h4
  | dict => cases h2
theorem blt_fin {F : Fx} {env : En} {σ : SV} {H : Hp} {bt : Blt} {ds : List D} {d : D} {vs : List V} {Q : VK} (hc : X.calm = true) (hgd : bt = .repr → X.A.guards = some [] ∧ X.A.units + 65 < cLine) (g : Good X F) (rel : Rel F env σ H) (rv : RepAllF F env σ H vs ds) (h : bltD bt ds = some d) (o : Out true F env σ H (.ok (d, env)) Q) :
    ∃ r, CallR X (bltF bt).2 r ∧ r vs H Q := by
  unfold bltD at h
  split at h
  · split at h
    · rename_i hl
      cases h
      cases rv with | cons r q => cases q; cases r; exact ⟨_, call_len, _, _, rfl, ⟨hl, rfl⟩, Out.fin' rel o rfl (.int _)⟩
    · cases h
  · cases h
    cases rv with | cons r q => cases q; obtain ⟨a, xs, rfl, h1, r1⟩ := r.lstV; exact ⟨_, call_len_seq, a, xs, rfl, .inl (.inl h1), by rw [r1.length]; exact Out.fin' rel o rfl (.int _)⟩
  · cases h
    cases rv with | cons r q => cases q; obtain ⟨a, xs, rfl, h1, r1⟩ := r.tupV; exact ⟨_, call_len_seq, a, xs, rfl, .inr (g.1 ▸ h1), by rw [r1.length]; exact Out.fin' rel o rfl (.int _)⟩
  · cases h
    cases rv with | cons r q => cases q; obtain ⟨a, xs, rfl, h1, r1⟩ := r.dicV; exact ⟨_, call_lenR, a, xs, rfl, h1, by rw [r1.length]; exact Out.fin' rel o rfl (.int _)⟩
  · cases h
    cases rv with | cons r q => cases q; obtain ⟨a, rfl, h1⟩ := r.scrV; exact ⟨_, call_len_seq, a, _, rfl, .inl (g.1 ▸ h1), by rw [List.length_map]; exact Out.fin' rel o rfl (.int _)⟩
  · cases h
    cases rv with | cons r q => cases q; cases r with | odd r _ => exact ⟨_, call_lenO, _, _, rfl, r, Out.fin' rel o rfl (.int _)⟩
  · cases h
    cases rv with | cons r q => cases q; cases r; exact ⟨_, call_int1, .inl ⟨_, rfl, Out.fin' rel o rfl (.int _)⟩⟩
  · cases h
    cases rv with | cons r q => cases q; cases r; exact ⟨_, call_int1, .inr ⟨_, rfl, Out.fin' rel o rfl (.int _)⟩⟩
  · cases h
    cases rv with | cons r q => cases q with | cons r' q => cases q; cases r; cases r'; exact ⟨_, call_max2 hc, _, _, rfl, Out.fin' rel o rfl (.int _)⟩
  · cases h
    cases rv with | cons r q => cases q with | cons r' q => cases q; cases r; cases r'; exact ⟨_, call_min2 hc, _, _, rfl, Out.fin' rel o rfl (.int _)⟩
  · rw [Option.map_eq_some_iff] at h
    obtain ⟨bs, h1, rfl⟩ := h
    cases rv with | cons r q => cases q; obtain ⟨a, xs, rfl, h2, r1⟩ := r.lstV; have e := bits_of r1 h1; subst e; exact ⟨_, cr_all hc, a, bs, rfl, .inl h2, Out.fin' rel o rfl (.bl _)⟩
  · rw [Option.map_eq_some_iff] at h
    obtain ⟨bs, h1, rfl⟩ := h
    cases rv with | cons r q => cases q; obtain ⟨a, xs, rfl, h2, r1⟩ := r.lstV; have e := bits_of r1 h1; subst e; exact ⟨_, cr_any hc, a, bs, rfl, .inl h2, Out.fin' rel o rfl (.bl _)⟩
  · rw [Option.map_eq_some_iff] at h
    obtain ⟨bs, h1, rfl⟩ := h
    cases rv with | cons r q => cases q; obtain ⟨a, xs, rfl, h2, r1⟩ := r.lstV; have e := nums_of r1 h1; subst e; exact ⟨_, cr_sum hc, a, bs, rfl, .inl h2, Out.fin' rel o rfl (.int _)⟩
  · cases h
    cases rv with | cons r q => cases q; obtain ⟨a, xs, rfl, h2, r1⟩ := r.lstV; exact ⟨_, call_tuple_of, a, xs, rfl, .inl ⟨.inl h2, fun l n => Out.newT rel o r1 (rel.sz.lst _ _ h2) n⟩⟩
  · cases h
    cases rv with | cons r q => cases q; have r' := r; obtain ⟨a, xs, rfl, h2, r1⟩ := r.tupV; exact ⟨_, call_tuple_of, a, xs, rfl, .inr ⟨g.1 ▸ h2, Out.fin' rel o rfl r'⟩⟩
  · cases h
    cases rv with | cons r q => cases q; obtain ⟨a, xs, rfl, h2, r1⟩ := r.lstV; exact ⟨_, call_list_of, a, xs, rfl, .inl (.inl h2), fun l n => Out.newL rel o r1 (rel.sz.lst _ _ h2) n⟩
  · cases h
    cases rv with | cons r q => cases q; obtain ⟨a, xs, rfl, h2, r1⟩ := r.tupV; exact ⟨_, call_list_of, a, xs, rfl, .inr (g.1 ▸ h2), fun l n => Out.newL rel o r1 (by
        rcases h2 with h2 | ⟨ob, its, m, _, _, _, hz, hv⟩
        · exact rel.sz.tup _ _ h2
        · rw [hv.length, Array.length_toList]; exact hz) n⟩
  · cases e0 : pairs _ with
    | none =>
      rw [e0] at h
      have h : (oddN _).map D.odd = some d := h
      rw [Option.map_eq_some_iff] at h
      obtain ⟨n, h5, rfl⟩ := h
      cases rv with | cons r q =>
      cases q
      obtain ⟨a, xs, rfl, h2, r1⟩ := r.lstV
      obtain ⟨as, kvs, pn, vn, rfl, h3, h4, h6⟩ := odd_of r1 h5
      rw [h6] at o
      exact ⟨_, call_dictO hc, a, as, kvs, pn, vn, rfl, .inl h2, g.1 ▸ h3, g.1 ▸ h4, fun p np => o (.ref p) _ (Pst.laid rel np (odd_hl rel.sz)) (.odd (.inl upd_same) fun z => rel.avSome z np) (fun _ z => nomatch z)⟩
    | some ps =>
    rw [e0] at h
    cases h
    have h1 := e0
    cases rv with | cons r q =>
    cases q
    obtain ⟨a, xs, rfl, h2, r1⟩ := r.lstV
    obtain ⟨as, kvs, rfl, h3, h4⟩ := pairs_of r1 h1
    refine ⟨_, call_dictP hc, a, as, kvs, rfl, .inl h2, g.1 ▸ h3, fun l n => Out.newD rel o (merge_of h4 .nil) ?_ n⟩
    have e1 := len_merge kvs []
    have e2 := rel.sz.lst _ _ h2
    have e3 : as.length = kvs.length := Paired.length h3
    rw [List.length_map] at e2
    rw [List.length_nil] at e1
    omega
  · cases e0 : numsOf _ with
    | some ns =>
      rw [e0] at h
      cases h
      cases rv with | cons r q =>
      cases q
      obtain ⟨a, xs, rfl, h2, r1⟩ := r.lstV
      have e := nums_of r1 e0
      subst e
      refine ⟨_, cr_sortedI, a, ns, rfl, .inl h2, fun ns' p hp hs n => ?_⟩
      have e1 : ns' = sortI ns := sorted_uniq (hp.trans (sortI_perm ns).symm) hs (sortI_sorted ns)
      subst e1
      refine Out.newL rel o (rep_ints _) ?_ n
      have := rel.sz.lst _ _ h2
      rw [List.length_map] at this ⊢
      rw [(sortI_perm ns).length_eq]
      exact this
    | none =>
      rw [e0] at h
      have h : (match textsOf _ with
        | some ss => if ss.length < 64 then some (D.lst ((sortS ss).map D.str)) else none
        | none => none) = some d := h
      cases e1 : textsOf _ with
      | none => rw [e1] at h; cases h
      | some ss =>
        rw [e1] at h
        have h : (if ss.length < 64 then some (D.lst ((sortS ss).map D.str)) else none) = some d := h
        by_cases hl : ss.length < 64
        · rw [if_pos hl] at h
          cases h
          cases rv with | cons r q =>
          cases q
          obtain ⟨a, xs, rfl, h2, r1⟩ := r.lstV
          have e := texts_of r1 e1
          subst e
          refine ⟨_, cr_sortedS, a, ss, rfl, .inl h2, hl, fun ys p hp hs n => ?_⟩
          have e1 : ys = sortS ss := uniqS (hp.trans (sortS_perm ss).symm) (sorted_pw hs) (sortS_sorted ss)
          subst e1
          refine Out.newL rel o (rep_strs _) ?_ n
          rw [List.length_map, (sortS_perm ss).length_eq, sizeLine_eq]
          omega
        · rw [if_neg hl] at h; cases h
  · cases h
    cases rv with | cons r q => cases q; cases r; exact ⟨_, SkE.call_str_str, _, rfl, Out.fin' rel o rfl (.str _)⟩
  · cases rv with | cons r q =>
    cases q
    unfold reprD at h
    split at h
    · rename_i x ex
      split at h
      · rename_i hh
        cases h
        simp only [Bool.and_eq_true, decide_eq_true_eq, Bool.not_eq_true'] at hh
        obtain ⟨⟨⟨h1, h2⟩, h3⟩, h4⟩ := hh
        exact ⟨_, call_reprD (hgd rfl).1 (hgd rfl).2, _, x, rfl, g.1 ▸ r.dp ex, h1, h2, h3, h4, Out.fin' rel o rfl (.str _)⟩
      · cases h
    · cases h
  · cases h
end
end Dm
set_option Elab.async false
set_option linter.all false
set_option maxRecDepth 100000
set_option maxHeartbeats 1000000
namespace Dm
open PySem PySem.Spec PyProof.Rows L2
/-- no star among them -/
def NoStar (es : List Expr) : Prop := ∀ env : PySem.Env, starEach es env = es.map fun e => (false, eval e env)
theorem NoStar.nil : NoStar [] := fun _ => rfl
theorem NoStar.head {e : Expr} {es : List Expr} (h : NoStar es) (he : ∀ x p, e ≠ .Starred x p) : NoStar (e :: es) := fun env => by
  have : starEach (e :: es) env = (false, eval e env) :: starEach es env := by
    cases e <;> first | rfl | exact absurd rfl (he _ _)
  rw [this, h env]
  rfl
theorem NoStar.cons {e : Expr} {es : List Expr} (h : NoStar (e :: es)) (h' : NoStar es) (env : PySem.Env) : starEach (e :: es) env = (false, eval e env) :: starEach es env := by
  rw [h env, h' env]
  rfl
theorem NoStar.any {es : List Expr} (h : NoStar es) (env : PySem.Env) (pos : Pos) : (backTo pos (starEach es env)).any (·.1) = false := by
  rw [h env]
  unfold backTo
  rw [List.map_map, List.any_map]
  induction es with
  | nil => rfl
  | cons e r ih => rw [List.any_cons]; simp
theorem NoStar.all {es : List Expr} (h : NoStar es) (env : PySem.Env) (pos : Pos) : (backTo pos (starEach es env)).all (fun x => !x.1) = true := by
  rw [h env]
  unfold backTo
  rw [List.map_map, List.all_map]
  induction es with
  | nil => rfl
  | cons e r ih => rw [List.all_cons]; simp
section
variable {X : Cx} {e a b c : Expr} {es rest : List Expr} {fr fr' fr2 : Bool} {pos p : Pos} {fa fb fc : En → Res (D × En)} {fs : En → Res (List D × En)} {ft : En → Res (Bool × En)}
theorem s_blt {bt : Blt} (hc : X.calm = true) (hgd : bt = .repr → X.A.guards = some [] ∧ X.A.units + 65 < cLine) (ha : PA X (e :: es) (tRA X fs)) (hg : Gl X (bltF bt).1) (hm : X.mg (bltF bt).1 = none) (n1 : NoStar (e :: es)) (n2 : NoStar es) :
    PE X (.Call (.Name (bltF bt).1 p) (e :: es) [] pos) (tR X true fun env => (fs env).bind fun q => opt (bltD bt q.1) q.2) := by
  have i : ∀ {t : TE}, PE X (.Call (.Name (bltF bt).1 p) (e :: es) [] pos) (tCB (fun xs H Q => ∃ r, CallR X (bltF bt).2 r ∧ r xs H Q) (tRA X fs)) → PE X (.Call (.Name (bltF bt).1 p) (e :: es) [] pos) (tR X true fun env => (fs env).bind fun q => opt (bltD bt q.1) q.2) := fun h =>
    peImp h fun σ H Q ⟨F, env, g, rel, o⟩ => ⟨F, env, g, rel, o.seqA fun q vs H1 _ ps rvs o1 => by
      cases e : bltD bt q.1 with
      | none => simp only [e] at o1; exact o1.elim
      | some d => simp only [e] at o1; exact blt_fin hc hgd g ps.rel rvs e o1⟩
  refine i (t := fun _ _ _ => True) ?_
  cases bt with
  | len => exact pe_callB call_any hg hm (by decide +kernel) ha (he := n1.cons n2 _) (hpl := n2.any _ _)
  | int => exact pe_callTy call_any hg hm (by decide +kernel) ha (he := n1.cons n2 _) (hpl := n2.any _ _)
  | max2 => exact pe_callB call_any hg hm (by decide +kernel) ha (he := n1.cons n2 _) (hpl := n2.any _ _)
  | min2 => exact pe_callB call_any hg hm (by decide +kernel) ha (he := n1.cons n2 _) (hpl := n2.any _ _)
  | all => exact pe_callB call_any hg hm (by decide +kernel) ha (he := n1.cons n2 _) (hpl := n2.any _ _)
  | any => exact pe_callB call_any hg hm (by decide +kernel) ha (he := n1.cons n2 _) (hpl := n2.any _ _)
  | sum => exact pe_callB call_any hg hm (by decide +kernel) ha (he := n1.cons n2 _) (hpl := n2.any _ _)
  | tuple => exact pe_callTy call_any hg hm (by decide +kernel) ha (he := n1.cons n2 _) (hpl := n2.any _ _)
  | list => exact pe_callTy call_any hg hm (by decide +kernel) ha (he := n1.cons n2 _) (hpl := n2.any _ _)
  | dict => exact pe_callTy call_any hg hm (by decide +kernel) ha (he := n1.cons n2 _) (hpl := n2.any _ _)
  | srt => exact pe_callB call_any hg hm (by decide +kernel) ha (he := n1.cons n2 _) (hpl := n2.any _ _)
  | strO => exact pe_callTy call_any hg hm (by decide +kernel) ha (he := n1.cons n2 _) (hpl := n2.any _ _)
  | repr => exact pe_callB call_any hg hm (by decide +kernel) ha (he := n1.cons n2 _) (hpl := n2.any _ _)
theorem s_lenP {i : Nat} {x : Str} {p' : Pos} (hN : X.N[i]? = some x) (hv : Vis X.env.scope x) (hd : (x == ("__debug__" : Str)) = false) (hcd : (x == ("__classdict__" : Str)) = false) (hg : Gl X "len") (hm : X.mg "len" = none) :
    PE X (.Call (.Name "len" p) [.Name x p'] [] pos) (tR X false fun env => match pk env i with | some d => opt (bltD .len [d]) env | none => .bad) :=
  peImp (pe_callB (id := "len") call_any hg hm (by decide +kernel) (pa_cons (pe_var hN hv hd hcd) pa_nil)) fun σ H Q ⟨F, env, g, rel, o⟩ => by
    dsimp only at o
    cases e0 : pk env i with
    | none => simp only [e0] at o; exact o.elim
    | some d =>
      simp only [e0] at o
      obtain ⟨v, ev, w⟩ := pkV rel e0
      refine ⟨v, ev, ?_⟩
      cases d with
      | lst ds => obtain ⟨a, xs, rfl, h1, r1⟩ := w.lstV; exact ⟨_, call_len_seq, a, xs, rfl, .inl (.inl h1), by rw [r1.length]; exact Out.fin rel o (.int _)⟩
      | tup ds => obtain ⟨a, xs, rfl, h1, r1⟩ := w.tupV; exact ⟨_, call_len_seq, a, xs, rfl, .inr (g.1 ▸ h1), by rw [r1.length]; exact Out.fin rel o (.int _)⟩
      | scr ds => obtain ⟨a, rfl, h1⟩ := w.scrV; exact ⟨_, call_len_seq, a, _, rfl, .inl (g.1 ▸ h1), by rw [List.length_map]; exact Out.fin rel o (.int _)⟩
      | odd n =>
        rcases w with w | ⟨a, _, t⟩
        · cases w with | odd r _ => exact ⟨_, call_lenO, _, _, rfl, r, Out.fin rel o (.int _)⟩
        · cases t
      | dic ds => obtain ⟨a, xs, rfl, h1, r1⟩ := w.dicV; exact ⟨_, call_lenR, a, xs, rfl, h1, by rw [r1.length]; exact Out.fin rel o (.int _)⟩
      | str z =>
        rcases w with w | ⟨a, _, t⟩
        · cases w
          have o : Out false F env σ H (opt (if z.length ≤ sizeLine then some (.int z.length) else none) env) Q := o
          split at o
          · rename_i hl; exact ⟨_, call_len, _, _, rfl, ⟨hl, rfl⟩, Out.fin rel o (.int _)⟩
          · exact o.elim
        · cases t
      | _ => exact o.elim

def OutP (lo : Ex) (F : Fx) (env : En) (σ : SV) (H : Hp) (r : Res (D × En)) (Q : Option Int → Hp → Prop) : Prop := match r with
  | .ok p => (match partD lo p.1 with
    | some l => ∀ H', Pst F env p.2 σ H H' → Q l H'
    | none => True)
  | .exc c d => F.X c d
  | .bad => False
def tRP (X : Cx) (lo : Ex) (f : En → Res (D × En)) : TO := fun σ H Q => ∃ F env, Good X F ∧ Rel F env σ H ∧ OutP lo F env σ H (f env) Q ∧ (∀ p, f env = .ok p → partD lo p.1 ≠ none)
theorem p_none : PO X none (tRP X .nil fun env => .ok (.tup [], env)) := ⟨fun pins s σ H Q I ⟨F, env, g, rel, o, _⟩ => po_none.run pins s σ H Q I (o H (Pst.refl rel))⟩
theorem p_some {lo : Ex} (hlo : ∀ d, partD lo d = match d with | .int i => some (some i) | _ => none) (h : PE X e (tR X fr fa)) : PO X (some e) (tRP X lo fa) := ⟨fun pins s σ H Q I ⟨F, env, g, rel, o, n⟩ => (po_some (peWeak h)).run pins s σ H Q I ⟨F, env, g, rel, by
    cases ef : fa env with
    | ok p =>
      rw [ef] at o
      intro v H' ps rv _
      have n' := n p ef
      unfold OutP at o
      rw [hlo] at n'
      simp only [hlo] at o
      obtain ⟨d, env'⟩ := p
      cases d with
      | int i => cases rv; exact ⟨i, rfl, o H' ps⟩
      | _ => exact absurd rfl n'
    | exc c d => rw [ef] at o; exact o
    | bad => rw [ef] at o; exact o⟩⟩
theorem cut_of {F : Fx} {env : En} {σ : SV} {H : Hp} {xs : List V} {ds : List D} (lo hi : Option Int) (r : RepAllF F env σ H xs ds) : RepAllF F env σ H (cutV xs lo hi) (cut ds lo hi) := by
  have e : ∀ n d o, sIx n d o = HT.sIx n d o := fun n d o => by cases o <;> rfl
  unfold cutV cut
  rw [e, e, ← r.length]
  exact (r.drop _).take _
theorem s_slc {lo hi : Ex} {elo ehi : Option Expr} {p2 : Pos} (ha : PE X a (tR X fr fa)) (hl : PO X elo (tRP X lo fb)) (hh : PO X ehi (tRP X hi fc)) :
    PE X (.Subscript a (.Slice elo ehi none p2) pos) (tR X true fun env => (fa env).bind fun p => (fb p.2).bind fun q => (fc q.2).bind fun r => opt (slcD p.1 (partD lo q.1) (partD hi r.1)) r.2) :=
  peImp (pe_slice sl_any (peWeak ha) hl hh) fun σ H Q ⟨F, env, g, rel, o⟩ => ⟨F, env, g, rel, o.seq fun p v H1 _ ps rv o1 => by
    refine ⟨F, p.2, g, ps.rel, ?_⟩
    cases e1 : fb p.2 with
    | exc c d => rw [e1] at o1; exact ⟨o1, fun _ z => nomatch z⟩
    | bad => rw [e1] at o1; exact o1.elim
    | ok q =>
      rw [e1] at o1
      have o1 : Out true F p.2 σ H1 ((fc q.2).bind fun r => opt (slcD p.1 (partD lo q.1) (partD hi r.1)) r.2) Q := o1
      cases e2 : partD lo q.1 with
      | none =>
        exfalso
        rw [e2] at o1
        cases e3 : fc q.2 with
        | ok r => rw [e3] at o1; exact o1
        | exc c d => rw [e3] at o1; exact g.2.1 c d o1
        | bad => rw [e3] at o1; exact o1
      | some l =>
        refine ⟨?_, fun q' z => by cases z; rw [e2]; exact fun z => nomatch z⟩
        unfold OutP
        simp only [e2]
        intro H2 ps2
        refine ⟨F, q.2, g, ps2.rel, ?_⟩
        have o2 := Out.shift ps2 o1
        cases e3 : fc q.2 with
        | exc c d => rw [e3] at o2; exact ⟨o2, fun _ z => nomatch z⟩
        | bad => rw [e3] at o2; exact o2.elim
        | ok r =>
          rw [e3] at o2
          have o2 : Out true F q.2 σ H2 (opt (slcD p.1 (partD lo q.1) (partD hi r.1)) r.2) Q := o2
          rw [e2] at o2
          cases e4 : partD hi r.1 with
          | none => rw [e4] at o2; exact o2.elim
          | some h =>
            refine ⟨?_, fun q' z => by cases z; rw [e4]; exact fun z => nomatch z⟩
            unfold OutP
            simp only [e4]
            intro H3 ps3
            rw [e4] at o2
            have o3 := Out.shift ps3 o2
            have rv3 := ps3.rep (ps2.rep rv)
            obtain ⟨d, env1⟩ := p
            cases d with
            | lst ds =>
              obtain ⟨a', xs, rfl, h1, r1⟩ := rv3.lstV
              refine ⟨_, sl_list, a', xs, rfl, .inl h1, fun t n => Out.newL ps3.rel o3 (cut_of l h r1) ?_ n⟩
              exact Nat.le_trans (cutV_length xs l h) (ps3.rel.sz.lst _ _ h1)
            | tup ds =>
              have rv4 := rv3
              obtain ⟨a', xs, rfl, h1, r1⟩ := rv3.tupV
              have hz : xs.length ≤ sizeLine := by
                rcases h1 with h1 | ⟨ob, its, m, _, _, _, hz, hv⟩
                · exact ps3.rel.sz.tup _ _ h1
                · rw [hv.length, Array.length_toList]; exact hz
              refine ⟨_, sl_tupA, a', xs, rfl, g.1 ▸ h1, fun ⟨z1, z2⟩ => ?_, fun _ t n => Out.newT ps3.rel o3 (cut_of l h r1) (Nat.le_trans (cutV_length xs l h) hz) n⟩
              have e : ∀ n d o, sIx n d o = HT.sIx n d o := fun n d o => by cases o <;> rfl
              have ec : cut ds l h = ds := by
                unfold cut
                rw [e, e, ← r1.length, z1, z2, List.drop_zero, Nat.sub_zero, r1.length, List.take_length]
              have o3 : Out true F r.2 σ H3 (.ok (.tup (cut ds l h), r.2)) Q := o3
              rw [ec] at o3
              exact Out.fin' ps3.rel o3 rfl rv4
            | _ => exact o3.elim⟩
theorem s_rev {k : Nat} {p1 p2 p3 : Pos} (ha : PE X a (tR X fr fa)) : PE X (.Subscript a (.Slice none none (some (.UnaryOp .USub (.Constant (.int 1) k p1) p2)) p3) pos) (tR X true fun env => (fa env).bind fun p => opt (revD p.1) p.2) :=
  peImp (pe_rev (peWeak ha)) fun σ H Q ⟨F, env, g, rel, o⟩ => ⟨F, env, g, rel, o.seq fun ⟨d, env1⟩ v H1 _ ps rv o1 => by
    cases d with
    | lst ds =>
      obtain ⟨a', xs, rfl, h1, r1⟩ := rv.lstV
      exact ⟨a', xs, rfl, .inl ⟨.inl h1, fun t n => Out.newL ps.rel o1 r1.reverse (by rw [List.length_reverse]; exact ps.rel.sz.lst _ _ h1) n⟩⟩
    | tup ds =>
      obtain ⟨a', xs, rfl, h1, r1⟩ := rv.tupV
      have hz : xs.length ≤ sizeLine := by
        rcases h1 with h1 | ⟨ob, its, m, _, _, _, hz, hv⟩
        · exact ps.rel.sz.tup _ _ h1
        · rw [hv.length, Array.length_toList]; exact hz
      exact ⟨a', xs, rfl, .inr ⟨g.1 ▸ h1, fun t n => Out.newT ps.rel o1 r1.reverse (by rw [List.length_reverse]; exact hz) n⟩⟩
    | _ => exact o1.elim⟩

def rItemsR : V → Hp → VK → Prop := fun x H Q => ∃ (d : Addr) (kvs : List (Key × V)), x = .ref d ∧ Rd H d (.dK kvs) ∧
  ∀ (H' : Hp) (p : Addr) (ts : List Addr), (∀ b o, H b = some o → H' b = some o) → H p = none → (∀ t ∈ ts, H t = none) → p ∉ ts → H' p = some (.lst (ts.map V.ref)) → Paired (fun (t : Addr) (q : Key × V) => H' t = some (.tup [kV q.1, q.2])) ts kvs → HL H' → Q (.ref p) H'
theorem pe_itemsR {te : TE} {apos cpos : Pos} (hc : X.calm = true) (he : PE X e te) (hg : Gl X "list") (hm : X.mg "list" = none) (hbase : attributeBase e "items" X.env (eval e X.env) = eval e X.env) (hline : (apos.endLine == cpos.line) = true) :
    PE X (.Call (.Name "list" p) [.Call (.Attribute e "items" apos) [] [] cpos] [] pos) (fun σ H Q => te σ H fun x H1 => rItemsR x H1 Q) := by
  have hs : starEach [.Call (.Attribute e "items" apos) [] [] cpos] X.env = (false, eval (.Call (.Attribute e "items" apos) [] [] cpos) X.env) :: starEach [] X.env := rfl
  refine ⟨fun pins s σ H Q I hq => ?_⟩
  refine wpAny_Call_Name_kw (ld_blt (u := .type "list") I hg hm (by decide +kernel) ?_)
  refine PyProof.Rows.callWith_type1 ?_ hs rfl
  rw [hs]
  show wpAny _ _ (spliced ((false, eval (.Call (.Attribute e "items" apos) [] [] cpos) X.env) :: backTo pos (starEach [] X.env))) _ _ s
  refine Calls.spliced_cons ?_
  refine wpAny_Call_method (T := "dict") (id := "dict.items") hbase rfl hline F.plainAttrs_dict F.slot_dict_items F.type_dict_items (thn (he.run pins s σ H _ I hq) fun u s1 ⟨x, H1, I1, rx, d, kvs, ex, hd, q⟩ => ?_)
  subst ex
  obtain rfl : u = Value.ref d := rx
  obtain ⟨hz, hs0, vs, kv, hdo⟩ := dk_rd I1.hok hd
  obtain ⟨ep, hat⟩ := hdo.dictAt
  have lk : kvs.length = vs.length := Paired.length kv
  have I2 : Inv X pins σ H1 { s1 with heap := s1.heap.push { cls := .type "dict_items", data := .fields #[.ref d] } } := I1.kept (t' := s1.toks) fun b ob q => Heap.get?_push_of_some _ q
  refine ⟨hdo.typeIs, hdo.mapOf.noDict, ?_⟩
  show wpAny _ _ (callWith cpos (.builtin "dict.items") [.ref d] [] []) _ X.xe s1
  refine method_meetsIn F.slot_dict_items F.entry_dict_items rfl (PySem.evalArgs_none ⟨rfl, hdo.typeIs, F.args_dict_items_1 _, _, meets_dict_items (mixKind X.prog X.w) d hs0, ⟨vs, hdo⟩, ?_⟩)
  refine Calls.spliced_nil ?_
  refine PySem.W.kdx_call (knd := mixKind X.prog X.w) (kvs := vs) (ep := ep) (I1.ok.hd hc) ⟨_, Heap.get?_push_size _ rfl, rfl, rfl⟩ (hat.push _) (by omega) fun h' tk acc c as hk hS hl hG hacc => ?_
  obtain ⟨H', k1, k2, k3, k4, k5, k6, J⟩ := LiI.items_laid (tk := tk) I2 hz kv hk hS hl hG hacc
  exact ⟨.ref _, H', J, rfl, q H' _ as k1 k2 k3 k4 k5 k6 (hl_of J.hok)⟩
theorem Rel.ext {F : Fx} {env : En} {σ : SV} {H H' : Hp} (r : Rel F env σ H) (k : ∀ b o, H b = some o → H' b = some o) (hl : HL H') : Rel F env σ H' := by
  have kk : Kp (Avd F.C env σ) H H' := Kp.of fun b o e _ => k b o e
  have hA : ∀ b, H b ≠ none → Avd F.C env σ b → Avd F.C env σ b := fun _ _ z => z
  have nn : ∀ b, H b ≠ none → H' b ≠ none := fun b h => by
    cases e : H b with
    | none => exact absurd e h
    | some o => rw [k b o e]; exact fun z => nomatch z
  refine ⟨r.len, fun i d h => ?_, fun i d h => ?_, fun i d h => ?_, fun i d h => ?_, r.inj, fun b o e n => k b o (r.fr b o e n), fun a z => nn a (r.cd a z), fun a z => nn a (r.id a z), hl⟩
  · obtain ⟨v, e1, q⟩ := r.dat i d h
    exact ⟨v, e1, q.mono kk hA⟩
  · obtain ⟨a, e1, t, z⟩ := r.own i d h
    exact ⟨a, e1, t.mono kk hA (k a), z⟩
  · obtain ⟨a, e1, t, z⟩ := r.io i d h
    exact ⟨a, e1, t.mono kk hA (k a), z⟩
  · obtain ⟨v, e1, q⟩ := r.bor i d h
    refine ⟨v, e1, ?_⟩
    rcases q with q | ⟨a, e2, t, z⟩
    · exact .inl (q.mono kk hA)
    · exact .inr ⟨a, e2, t.mono kk hA (k a), z⟩
theorem Lat.ext {env : En} {σ : SV} {H H' : Hp} (k : ∀ b o, H b = some o → H' b = some o) : Lat env σ H env σ H' where
  kp := fun b o e _ => k b o e
  sub := fun _ _ z => z
  nn := fun b h => by
    cases e : H b with
    | none => exact absurd e h
    | some o => rw [k b o e]; exact fun z => nomatch z
  io := Io.refl
theorem kd_kV (k : Key) {F : Fx} {env : En} {σ : SV} {H : Hp} : RepF F env σ H (kV k) (Ky.k k).d := by
  cases k with
  | inl i => exact .int i
  | inr x => exact .str x
theorem items_rep {F : Fx} {env : En} {σ : SV} {H : Hp} : ∀ {ts : List Addr} {kvs : List (Key × V)} {ds : List (Ky × D)}, Paired (fun (t : Addr) (q : Key × V) => H t = some (.tup [kV q.1, q.2])) ts kvs → RepKv F.K F.cl (Avd F.C env σ) H kvs ds →
    (∀ t ∈ ts, ¬ Avd F.C env σ t) → RepAllF F env σ H (ts.map V.ref) (ds.map fun p => .tup [p.1.d, p.2])
  | [], [], _, _, h, _ => by cases h; exact .nil
  | [], _ :: _, _, h, _, _ => nomatch h
  | _ :: _, [], _, h, _, _ => nomatch h
  | t :: ts, (k, v) :: kvs, _, h, h2, n => by
    cases h with
    | cons h ht =>
      cases h2 with
      | cons r q => exact .cons (.tup (.inl h) (n _ List.mem_cons_self) (.cons (kd_kV k) (.cons r .nil))) (items_rep ht q fun x hx => n x (List.mem_cons_of_mem _ hx))
theorem s_items {apos cpos : Pos} (hc : X.calm = true) (ha : PE X a (tR X fr fa)) (hg : Gl X "list") (hm : X.mg "list" = none) (hbase : attributeBase a "items" X.env (eval a X.env) = eval a X.env) (hline : (apos.endLine == cpos.line) = true) :
    PE X (.Call (.Name "list" p) [.Call (.Attribute a "items" apos) [] [] cpos] [] pos) (tR X false fun env => (fa env).bind fun p => opt (itemsD p.1) p.2) :=
  peImp (pe_itemsR hc (peWeak ha) hg hm hbase hline) fun σ H Q ⟨F, env, g, rel, o⟩ => ⟨F, env, g, rel, o.seq fun ⟨d, env1⟩ v H1 _ ps rv o1 => by
    cases d with
    | dic ds =>
      obtain ⟨a', xs, rfl, h1, r1⟩ := rv.dicV
      refine ⟨a', xs, rfl, h1, fun H' q ts k1 k2 k3 k4 k5 k6 hl => ?_⟩
      have rel' := ps.rel.ext k1 hl
      have la : Lat env1 σ H1 env1 σ H' := Lat.ext k1
      have nav : ∀ t, H1 t = none → ¬ Avd F.C env1 σ t := fun t h z => ps.rel.avSome z h
      refine o1 (.ref q) H' { la with rel := rel' } (.lst (.inl k5) (nav q k2) ?_) (fun z => nomatch z)
      exact items_rep k6 (r1.mono la.kpA fun _ h z => la.av h z) fun t ht => nav t (k3 t ht)
    | _ => exact o1.elim⟩
end
end Dm
set_option Elab.async false
set_option linter.all false
set_option maxRecDepth 100000
set_option maxHeartbeats 1000000
namespace Dm
open PySem PySem.Spec PyProof.Rows L2

structure Walk (K : PySem.W.Frag) (cl : Nat → Addr) (A1 : Av) (H1 : Hp) (ds : List D) (J : It) : Prop where
  stop : ∀ (A2 : Av) (H2 : Hp), (∀ b o, H1 b = some o → ¬ A1 b → H2 b = some o) → (∀ b, H1 b ≠ none → A2 b → A1 b) → ∀ i : Nat, ds.length ≤ i → J.stop i H2
  go : ∀ (A2 : Av) (H2 : Hp), (∀ b o, H1 b = some o → ¬ A1 b → H2 b = some o) → (∀ b, H1 b ≠ none → A2 b → A1 b) → ∀ (i : Nat) (d : D), ds[i]? = some d → J.go i H2
  yld : ∀ (A2 : Av) (H2 : Hp), (∀ b o, H1 b = some o → ¬ A1 b → H2 b = some o) → (∀ b, H1 b ≠ none → A2 b → A1 b) → (∀ b, A2 b → H2 b ≠ none) → ∀ (i : Nat) (d : D) (x : V) (H3 : Hp), ds[i]? = some d → J.yld i H2 x H3 →
    (∀ b o, H2 b = some o → H3 b = some o) ∧ (HL H2 → HL H3) ∧ Rep K cl A2 H3 x d
  sz : ds.length ≤ sizeLine
section
variable {K : PySem.W.Frag} {cl : Nat → Addr} {A1 : Av} {H1 : Hp} {ds : List D}
theorem rdK {A1 : Av} {H1 H2 : Hp} (k : ∀ b o, H1 b = some o → ¬ A1 b → H2 b = some o) {a : Addr} {u : HO} (n : ¬ A1 a) (r : Rd H1 a u) : Rd H2 a u := by
  rcases r with r | ⟨o, r⟩
  · exact .inl (k _ _ r n)
  · exact .inr ⟨o, k _ _ r n⟩
theorem walk_lst {a : Addr} {xs : List V} (hz : HL H1) (h : Rd H1 a (.lst xs)) (n : ¬ A1 a) (r : RepAll K cl A1 H1 xs ds) : Walk K cl A1 H1 ds (Itl K a) where
  sz := by rw [← r.length]; exact hz.lst _ _ h
  stop := fun A2 H2 k _ i hi => ⟨xs, .inl (rdK k n h), by rw [r.length]; exact hi⟩
  go := fun A2 H2 k _ i d hd => let ⟨y, e, _⟩ := r.get hd; ⟨xs, y, .inl (rdK k n h), e⟩
  yld := fun A2 H2 k hA _ i d x H3 hd y => by
    obtain ⟨rfl, y⟩ := y
    obtain ⟨z, e, rz⟩ := r.get hd
    have e2 := y xs (.inl (rdK k n h))
    rw [e] at e2
    cases e2
    exact ⟨fun _ _ q => q, fun q => q, rz.mono (Kp.of k) hA⟩
theorem walk_tup {a : Addr} {xs : List V} (hz : HL H1) (h : (Rd H1 a (.tup xs) ∧ ¬ A1 a) ∨ TK K a xs) (r : RepAll K cl A1 H1 xs ds) : Walk K cl A1 H1 ds (Itt K a) := by
  have q : ∀ {H2 : Hp}, (∀ b o, H1 b = some o → ¬ A1 b → H2 b = some o) → SqT K H2 a xs := fun {H2} k => by
    rcases h with ⟨h, n⟩ | h
    · exact .inl (rdK k n h)
    · exact .inr h
  refine ⟨fun A2 H2 k _ i hi => ⟨xs, q k, by rw [r.length]; exact hi⟩, fun A2 H2 k _ i d hd => let ⟨y, e, _⟩ := r.get hd; ⟨xs, y, q k, e⟩, fun A2 H2 k hA _ i d x H3 hd y => ?_, ?_⟩
  · obtain ⟨rfl, y⟩ := y
    obtain ⟨z, e, rz⟩ := r.get hd
    have e2 := y xs (q k)
    rw [e] at e2
    cases e2
    exact ⟨fun _ _ q => q, fun q => q, rz.mono (Kp.of k) hA⟩
  · rw [← r.length]
    rcases h with ⟨h, n⟩ | ⟨ob, its, m, _, _, _, hz, hv⟩
    · exact hz.tup _ _ h
    · rw [hv.length, Array.length_toList]; exact hz
theorem walk_str {x : Str} (hx : x.length ≤ sizeLine) : Walk K cl A1 H1 (signs x) (Its x) where
  sz := by unfold signs; rw [List.length_map, Array.length_toList]; exact hx
  stop := fun A2 H2 k _ i hi => by
    show x.cps.size ≤ i
    unfold signs at hi
    rw [List.length_map, Array.length_toList] at hi
    exact hi
  go := fun A2 H2 k _ i d hd => by
    have := (List.getElem?_eq_some_iff.mp hd).1
    unfold signs at this
    rw [List.length_map, Array.length_toList] at this
    exact this
  yld := fun A2 H2 k hA _ i d y H3 hd yl => by
    obtain ⟨rfl, c, ec, rfl⟩ := yl
    unfold signs at hd
    rw [List.getElem?_map, Array.getElem?_toList, ec] at hd
    cases hd
    exact ⟨fun _ _ q => q, fun q => q, .str _⟩
theorem walk_rng {n : Nat} (hn : n ≤ sizeLine) : Walk K cl A1 H1 ((List.range n).map fun i => .int (i : Nat)) (Itr 0 n) where
  sz := by rw [List.length_map, List.length_range]; exact hn
  stop := fun A2 H2 k _ i hi => by
    rw [List.length_map, List.length_range] at hi
    exact hi
  go := fun A2 H2 k _ i d hd => by
    have := (List.getElem?_eq_some_iff.mp hd).1
    rw [List.length_map, List.length_range] at this
    exact this
  yld := fun A2 H2 k hA _ i d y H3 hd yl => by
    obtain ⟨rfl, rfl⟩ := yl
    have hi := (List.getElem?_eq_some_iff.mp hd).1
    rw [List.length_map, List.length_range] at hi
    rw [List.getElem?_map, List.getElem?_range hi] at hd
    cases hd
    rw [Int.zero_add]
    exact ⟨fun _ _ q => q, fun q => q, .int _⟩
theorem walk_keys {a : Addr} {o : Obj} {xs : List (Key × V)} {kvs : List (Ky × D)} (hz : HL H1) (h : H1 a = some (.frz o (.dK xs))) (n : ¬ A1 a) (r : RepKv K cl A1 H1 xs kvs) : Walk K cl A1 H1 (kvs.map fun p => p.1.d) (Itk a o xs) where
  sz := by rw [List.length_map, ← r.length]; exact hz.dK a xs (.inr ⟨o, h⟩)
  stop := fun A2 H2 k _ i hi => ⟨k _ _ h n, by rw [List.length_map, ← r.length] at hi; exact hi⟩
  go := fun A2 H2 k _ i d hd => ⟨k _ _ h n, by
    have := (List.getElem?_eq_some_iff.mp hd).1
    rw [List.length_map, ← r.length] at this
    exact this⟩
  yld := fun A2 H2 k hA _ i d y H3 hd yl => by
    obtain ⟨rfl, q, v, e, rfl⟩ := yl
    refine ⟨fun _ _ q => q, fun q => q, ?_⟩
    have key : ∀ {xs : List (Key × V)} {kvs : List (Ky × D)} {i : Nat} {q : Key} {v : V} {d : D}, RepKv K cl A1 H1 xs kvs → xs[i]? = some (q, v) → (kvs.map fun p => p.1.d)[i]? = some d → d = (Ky.k q).d := by
      intro xs kvs i
      induction xs generalizing kvs i with
      | nil => intro q v d _ e _; simp at e
      | cons x xs ih =>
        intro q v d r e hd
        cases r with
        | cons r' t =>
          cases i with
          | zero => simp at e hd; rw [← e.1]; exact hd.symm
          | succ i => exact ih t (by simpa using e) (by simpa using hd)
    rw [key r e hd]
    cases q with
    | inl i => exact .int i
    | inr z => exact .str z
end
section
variable {X : Cx} {e a b c tg : Expr} {es rest : List Expr} {fr fr' fr2 : Bool} {pos p : Pos} {fa fb fc : En → Res (D × En)} {fs : En → Res (List D × En)} {ft : En → Res (Bool × En)}
def OutI (it : Ex) (F : Fx) (env : En) (σ : SV) (H : Hp) (r : Res (D × En)) (R : It → Hp → Prop) : Prop := match r with
  | .ok p => (match rowsE it p.1 with
    | some ds => (∀ kvs i v, p.1 = .dic kvs → it = .var i → σ[i]? = some (some v) → ∃ d o xs, v = .ref d ∧ H d = some (.frz o (.dK xs))) ∧
        ∀ J H1, Pst F env p.2 σ H H1 → Walk F.K F.cl (Avd F.C p.2 σ) H1 ds J → R J H1
    | none => False)
  | .exc c d => F.X c d
  | .bad => False
def tRI (X : Cx) (it : Ex) (f : En → Res (D × En)) : TI := fun σ H R => ∃ F env, Good X F ∧ Rel F env σ H ∧ OutI it F env σ H (f env) R
theorem s_iter {it : Ex} (he : PE X e (tR X fr fa)) (hv : ∀ i, it = .var i → PE X e (tVar i) ∧ ∀ env, fa env = match env[i]? with | some (.dat d) => .ok (d, env) | _ => .bad) : PI X tg e (tRI X it fa) := ⟨fun pins s σ H R I ⟨F, env, g, rel, h⟩ => by
    cases ef : fa env with
    | exc c d => rw [ef] at h; exact (g.2.1 c d h).elim
    | bad => rw [ef] at h; exact h.elim
    | ok q =>
      rw [ef] at h
      obtain ⟨d, env1⟩ := q
      have ot : ∀ {Q : VK}, (∀ v H', Pst F env env1 σ H H' → RepF F env1 σ H' v d → Q v H') → tR X false fa σ H Q := fun hq => ⟨F, env, g, rel, by rw [ef]; exact fun v H' ps rv _ => hq v H' ps rv⟩
      cases d with
      | lst ds =>
        refine (pi_list (peWeak he)).run pins s σ H R I (ot fun v H' ps rv => ?_)
        cases rv with
        | lst h1 n r1 => exact ⟨_, rfl, ⟨_, .inl h1⟩, h.2 _ _ ps (g.1 ▸ walk_lst ps.rel.sz h1 n r1)⟩
      | tup ds =>
        refine (pi_tup (peWeak he)).run pins s σ H R I (ot fun v H' ps rv => ?_)
        cases rv with
        | tup h1 n r1 => exact ⟨_, rfl, ⟨_, .inl h1⟩, h.2 _ _ ps (g.1 ▸ walk_tup ps.rel.sz (.inl ⟨h1, n⟩) r1)⟩
        | tupK h1 r1 => exact ⟨_, rfl, ⟨_, .inr (g.1 ▸ h1)⟩, h.2 _ _ ps (g.1 ▸ walk_tup ps.rel.sz (.inr h1) r1)⟩
      | str x =>
        have h : OutI it F env σ H (.ok (.str x, env1)) R := h
        by_cases hx : x.length ≤ sizeLine
        · have er : rowsE it (.str x) = some (signs x) := by show (if x.length ≤ sizeLine then some (signs x) else none) = _; rw [if_pos hx]
          unfold OutI at h
          simp only [er] at h
          refine (pi_str (peWeak he)).run pins s σ H R I (ot fun v H' ps rv => ?_)
          cases rv
          exact ⟨x, rfl, h.2 _ _ ps (walk_str hx)⟩
        · have er : rowsE it (.str x) = none := by show (if x.length ≤ sizeLine then some (signs x) else none) = _; rw [if_neg hx]
          unfold OutI at h
          simp only [er] at h
      | dic kvs =>
        cases it with
        | var i =>
          obtain ⟨pv, efa⟩ := hv i rfl
          rw [efa] at ef
          cases es : env[i]? with
          | none => rw [es] at ef; cases ef
          | some sl =>
            rw [es] at ef
            cases sl with
            | dat d' =>
              cases ef
              obtain ⟨v, ev, rv⟩ := rel.dat i _ es
              obtain ⟨d, o, xs, rfl, h1⟩ := h.1 kvs i v rfl rfl ev
              refine (pi_keys pv).run pins s σ H R I ⟨_, ev, ?_⟩
              cases rv with
              | dic h2 n r1 =>
                rcases h2 with h2 | ⟨o', h2⟩
                · rw [h1] at h2; cases h2
                · rw [h1] at h2
                  cases h2
                  exact ⟨d, o, rfl, .inl ⟨_, h1, h.2 _ _ (Pst.refl rel) (walk_keys rel.sz h1 n r1)⟩⟩
            | _ => cases ef
        | _ => exact h.elim
      | _ => exact h.elim⟩
theorem s_rng {it : Ex} (ha : PE X a (tR X fr fa)) (hs : NoStar [a]) (hg : Gl X "range") (hm : X.mg "range" = none) : PI X tg (.Call (.Name "range" p) [a] [] pos) (tRI X it fun env => (fa env).bind fun q => opt (rngD q.1) q.2) := ⟨fun pins s σ H R I ⟨F, env, g, rel, h⟩ => by
    refine (pi_range1 hg hm (pa_cons (peWeak ha) pa_nil (hs.cons .nil _)) (by rw [hs]; rfl)).run pins s σ H R I ⟨F, env, g, rel, ?_⟩
    dsimp only at h
    cases ef : fa env with
    | exc c d => rw [ef] at h; exact h
    | bad => rw [ef] at h; exact h.elim
    | ok q =>
      rw [ef] at h
      obtain ⟨d, env1⟩ := q
      intro v H' ps rv _
      have h : OutI it F env σ H (opt (rngD d) env1) R := h
      cases d with
      | int n =>
        cases rv
        dsimp only [rngD] at h
        by_cases hn : -100000 ≤ n ∧ n ≤ 100000
        · rw [if_pos hn] at h
          exact ⟨n, rfl, by omega, by omega, h.2 _ _ ps (walk_rng (by rw [sizeLine_eq]; omega))⟩
        · rw [if_neg hn] at h
          exact h.elim
      | _ => exact h.elim⟩

def tgSlots : Ex → List Nat
  | .var i => [i]
  | .tup es => tgSlots es
  | .cons e es => tgSlots e ++ tgSlots es
  | _ => []
theorem Lat.set {env : En} {σ : SV} {H : Hp} {i : Nat} {s : Slot} {x : Option V} (ni : ∀ d, env[i]? ≠ some (.io d)) (hs : ∀ d, s ≠ .own d ∧ s ≠ .io d) (hi : i < env.length) : Lat env σ H (env.set i s) (σ.set i x) H :=
  ⟨fun _ _ e _ => e, fun a _ ⟨j, d, h, e⟩ => by
    by_cases hj : j = i
    · subst hj
      rw [List.getElem?_set_self hi] at h
      rcases h with h | h
      · exact absurd (Option.some.inj h) (hs d).1
      · exact absurd (Option.some.inj h) (hs d).2
    · rw [List.getElem?_set_ne (Ne.symm hj)] at h e
      exact ⟨j, d, h, e⟩, fun _ z => z, fun j d' h => by
    have hj : j ≠ i := fun z => ni d' (z ▸ h)
    exact ⟨d', by rw [List.getElem?_set_ne (Ne.symm hj)]; exact h, by rw [List.getElem?_set_ne (Ne.symm hj)]⟩⟩
theorem wipe_get (σ : SV) (j : Nat) : ∀ vs : List Nat, (wipe σ vs)[j]? = if j ∈ vs then (σ[j]?).map (fun _ => none) else σ[j]?
  | [] => by simp [wipe]
  | v :: vs => by
    show ((wipe σ vs).set v none)[j]? = _
    by_cases h : v = j
    · subst h
      rw [if_pos List.mem_cons_self]
      by_cases hv : v < σ.length
      · rw [List.getElem?_set_self (by rw [wipe_length]; exact hv), List.getElem?_eq_getElem hv]
        rfl
      · rw [List.set_eq_of_length_le (by rw [wipe_length]; omega), List.getElem?_eq_none (by rw [wipe_length]; omega), List.getElem?_eq_none (by omega)]
        rfl
    · rw [List.getElem?_set_ne h, wipe_get σ j vs]
      by_cases hm : j ∈ vs
      · rw [if_pos hm, if_pos (List.mem_cons_of_mem _ hm)]
      · rw [if_neg hm, if_neg (fun z => by
          rcases List.mem_cons.mp z with z | z
          · exact h z.symm
          · exact hm z)]
theorem wipe_set {σ : SV} {i : Nat} {x : Option V} {vs : List Nat} (h : i ∈ vs) : wipe (σ.set i x) vs = wipe σ vs := by
  apply List.ext_getElem?
  intro j
  rw [wipe_get, wipe_get]
  by_cases hj : j = i
  · subst hj
    rw [if_pos h, if_pos h]
    by_cases hl : j < σ.length
    · rw [List.getElem?_set_self hl, List.getElem?_eq_getElem hl]; rfl
    · rw [List.getElem?_eq_none (by rw [List.length_set]; omega), List.getElem?_eq_none (by omega)]
  · rw [List.getElem?_set_ne (Ne.symm hj)]
def tG (X : Cx) (tgt : Ex) : TG := fun v σ H Q => ∃ F env d env', Good X F ∧ Rel F env σ H ∧ RepF F env σ H v d ∧ bindT tgt d env = some env' ∧
  ∀ σ', Rel F env' σ' H → Lat env σ H env' σ' H → (∀ vs, (∀ i ∈ tgSlots tgt, i ∈ vs) → wipe σ' vs = wipe σ vs) → Q σ' H
def tGs (X : Cx) (tgt : Ex) : TGs := fun vs σ H Q => ∃ F env ds env', Good X F ∧ Rel F env σ H ∧ RepAllF F env σ H vs ds ∧ bindT tgt (.tup ds) env = some env' ∧
  ∀ σ', Rel F env' σ' H → Lat env σ H env' σ' H → (∀ vs, (∀ i ∈ tgSlots tgt, i ∈ vs) → wipe σ' vs = wipe σ vs) → Q σ' H
theorem g_name {i : Nat} {x : Str} (hN : X.N.Nodup) (hi : X.N[i]? = some x) (hx : Loc X.env.scope x) (hf : X.fn x = true ∨ X.env.scope.names.lookup x = some .local) : PG X (.Name x pos) (tG X (.var i)) := ⟨fun pins s σ H v u Q I r ⟨F, env, d, env', g, rel, rv, hb, q⟩ => by
    refine (pg_name (i := i) hN hi hx hf).run pins s σ H v u Q I r ?_
    show Q (σ.set i (some v)) H
    have hb : setV env i d = some env' := hb
    unfold setV at hb
    split at hb
    · cases hb
    · cases hb
    · rename_i s0 n1 n2 e0
      cases hb
      have hl : i < env.length := (List.getElem?_eq_some_iff.mp e0).1
      have nio : ∀ d', env[i]? ≠ some (.io d') := fun d' z => n1 d' (by rw [e0] at z; exact Option.some.inj z)
      refine q _ (rel.setGen nio (fun d' => ⟨fun z => (nomatch z), fun z => (nomatch z)⟩) hl (fun d' e => by cases e; exact ⟨v, rfl, rv⟩) (fun d' z => nomatch z)) (Lat.set nio (fun d' => ⟨fun z => (nomatch z), fun z => (nomatch z)⟩) hl) fun vs h => wipe_set (h i (by simp [tgSlots]))
    · cases hb⟩
theorem g_nil : PGs X [] (tGs X .nil) := ⟨fun pins s σ H vs us Q I r ⟨F, env, ds, env', g, rel, rv, hb, q⟩ => by
    refine pgs_nil.run pins s σ H vs us Q I r ?_
    cases ds with
    | nil =>
      cases rv
      cases hb
      exact ⟨rfl, q σ rel Lat.refl fun _ _ => rfl⟩
    | cons d ds => cases hb⟩
theorem g_cons {te ts : Ex} (h1 : PG X e (tG X te)) (h2 : PGs X es (tGs X ts)) (hs : (assignEach (e :: es) X.env).map (·.2) = assign e X.env :: (assignEach es X.env).map (·.2)) : PGs X (e :: es) (tGs X (.cons te ts)) := ⟨fun pins s σ H vs us Q I r ⟨F, env, ds, env', g, rel, rv, hb, q⟩ => by
    refine (pgs_cons h1 h2 hs).run pins s σ H vs us Q I r ?_
    cases ds with
    | nil => cases hb
    | cons d ds =>
      cases rv with
      | cons r1 r2 =>
        have hb : (match bindT te d env with | some env1 => bindT ts (.tup ds) env1 | none => none) = some env' := hb
        cases e1 : bindT te d env with
        | none => rw [e1] at hb; cases hb
        | some env1 =>
          rw [e1] at hb
          refine ⟨_, _, rfl, F, env, d, env1, g, rel, r1, e1, fun σ1 rel1 la1 w1 => ?_⟩
          refine ⟨F, env1, ds, env', g, rel1, la1.repAll r2, hb, fun σ2 rel2 la2 w2 => q σ2 rel2 (la1.trans la2) fun vs hv => ?_⟩
          rw [w2 vs fun i hi => hv i (List.mem_append_right _ hi), w1 vs fun i hi => hv i (List.mem_append_left _ hi)]⟩
theorem bindT_len : ∀ {ts : Ex} {ds : List D} {env env' : En} {n : Nat}, bindT ts (.tup ds) env = some env' → (∀ i, ts ≠ .var i) → True := fun _ _ => trivial
theorem g_tup {ts : Ex} {k : Nat} {n : Nat} (hc : X.calm = true) (h : PGs X es (tGs X ts)) (hn : (assignEach es X.env).length = n) (hst : (assignEach es X.env).findIdx? (·.1) = none)
    (hl : ∀ ds env env', bindT ts (.tup ds) env = some env' → ds.length = n) : PG X (.Tuple es k pos) (tG X (.tup ts)) := ⟨fun pins s σ H v u Q I r ⟨F, env, d, env', g, rel, rv, hb, q⟩ => by
    cases d with
    | tup ds =>
      refine (pg_tup hc h hn hst).run pins s σ H v u Q I r ?_
      have hb : bindT ts (.tup ds) env = some env' := hb
      obtain ⟨a, xs, rfl, h1, r1⟩ := rv.tupV
      exact ⟨a, xs, rfl, g.1 ▸ h1, by rw [r1.length]; exact hl ds env env' hb, F, env, ds, env', g, rel, r1, hb, q⟩
    | lst ds =>
      refine (pg_lst hc h hn hst).run pins s σ H v u Q I r ?_
      have hb : bindT ts (.tup ds) env = some env' := hb
      obtain ⟨a, xs, rfl, h1, r1⟩ := rv.lstV
      exact ⟨a, xs, rfl, .inl h1, by rw [r1.length]; exact hl ds env env' hb, F, env, ds, env', g, rel, r1, hb, q⟩
    | _ => cases hb⟩
end
end Dm
set_option Elab.async false
set_option linter.all false
set_option maxRecDepth 100000
set_option maxHeartbeats 1000000
namespace Dm
open PySem PySem.Spec PyProof.Rows L2
theorem wipeE_get (env : En) (j : Nat) : ∀ vs : List Nat, (wipeE env vs)[j]? = if j ∈ vs then (env[j]?).map (fun _ => .un) else env[j]?
  | [] => by simp [wipeE]
  | v :: vs => by
    have len : ∀ vs : List Nat, (wipeE env vs).length = env.length := fun vs => by
      induction vs with
      | nil => rfl
      | cons v vs ih => show ((wipeE env vs).set v .un).length = _; rw [List.length_set, ih]
    show ((wipeE env vs).set v .un)[j]? = _
    by_cases h : v = j
    · subst h
      rw [if_pos List.mem_cons_self]
      by_cases hv : v < env.length
      · rw [List.getElem?_set_self (by rw [len]; exact hv), List.getElem?_eq_getElem hv]
        rfl
      · rw [List.set_eq_of_length_le (by rw [len]; omega), List.getElem?_eq_none (by rw [len]; omega), List.getElem?_eq_none (by omega)]
        rfl
    · rw [List.getElem?_set_ne h, wipeE_get env j vs]
      by_cases hm : j ∈ vs
      · rw [if_pos hm, if_pos (List.mem_cons_of_mem _ hm)]
      · rw [if_neg hm, if_neg (fun z => by
          rcases List.mem_cons.mp z with z | z
          · exact h z.symm
          · exact hm z)]
theorem wipeE_len (env : En) : ∀ vs : List Nat, (wipeE env vs).length = env.length
  | [] => rfl
  | v :: vs => by show ((wipeE env vs).set v .un).length = _; rw [List.length_set, wipeE_len env vs]
theorem wipe_wipe (σ : SV) (vs : List Nat) : wipe (wipe σ vs) vs = wipe σ vs := by
  apply List.ext_getElem?
  intro j
  rw [wipe_get, wipe_get]
  by_cases h : j ∈ vs
  · rw [if_pos h, if_pos h, Option.map_map]; rfl
  · rw [if_neg h, if_neg h]
theorem wipeOk_io {env : En} : ∀ {vs : List Nat}, wipeOk env vs = true → ∀ (i : Nat) (d : D), env[i]? = some (.io d) → i ∉ vs
  | [], _, _, _, _ => by simp
  | v :: vs, h, i, d, e => by
    unfold wipeOk at h
    rw [Bool.and_eq_true] at h
    intro z
    rcases List.mem_cons.mp z with z | z
    · subst z
      rw [e] at h
      exact absurd h.2 (by simp)
    · exact wipeOk_io h.1 i d e z
/-- the block's own slots are forgotten -/
theorem Rel.wiped {F : Fx} {env : En} {σ σ2 : SV} {H : Hp} {vs : List Nat} (r : Rel F env σ2 H) (hw : wipe σ2 vs = wipe σ vs) : Rel F (wipeE env vs) (wipe σ vs) H ∧ ∀ a, Own (wipeE env vs) (wipe σ vs) a → Own env σ2 a := by
  refine r.part ?_ fun j s h ns => ?_
  · rw [wipeE_len, r.len, ← wipe_length σ2 vs, hw]
  · rw [wipeE_get] at h
    by_cases hj : j ∈ vs
    · rw [if_pos hj] at h
      cases e : env[j]? with
      | none => rw [e] at h; cases h
      | some x => rw [e] at h; exact absurd (Option.some.inj h).symm ns
    · rw [if_neg hj] at h
      refine ⟨h, ?_⟩
      rw [← hw, wipe_get, if_neg hj]
/-- .. and the outer ones are there again -/
theorem Rel.unwiped {F : Fx} {env : En} {σ : SV} {H : Hp} {vs : List Nat} (r : Rel F env (wipe σ vs) H) : Rel F (wipeE env vs) σ H ∧ ∀ a, Own (wipeE env vs) σ a → Own env (wipe σ vs) a := by
  refine r.part ?_ fun j s h ns => ?_
  · rw [wipeE_len, r.len, wipe_length]
  · rw [wipeE_get] at h
    by_cases hj : j ∈ vs
    · rw [if_pos hj] at h
      cases e : env[j]? with
      | none => rw [e] at h; cases h
      | some x => rw [e] at h; exact absurd (Option.some.inj h).symm ns
    · rw [if_neg hj] at h
      refine ⟨h, ?_⟩
      rw [wipe_get, if_neg hj]
theorem io_wiped {env1 env : En} {σ σ2 σ3 : SV} {vs : List Nat} (hw : wipeOk env1 vs = true) (io : Io env1 σ env σ2) (h3 : ∀ j, j ∉ vs → σ3[j]? = σ2[j]?) : Io env1 σ (wipeE env vs) σ3 := fun i d h => by
  obtain ⟨d', e, es⟩ := io i d h
  have ni := wipeOk_io hw i d h
  exact ⟨d', by rw [wipeE_get, if_neg ni]; exact e, (h3 i ni).trans es⟩
theorem truR_ok {r : Res (D × En)} {b : Bool} {env : En} (h : truR r = .ok (b, env)) : ∃ d, r = .ok (d, env) ∧ tru d = some b := by
  cases r with
  | ok p =>
    obtain ⟨d, e⟩ := p
    have h : (match tru d with | some b => Res.ok (b, e) | none => Res.bad) = Res.ok (b, env) := h
    cases t : tru d with
    | none => rw [t] at h; cases h
    | some k => rw [t] at h; cases h; exact ⟨d, rfl, t⟩
  | exc c d => cases h
  | bad => cases h
section
variable {X : Cx} {F : Fx} {env1 : En} {σ : SV} {H1 : Hp} {ds : List D} {J : It} {tgt : Ex} {own : List Nat} {fc fe : En → Res (D × En)} {q : List D × En}
/-- where a comprehension stands -/
structure Cmp (F : Fx) (env1 : En) (σ : SV) (H1 : Hp) (D0 : Addr) (own : List Nat) (env : En) (H : Hp) (xs : List V) (acc : List D) : Prop where
  rel : Rel (F.add D0) env (wipe σ own) H
  la : Lat env1 σ H1 env (wipe σ own) H
  at_ : H D0 = some (.lst xs)
  rep : RepAllF (F.add D0) env (wipe σ own) H xs acc
theorem comp_core (g : Good X F) (rel1 : Rel F env1 σ H1) (walk : Walk F.K F.cl (Avd F.C env1 σ) H1 ds J) (hw : wipeOk env1 own = true) (hsl : ∀ i ∈ tgSlots tgt, i ∈ own)
    (hgo : compGo tgt fc fe own ds (wipeE env1 own) [] = .ok q) {Q : VK}
    (hQ : ∀ D0 H', H1 D0 = none → Pst F env1 (wipeE q.2 own) σ H1 H' → RepF F (wipeE q.2 own) σ H' (.ref D0) (.lst q.1) → Fre F (wipeE q.2 own) σ H1 H' (.ref D0) (.lst q.1) → Q (.ref D0) H') :
    ∀ D0, H1 D0 = none → ∃ W : Nat → Nat → Hp → Prop, (∃ m, W 0 m (upd H1 D0 (.lst []))) ∧ ∀ i m H, W i m H →
      (J.stop i H ∧ Q (.ref D0) H) ∨ (J.go i H ∧ ∃ Nx : Hp → Prop, (∀ H', Nx H' → ∃ m', m' < m ∧ W (i + 1) m' H') ∧ ∀ x H', J.yld i H x H' → tG X tgt x (wipe σ own) H' fun σ2 H2 => wipe σ2 own = wipe σ own ∧ tRT X (fun env => truR (fc env)) σ2 H2 fun b H3 =>
        if b = true then tR X false fe σ2 H3 fun y H4 => ∃ acc, H4 D0 = some (.lst acc) ∧ acc.length < sizeLine ∧ Nx (upd H4 D0 (.lst (acc ++ [y]))) else Nx H3) := by
  intro D0 n0
  have new := rel1.new n0
  have g' : Good X (F.add D0) := g
  have la0 : Lat env1 σ H1 (wipeE env1 own) (wipe σ own) (upd H1 D0 (.lst [])) := by
    obtain ⟨_, s⟩ := rel1.wiped (vs := own) (σ := σ) rfl
    exact (Lat.laid n0).part s (io_wiped hw Io.refl fun j hj => by rw [wipe_get, if_neg hj])
  refine ⟨fun i m H => m = ds.length - i ∧ i ≤ ds.length ∧ ∃ env xs acc, Cmp F env1 σ H1 D0 own env H xs acc ∧ xs.length ≤ i ∧ compGo tgt fc fe own (ds.drop i) env acc = .ok q,
    ⟨ds.length, by simp, Nat.zero_le _, wipeE env1 own, [], [], ⟨?_, la0, upd_same, .nil⟩, Nat.le_refl _, hgo⟩, ?_⟩
  · exact ((rel1.laid n0 (rel1.sz.lstU (Nat.zero_le _))).wiped (vs := own) (σ := σ) rfl).1
  · rintro i m H ⟨rfl, hi, env, xs, acc, c, hx, hc⟩
    have hk : ∀ b o, H1 b = some o → ¬ Avd F.C env1 σ b → H b = some o := fun b o e n => c.la.kp b o e fun z => n (.inr z)
    have hA : ∀ b, H1 b ≠ none → Avd (F.add D0).C env (wipe σ own) b → Avd F.C env1 σ b := fun b hb z => by
      rcases z with (z | z) | z
      · exact .inl z
      · exact absurd (z ▸ n0) hb
      · exact .inr (c.la.sub b hb z)
    have nD : ∀ {env' : En} {σ' : SV} {H' : Hp}, Rel (F.add D0) env' σ' H' → ¬ Own env' σ' D0 := fun r z => (r.ownSome z).2.1 (.inr rfl)
    by_cases hlt : i < ds.length
    · right
      obtain ⟨d, hd⟩ : ∃ d, ds[i]? = some d := ⟨ds[i], List.getElem?_eq_getElem hlt⟩
      have ed : ds.drop i = d :: ds.drop (i + 1) := by
        rw [List.drop_eq_getElem_cons hlt]
        rw [List.getElem?_eq_getElem hlt] at hd
        rw [Option.some.inj hd]
      rw [ed] at hc
      have hc : (match bindT tgt d env with
        | none => Res.bad
        | some env1 => (truR (fc env1)).bind fun p => if p.1 then (fe p.2).bind fun q => compGo tgt fc fe own (ds.drop (i + 1)) (wipeE q.2 own) (acc ++ [q.1]) else compGo tgt fc fe own (ds.drop (i + 1)) (wipeE p.2 own) acc) = .ok q := hc
      refine ⟨walk.go _ H hk hA i d hd, fun H' => ∃ env xs acc, Cmp F env1 σ H1 D0 own env H' xs acc ∧ xs.length ≤ i + 1 ∧ compGo tgt fc fe own (ds.drop (i + 1)) env acc = .ok q, fun H' ⟨env', xs', acc', c', hx', hc'⟩ => ⟨ds.length - (i + 1), by omega, rfl, hlt, env', xs', acc', c', hx', hc'⟩, fun x H' y => ?_⟩
      obtain ⟨k3, l3, r3⟩ := walk.yld _ H hk hA (fun b z => c.rel.avSome z) i d x H' hd y
      have rel3 := c.rel.ext k3 (l3 c.rel.sz)
      have la3 : Lat env1 σ H1 env (wipe σ own) H' := c.la.trans (Lat.ext k3)
      have at3 : H' D0 = some (.lst xs) := k3 _ _ c.at_
      have rp3 : RepAllF (F.add D0) env (wipe σ own) H' xs acc := (Lat.ext k3).repAll c.rep
      cases eb : bindT tgt d env with
      | none => rw [eb] at hc; cases hc
      | some envb =>
        rw [eb] at hc
        refine ⟨F.add D0, env, d, envb, g', rel3, r3, eb, fun σ2 rel4 la4 w4 => ?_⟩
        have w4' : wipe σ2 own = wipe σ own := by rw [w4 own hsl, wipe_wipe]
        refine ⟨w4', F.add D0, envb, g', rel4, ?_⟩
        have hc : (truR (fc envb)).bind (fun p => if p.1 then (fe p.2).bind fun q => compGo tgt fc fe own (ds.drop (i + 1)) (wipeE q.2 own) (acc ++ [q.1]) else compGo tgt fc fe own (ds.drop (i + 1)) (wipeE p.2 own) acc) = .ok q := hc
        cases et : truR (fc envb) with
        | exc c d => rw [et] at hc; cases hc
        | bad => rw [et] at hc; cases hc
        | ok p =>
          rw [et] at hc
          obtain ⟨k, envc⟩ := p
          show OutT _ _ _ _ (truR (fc envb)) _
          rw [et]
          intro H5 ps5
          have la5 := (la3.trans la4).trans ps5.toLat
          have at5 : H5 D0 = some (.lst xs) := ps5.kp _ _ at3 (nD rel4)
          have rp5 : RepAllF (F.add D0) envc σ2 H5 xs acc := ps5.repAll (la4.repAll rp3)
          cases k with
          | false =>
            obtain ⟨relw, subw⟩ := ps5.rel.wiped (vs := own) w4'
            have law := la5.part subw (io_wiped hw la5.io fun j hj => by rw [← w4', wipe_get, if_neg hj])
            exact ⟨wipeE envc own, xs, acc, ⟨relw, law, at5, rp5.mono Kp.refl fun b _ z => by
              rcases z with z | z
              · exact .inl z
              · exact .inr (subw b z)⟩, by omega, hc⟩
          | true =>
            have hc : (fe envc).bind (fun q => compGo tgt fc fe own (ds.drop (i + 1)) (wipeE q.2 own) (acc ++ [q.1])) = .ok q := hc
            refine ⟨F.add D0, envc, g', ps5.rel, ?_⟩
            cases ee : fe envc with
            | exc c d => rw [ee] at hc; cases hc
            | bad => rw [ee] at hc; cases hc
            | ok r =>
              rw [ee] at hc
              obtain ⟨dy, envd⟩ := r
              try rw [ee]
              intro v H6 ps6 rv _
              have la6 := la5.trans ps6.toLat
              have at6 : H6 D0 = some (.lst xs) := ps6.kp _ _ at5 (nD ps5.rel)
              have hsz := walk.sz
              have hl : (xs ++ [v]).length ≤ sizeLine := by rw [List.length_append]; show xs.length + 1 ≤ sizeLine; omega
              refine ⟨xs, at6, by omega, wipeE envd own, xs ++ [v], acc ++ [dy], ?_, by rw [List.length_append]; show xs.length + 1 ≤ i + 1; omega, hc⟩
              obtain ⟨relw, subw⟩ := ps6.rel.wiped (vs := own) w4'
              have hC : (F.add D0).C D0 := .inr rfl
              have relu := relw.updC (a := D0) (o := .lst (xs ++ [v])) hC new.1 (relw.sz.lstU hl)
              have law := la6.part subw (io_wiped hw la6.io fun j hj => by rw [← w4', wipe_get, if_neg hj])
              have nO : ¬ Own env1 σ D0 := fun z => (rel1.ownSome z).1 n0
              have lau : Lat env1 σ H1 (wipeE envd own) (wipe σ own) (upd H6 D0 (.lst (xs ++ [v]))) :=
                ⟨fun b o e nb => by rw [upd_ne (ne_of_none e n0)]; exact law.kp b o e nb, law.sub, fun b hb => by rw [upd_ne (fun z => hb (by rw [z]; exact n0))]; exact law.nn b hb, law.io⟩
              refine ⟨relu, lau, upd_same, ?_⟩
              have r6 : RepAllF (F.add D0) envd σ2 H6 (xs ++ [v]) (acc ++ [dy]) := (ps6.repAll rp5).append (.cons rv .nil)
              exact r6.mono (Kp.upd (.inr (.inl hC))) fun b _ z => by
                rcases z with z | z
                · exact .inl z
                · exact .inr (subw b z)
    · left
      have ei : i = ds.length := by omega
      subst ei
      rw [List.drop_length] at hc
      cases hc
      refine ⟨walk.stop _ H hk hA _ (Nat.le_refl _), ?_⟩
      obtain ⟨relu, subu⟩ := c.rel.unwiped
      have lau := c.la.part subu (io_wiped hw c.la.io fun j hj => by rw [wipe_get, if_neg hj])
      have repu : RepAllF (F.add D0) (wipeE env own) σ H xs acc := c.rep.mono Kp.refl fun b _ z => by
        rcases z with z | z
        · exact .inl z
        · exact .inr (subu b z)
      have nav : ¬ Avd F.C (wipeE env own) σ D0 := fun z => by
        rcases z with z | z
        · exact new.2.1 z
        · exact nD relu z
      refine hQ D0 H n0 { lau with rel := relu.drop } (.lst (.inl c.at_) nav (repu.mono Kp.refl fun b _ z => ?_)) fun _ => ⟨D0, rfl, n0, relu, .lst c.at_ repu⟩
      rcases z with z | z
      · exact .inl (.inl z)
      · exact .inr z
end
end Dm
set_option Elab.async false
set_option linter.all false
set_option maxRecDepth 100000
set_option maxHeartbeats 1000000
namespace Dm
open PySem PySem.Spec PyProof.Rows L2
def Fx.lk (F : Fx) (d : Addr) (o : HO) : Fx := { F with H0 := fun b => if b = d then (if F.H0 d = none then none else some o) else F.H0 b }
section
variable {F : Fx} {env env' : En} {σ : SV} {H H' : Hp} {d : Addr} {xs : List (Key × V)} {od : Obj}
theorem lk_ne {b : Addr} {o : HO} (h : b ≠ d) : (F.lk d o).H0 b = F.H0 b := by
  show (if b = d then _ else F.H0 b) = F.H0 b
  rw [if_neg h]
theorem lk_none {b : Addr} {o : HO} : (F.lk d o).H0 b = none ↔ F.H0 b = none := by
  show (if b = d then (if F.H0 d = none then none else some o) else F.H0 b) = none ↔ _
  by_cases h : b = d
  · subst h
    rw [if_pos rfl]
    by_cases h2 : F.H0 b = none
    · rw [if_pos h2]; simp [h2]
    · rw [if_neg h2]; simp [h2]
  · rw [if_neg h]
theorem rd_lock (hd : H d = some (.dK xs)) {b : Addr} {u : HO} (nf : ∀ o w, u ≠ .frz o w) (r : Rd H b u) : Rd (upd H d (.frz od (.dK xs))) b u := by
  by_cases e : b = d
  · subst e
    rcases r with r | ⟨o, r⟩
    · rw [hd] at r; cases r; exact .inr ⟨od, upd_same⟩
    · rw [hd] at r; cases r
  · unfold Rd
    rw [upd_ne e]
    exact r
theorem rd_unlock (hd : H' d = some (.frz od (.dK xs))) {b : Addr} {u : HO} (nf : ∀ o w, u ≠ .frz o w) (r : Rd H' b u) : Rd (upd H' d (.dK xs)) b u := by
  by_cases e : b = d
  · subst e
    rcases r with r | ⟨o, r⟩
    · rw [hd] at r; cases r; exact absurd rfl (nf _ _)
    · rw [hd] at r; cases r; exact .inl upd_same
  · unfold Rd
    rw [upd_ne e]
    exact r
theorem Kp.lock {A : Av} (hd : H d = some (.dK xs)) : Kp A H (L2.upd H d (.frz od (.dK xs))) :=
  ⟨fun b u _ nf r => rd_lock hd nf r, fun b C dx fs _ e => by rw [upd_ne (fun z => by rw [z, hd] at e; cases e)]; exact e⟩
theorem Kp.unlock {A : Av} (hd : H' d = some (.frz od (.dK xs))) : Kp A H' (L2.upd H' d (.dK xs)) :=
  ⟨fun b u _ nf r => rd_unlock hd nf r, fun b C dx fs _ e => by rw [upd_ne (fun z => by rw [z, hd] at e; cases e)]; exact e⟩
theorem TopR.by_ {K : PySem.W.Frag} {cl : Nat → Addr} {A A' : Av} {a : Addr} {x : D} {H2 : Hp} (k : Kp A H H2) (hA : ∀ b, H b ≠ none → A' b → A b) (er : ∀ u, (∀ o w, u ≠ .frz o w) → Rd H a u → Rd H2 a u) (ei : ∀ C dx fs, H a = some (.ins C dx fs) → H2 a = some (.ins C dx fs)) (t : TopR K cl A H a x) : TopR K cl A' H2 a x := by
  cases t with
  | lst h q => exact .lst (er _ nfL h) (q.mono k hA)
  | dic h q => exact .dic (er _ nfD h) (q.mono k hA)
  | ins h q => exact .ins (ei _ _ _ h) (q.mono k hA)
theorem Rel.locked (r : Rel F env σ H) (hd : H d = some (.dK xs)) (nO : ¬ Own env σ d) : Rel (F.lk d (.frz od (.dK xs))) env σ (upd H d (.frz od (.dK xs))) := by
  have k : Kp (Avd F.C env σ) H (upd H d (.frz od (.dK xs))) := Kp.lock hd
  have hA : ∀ b, H b ≠ none → Avd F.C env σ b → Avd F.C env σ b := fun _ _ z => z
  have nn : ∀ b, H b ≠ none → upd H d (.frz od (.dK xs)) b ≠ none := fun b h => by
    by_cases z : b = d
    · rw [z, upd_same]; exact fun q => nomatch q
    · rw [upd_ne z]; exact h
  have hl : HL (upd H d (.frz od (.dK xs))) := by
    refine r.sz.upd (fun ys q => ?_) (fun ys q => ?_) (fun ys q => ?_) <;> rcases rd_upd q with e | ⟨_, e⟩ <;> cases e
    exact r.sz.dK d xs (.inl hd)
  refine ⟨r.len, fun i x h => ?_, fun i x h => ?_, fun i x h => ?_, fun i x h => ?_, r.inj, fun b u q nb => ?_, fun b z => nn b (r.cd b z), fun b z => nn b (r.id b z), hl⟩
  · obtain ⟨v, e1, q⟩ := r.dat i x h
    exact ⟨v, e1, q.mono k hA⟩
  · obtain ⟨a, e1, t, nC, z⟩ := r.own i x h
    have na : a ≠ d := fun z => nO ⟨i, x, .inl h, z ▸ e1⟩
    exact ⟨a, e1, t.mono k hA (fun u q => by rw [upd_ne na]; exact q), nC, by rw [lk_ne na]; exact z⟩
  · obtain ⟨a, e1, t, nC, z⟩ := r.io i x h
    have na : a ≠ d := fun z => nO ⟨i, x, .inr h, z ▸ e1⟩
    exact ⟨a, e1, t.mono k hA (fun u q => by rw [upd_ne na]; exact q), nC, z⟩
  · obtain ⟨v, e1, q⟩ := r.bor i x h
    refine ⟨v, e1, ?_⟩
    rcases q with q | ⟨a, e2, t, z1, z2⟩
    · exact .inl (q.mono k hA)
    · exact .inr ⟨a, e2, t.by_ k hA (fun u nf q => rd_lock hd nf q) (fun C dx fs q => by rw [upd_ne (fun z => by rw [z, hd] at q; cases q)]; exact q), fun z => z1 (lk_none.mp z), z2⟩
  · by_cases hb : b = d
    · subst hb
      rw [upd_same]
      have q : (if b = b then (if F.H0 b = none then none else some (HO.frz od (.dK xs))) else F.H0 b) = some u := q
      rw [if_pos rfl] at q
      split at q
      · cases q
      · exact q
    · rw [lk_ne hb] at q
      rw [upd_ne hb]
      exact r.fr b u q nb
theorem Rel.unlocked {H0 : Hp} (h0 : ∀ o, F.H0 d = some o → ¬ F.IO d → o = .dK xs) (r : Rel (F.lk d (.frz od (.dK xs))) env σ H') (hd : H' d = some (.frz od (.dK xs))) (nO : ¬ Own env σ d) : Rel F env σ (upd H' d (.dK xs)) := by
  have k : Kp (Avd F.C env σ) H' (upd H' d (.dK xs)) := Kp.unlock hd
  have hA : ∀ b, H' b ≠ none → Avd F.C env σ b → Avd F.C env σ b := fun _ _ z => z
  have nn : ∀ b, H' b ≠ none → upd H' d (.dK xs) b ≠ none := fun b h => by
    by_cases z : b = d
    · rw [z, upd_same]; exact fun q => nomatch q
    · rw [upd_ne z]; exact h
  have hl : HL (upd H' d (.dK xs)) := r.sz.dKU (r.sz.dK d xs (.inr ⟨od, hd⟩))
  refine ⟨r.len, fun i x h => ?_, fun i x h => ?_, fun i x h => ?_, fun i x h => ?_, r.inj, fun b u q nb => ?_, fun b z => nn b (r.cd b z), fun b z => nn b (r.id b z), hl⟩
  · obtain ⟨v, e1, q⟩ := r.dat i x h
    exact ⟨v, e1, q.mono k hA⟩
  · obtain ⟨a, e1, t, nC, z⟩ := r.own i x h
    have na : a ≠ d := fun z => nO ⟨i, x, .inl h, z ▸ e1⟩
    exact ⟨a, e1, t.mono k hA (fun u q => by rw [upd_ne na]; exact q), nC, lk_none.mp z⟩
  · obtain ⟨a, e1, t, nC, z⟩ := r.io i x h
    have na : a ≠ d := fun z => nO ⟨i, x, .inr h, z ▸ e1⟩
    exact ⟨a, e1, t.mono k hA (fun u q => by rw [upd_ne na]; exact q), nC, z⟩
  · obtain ⟨v, e1, q⟩ := r.bor i x h
    refine ⟨v, e1, ?_⟩
    rcases q with q | ⟨a, e2, t, z1, z2⟩
    · exact .inl (q.mono k hA)
    · exact .inr ⟨a, e2, t.by_ k hA (fun u nf q => rd_unlock hd nf q) (fun C dx fs q => by rw [upd_ne (fun z => by rw [z, hd] at q; cases q)]; exact q), fun z => z1 (lk_none.mpr z), z2⟩
  · by_cases hb : b = d
    · subst hb
      rw [upd_same, h0 u q nb]
    · rw [upd_ne hb]
      exact r.fr b u (by rw [lk_ne hb]; exact q) nb
/-- back behind the lock -/
theorem Pst.unlock (r : Rel F env σ H) (hd : H d = some (.dK xs)) (nO : ¬ Own env σ d) (ps : Pst (F.lk d (.frz od (.dK xs))) env env' σ (upd H d (.frz od (.dK xs))) H') :
    H' d = some (.frz od (.dK xs)) ∧ Pst F env env' σ H (upd H' d (.dK xs)) := by
  have e : H' d = some (.frz od (.dK xs)) := ps.kp _ _ upd_same nO
  have nO' : ¬ Own env' σ d := fun z => nO (ps.sub d (by rw [upd_same]; exact fun q => nomatch q) z)
  have up : ∀ a, H a ≠ Option.none → upd H d (.frz od (.dK xs)) a ≠ Option.none := fun a h => by
    by_cases z : a = d
    · rw [z, upd_same]; exact fun q => nomatch q
    · rw [upd_ne z]; exact h
  refine ⟨e, { kp := fun b o eb nb => ?_, sub := fun a h z => ps.sub a (up a h) z, nn := fun a h => ?_, io := ps.io, rel := ps.rel.unlocked (H0 := H) (fun o ho ni => ?_) e nO' }⟩
  · by_cases z : b = d
    · subst z; rw [hd] at eb; rw [upd_same]; exact eb
    · rw [upd_ne z]
      exact ps.kp b o (by rw [upd_ne z]; exact eb) nb
  · by_cases z : a = d
    · rw [z, upd_same]; exact fun q => nomatch q
    · rw [upd_ne z]; exact ps.nn a (up a h)
  · have q := r.fr d o ho ni
    rw [hd] at q
    exact (Option.some.inj q).symm
end
/-- what a reading of an expression may be put into -/
structure Rn (R : TE → Prop) : Prop where
  imp : ∀ {t t' : TE}, R t → (∀ σ H Q, t' σ H Q → t σ H Q) → R t'
  lock : ∀ {t : TE}, R t → R (tLockE t)
  or : ∀ {t t' : TE}, R t → R t' → R (fun σ H Q => t σ H Q ∨ t' σ H Q)
theorem rn_pe {X : Cx} {e : Expr} : Rn (PE X e) where
  imp := fun h i => peImp h i
  lock := fun h => pe_lock h
  or := fun h h' => ⟨fun pins s σ H Q I q => q.elim (h.run pins s σ H Q I) (h'.run pins s σ H Q I)⟩
theorem rn_set {X : Cx} {st : Stmt} {i : Nat} : Rn (fun t => PS X st (tAsg t (gName i))) where
  imp := fun h i => ⟨fun pins s σ H D I q => h.run pins s σ H D I (i _ _ _ q)⟩
  lock := fun h => ⟨fun pins s σ H D I ⟨d, u, hd, mu, q⟩ => (ps_lock h).run pins s σ H D I ⟨d, u, hd, mu, fun od => q od⟩⟩
  or := fun h h' => ⟨fun pins s σ H D I q => q.elim (h.run pins s σ H D I) (h'.run pins s σ H D I)⟩
section
variable {X : Cx} {R : TE → Prop} {elt tg iter : Expr} {ifs : List Expr} {scope : Scope} {ownp : List (Str × Nat)} {pos : Pos} {it tgt : Ex} {fi fc fe : En → Res (D × En)}
theorem s_compR (rn : Rn R) (base : R (tLc (tRI X it fi) (tG X tgt) (tRT X fun env => truR (fc env)) (tR X false fe) (ownp.map (·.2)))) (hv : ∀ i, it = .var i → ∀ env, fi env = match env[i]? with | some (.dat d) => .ok (d, env) | _ => .bad)
    (hsl : ∀ i ∈ tgSlots tgt, i ∈ ownp.map (·.2)) :
    R (tR X true fun env => (fi env).bind fun p => match rowsE it p.1 with
      | some xs => if wipeOk p.2 (ownp.map (·.2)) then (calm (compGo tgt fc fe (ownp.map (·.2)) xs (wipeE p.2 (ownp.map (·.2))) [])).bind fun q => .ok (.lst q.1, wipeE q.2 (ownp.map (·.2))) else .bad
      | none => .bad) := by
  generalize ho : ownp.map (·.2) = own at hsl base ⊢
  refine rn.imp (rn.or base (rn.lock base)) fun σ H Q ⟨F, env, g, rel, o⟩ => ?_
  dsimp only at o
  cases ef : fi env with
  | exc c d => rw [ef] at o; exact (g.2.1 c d o).elim
  | bad => rw [ef] at o; exact o.elim
  | ok p =>
    rw [ef] at o
    obtain ⟨d0, env1⟩ := p
    cases er : rowsE it d0 with
    | none =>
      have o : Out true F env σ H (match rowsE it d0 with
        | some xs => if wipeOk env1 own then (calm (compGo tgt fc fe own xs (wipeE env1 own) [])).bind fun q => .ok (.lst q.1, wipeE q.2 own) else .bad
        | none => .bad) Q := o
      rw [er] at o; exact o.elim
    | some ds =>
      have o : Out true F env σ H (match rowsE it d0 with
        | some xs => if wipeOk env1 own then (calm (compGo tgt fc fe own xs (wipeE env1 own) [])).bind fun q => .ok (.lst q.1, wipeE q.2 own) else .bad
        | none => .bad) Q := o
      rw [er] at o
      have o : Out true F env σ H (if wipeOk env1 own then (calm (compGo tgt fc fe own ds (wipeE env1 own) [])).bind fun q => .ok (.lst q.1, wipeE q.2 own) else .bad) Q := o
      by_cases hw : wipeOk env1 own = true
      · rw [if_pos hw] at o
        cases eg : compGo tgt fc fe own ds (wipeE env1 own) [] with
        | exc c d => rw [eg] at o; exact o.elim
        | bad => rw [eg] at o; exact o.elim
        | ok q =>
          rw [eg] at o
          have oF : Out true F env σ H (.ok (.lst q.1, wipeE q.2 own)) Q := o
          -- from a heap (as it is, or locked) on
          have go : ∀ (F' : Fx) (H' : Hp) (Q' : VK), Good X F' → Rel F' env σ H' → (∀ kvs i v, d0 = .dic kvs → it = .var i → σ[i]? = some (some v) → ∃ d o xs, v = .ref d ∧ H' d = some (.frz o (.dK xs))) →
              (∀ v H2, Pst F' env (wipeE q.2 own) σ H' H2 → RepF F' (wipeE q.2 own) σ H2 v (.lst q.1) → Fre F' (wipeE q.2 own) σ H' H2 v (.lst q.1) → Q' v H2) →
              tLc (tRI X it fi) (tG X tgt) (tRT X fun env => truR (fc env)) (tR X false fe) own σ H' Q' := fun F' H' Q' g' rel' dc hQ => by
            refine ⟨F', env, g', rel', ?_⟩
            rw [ef]
            show OutI it F' env σ H' (.ok (d0, env1)) _
            unfold OutI
            simp only [er]
            exact ⟨dc, fun J H1 ps walk => comp_core g' ps.rel walk hw hsl eg fun D0 H2 n0 ps2 rp f => hQ _ _ (ps.trans ps2) rp fun m => let ⟨a, h1, h2, h3⟩ := f m; ⟨a, h1, ps.none a h2, h3⟩⟩
          by_cases dd : ∃ kvs, d0 = .dic kvs
          · obtain ⟨kvs, rfl⟩ := dd
            cases it with
            | var i =>
              have efv := hv i rfl env
              rw [ef] at efv
              cases es : env[i]? with
              | none => rw [es] at efv; cases efv
              | some sl =>
                rw [es] at efv
                cases sl with
                | dat d' =>
                  cases efv
                  obtain ⟨v, ev, rv⟩ := rel.dat i _ es
                  have rv0 := rv
                  cases rv with
                  | dic h2 n r1 =>
                    rename_i a xs
                    rcases h2 with h2 | ⟨o', h2⟩
                    · refine .inr ⟨a, .dK xs, h2, trivial, fun od => ?_⟩
                      have nO : ¬ Own env σ a := fun z => n (.inr z)
                      refine go (F.lk a (.frz od (.dK xs))) _ _ g (rel.locked h2 nO) (fun kvs' j v' _ ej ev' => ?_) fun v2 H2 ps rp f => ?_
                      · cases ej
                        rw [ev] at ev'
                        cases ev'
                        exact ⟨a, od, xs, rfl, upd_same⟩
                      · obtain ⟨e2, ps2⟩ := ps.unlock rel h2 nO
                        have k2 : Kp (Avd F.C (wipeE q.2 own) σ) H2 (upd H2 a (.dK xs)) := Kp.unlock e2
                        refine ⟨e2, oF v2 _ ps2 (rp.mono k2 fun _ _ z => z) fun _ m => ?_⟩
                        obtain ⟨b, h1, h3, h4, h5⟩ := f m
                        have nb : b ≠ a := fun z => by rw [z, upd_same] at h3; cases h3
                        rw [upd_ne nb] at h3
                        have nO2 : ¬ Own (wipeE q.2 own) σ a := fun z => nO (ps2.sub a (by rw [h2]; exact fun q => nomatch q) z)
                        refine ⟨b, h1, h3, Rel.unlocked (F := F.add b) (H0 := H) (fun o ho ni => ?_) h4 e2 nO2, h5.mono (Kp.unlock e2) (fun _ _ z => z) fun u q => by rw [upd_ne nb]; exact q⟩
                        have q := rel.fr a o ho ni
                        rw [h2] at q
                        exact (Option.some.inj q).symm
                    · refine .inl (go F H Q g rel (fun kvs' j v' _ ej ev' => ?_) fun v2 H2 ps rp f => oF v2 H2 ps rp fun _ => f)
                      cases ej
                      rw [ev] at ev'
                      cases ev'
                      exact ⟨a, o', xs, rfl, h2⟩
                | _ => cases efv
            | _ => cases er
          · exact .inl (go F H Q g rel (fun kvs' j v' e _ _ => absurd ⟨kvs', e⟩ dd) fun v2 H2 ps rp f => oF v2 H2 ps rp fun _ => f)
      · rw [if_neg hw] at o
        exact o.elim
end
end Dm
set_option Elab.async false
set_option linter.all false
set_option maxRecDepth 100000
set_option maxHeartbeats 1000000
namespace Dm
open PySem PySem.Spec PyProof.Rows L2
section
variable {X : Cx} {F : Fx} {env1 : En} {σ : SV} {H1 : Hp} {ds : List D} {J : It} {tgt : Ex} {own : List Nat} {fk fe : En → Res (D × En)} {q : List (Ky × D) × En}
/-- where a dict's comprehension stands -/
structure Cmd (F : Fx) (env1 : En) (σ : SV) (H1 : Hp) (D0 : Addr) (own : List Nat) (env : En) (H : Hp) (xs : List (Key × V)) (acc : List (Ky × D)) : Prop where
  rel : Rel (F.add D0) env (wipe σ own) H
  la : Lat env1 σ H1 env (wipe σ own) H
  at_ : H D0 = some (.dK xs)
  rep : RepKv F.K F.cl (Avd (F.add D0).C env (wipe σ own)) H xs acc
theorem dcmp_core (g : Good X F) (rel1 : Rel F env1 σ H1) (walk : Walk F.K F.cl (Avd F.C env1 σ) H1 ds J) (hw : wipeOk env1 own = true) (hsl : ∀ i ∈ tgSlots tgt, i ∈ own)
    (hgo : dcmpGo tgt fk fe own ds (wipeE env1 own) [] = .ok q) {Q : VK}
    (hQ : ∀ D0 H', H1 D0 = none → Pst F env1 (wipeE q.2 own) σ H1 H' → RepF F (wipeE q.2 own) σ H' (.ref D0) (.dic q.1) → Fre F (wipeE q.2 own) σ H1 H' (.ref D0) (.dic q.1) → Q (.ref D0) H') :
    ∀ D0, H1 D0 = none → ∃ W : Nat → Nat → Hp → Prop, (∃ m, W 0 m (upd H1 D0 (.dK []))) ∧ ∀ i m H, W i m H →
      (J.stop i H ∧ Q (.ref D0) H) ∨ (J.go i H ∧ ∃ Nx : Hp → Prop, (∀ H', Nx H' → ∃ m', m' < m ∧ W (i + 1) m' H') ∧ ∀ x H', J.yld i H x H' → tG X tgt x (wipe σ own) H' fun σ2 H2 => wipe σ2 own = wipe σ own ∧ tYes σ2 H2 fun b H3 =>
        if b = true then tR X false fk σ2 H3 fun y H4 => tR X false fe σ2 H4 fun z H5 => ∃ kvs k, y = kV k ∧ H5 D0 = some (.dK kvs) ∧ kvs.length < sizeLine ∧ Nx (upd H5 D0 (.dK (putK kvs k z))) else Nx H3) := by
  intro D0 n0
  have new := rel1.new n0
  have g' : Good X (F.add D0) := g
  have la0 : Lat env1 σ H1 (wipeE env1 own) (wipe σ own) (upd H1 D0 (.dK [])) := by
    obtain ⟨_, s⟩ := rel1.wiped (vs := own) (σ := σ) rfl
    exact (Lat.laid n0).part s (io_wiped hw Io.refl fun j hj => by rw [wipe_get, if_neg hj])
  refine ⟨fun i m H => m = ds.length - i ∧ i ≤ ds.length ∧ ∃ env xs acc, Cmd F env1 σ H1 D0 own env H xs acc ∧ xs.length ≤ i ∧ dcmpGo tgt fk fe own (ds.drop i) env acc = .ok q,
    ⟨ds.length, by simp, Nat.zero_le _, wipeE env1 own, [], [], ⟨?_, la0, upd_same, .nil⟩, Nat.le_refl _, hgo⟩, ?_⟩
  · exact ((rel1.laid n0 (rel1.sz.dKU (Nat.zero_le _))).wiped (vs := own) (σ := σ) rfl).1
  · rintro i m H ⟨rfl, hi, env, xs, acc, c, hx, hc⟩
    have hk : ∀ b o, H1 b = some o → ¬ Avd F.C env1 σ b → H b = some o := fun b o e n => c.la.kp b o e fun z => n (.inr z)
    have hA : ∀ b, H1 b ≠ none → Avd (F.add D0).C env (wipe σ own) b → Avd F.C env1 σ b := fun b hb z => by
      rcases z with (z | z) | z
      · exact .inl z
      · exact absurd (z ▸ n0) hb
      · exact .inr (c.la.sub b hb z)
    have nD : ∀ {env' : En} {σ' : SV} {H' : Hp}, Rel (F.add D0) env' σ' H' → ¬ Own env' σ' D0 := fun r z => (r.ownSome z).2.1 (.inr rfl)
    by_cases hlt : i < ds.length
    · right
      obtain ⟨d, hd⟩ : ∃ d, ds[i]? = some d := ⟨ds[i], List.getElem?_eq_getElem hlt⟩
      have ed : ds.drop i = d :: ds.drop (i + 1) := by
        rw [List.drop_eq_getElem_cons hlt]
        rw [List.getElem?_eq_getElem hlt] at hd
        rw [Option.some.inj hd]
      rw [ed] at hc
      have hc : (match bindT tgt d env with
        | none => Res.bad
        | some env1 => (fk env1).bind fun p => (fe p.2).bind fun q => match p.1.key with
          | some k => dcmpGo tgt fk fe own (ds.drop (i + 1)) (wipeE q.2 own) (putD acc k q.1)
          | none => .bad) = .ok q := hc
      refine ⟨walk.go _ H hk hA i d hd, fun H' => ∃ env xs acc, Cmd F env1 σ H1 D0 own env H' xs acc ∧ xs.length ≤ i + 1 ∧ dcmpGo tgt fk fe own (ds.drop (i + 1)) env acc = .ok q, fun H' ⟨env', xs', acc', c', hx', hc'⟩ => ⟨ds.length - (i + 1), by omega, rfl, hlt, env', xs', acc', c', hx', hc'⟩, fun x H' y => ?_⟩
      obtain ⟨k3, l3, r3⟩ := walk.yld _ H hk hA (fun b z => c.rel.avSome z) i d x H' hd y
      have rel3 := c.rel.ext k3 (l3 c.rel.sz)
      have la3 : Lat env1 σ H1 env (wipe σ own) H' := c.la.trans (Lat.ext k3)
      have at3 : H' D0 = some (.dK xs) := k3 _ _ c.at_
      have rp3 : RepKv F.K F.cl (Avd (F.add D0).C env (wipe σ own)) H' xs acc := c.rep.mono (Lat.ext k3).kpA fun _ h z => (Lat.ext k3).av h z
      cases eb : bindT tgt d env with
      | none => rw [eb] at hc; cases hc
      | some envb =>
        rw [eb] at hc
        refine ⟨F.add D0, env, d, envb, g', rel3, r3, eb, fun σ2 rel4 la4 w4 => ?_⟩
        have w4' : wipe σ2 own = wipe σ own := by rw [w4 own hsl, wipe_wipe]
        refine ⟨w4', ?_⟩
        show tR X false fk σ2 H' _
        refine ⟨F.add D0, envb, g', rel4, ?_⟩
        have hc : (fk envb).bind (fun p => (fe p.2).bind fun q => match p.1.key with
          | some k => dcmpGo tgt fk fe own (ds.drop (i + 1)) (wipeE q.2 own) (putD acc k q.1)
          | none => .bad) = .ok q := hc
        cases et : fk envb with
        | exc c d => rw [et] at hc; cases hc
        | bad => rw [et] at hc; cases hc
        | ok p =>
          rw [et] at hc
          obtain ⟨dk, envc⟩ := p
          intro vk H5 ps5 rvk _
          have la5 := (la3.trans la4).trans ps5.toLat
          have at5 : H5 D0 = some (.dK xs) := ps5.kp _ _ at3 (nD rel4)
          have hc : (fe envc).bind (fun q => match dk.key with
            | some k => dcmpGo tgt fk fe own (ds.drop (i + 1)) (wipeE q.2 own) (putD acc k q.1)
            | none => .bad) = .ok q := hc
          refine ⟨F.add D0, envc, g', ps5.rel, ?_⟩
          cases ee : fe envc with
          | exc c d => rw [ee] at hc; cases hc
          | bad => rw [ee] at hc; cases hc
          | ok r =>
            rw [ee] at hc
            obtain ⟨dy, envd⟩ := r
            intro v H6 ps6 rv _
            have hc : (match dk.key with
              | some k => dcmpGo tgt fk fe own (ds.drop (i + 1)) (wipeE envd own) (putD acc k dy)
              | none => .bad) = .ok q := hc
            cases ek : dk.key with
            | none => rw [ek] at hc; cases hc
            | some ky =>
              rw [ek] at hc
              obtain ⟨qk, rfl, rfl⟩ := key_of rvk ek
              have la6 := la5.trans ps6.toLat
              have at6 : H6 D0 = some (.dK xs) := ps6.kp _ _ at5 (nD ps5.rel)
              have hsz := walk.sz
              have hl0 := length_putK xs qk v
              have hl : (putK xs qk v).length ≤ sizeLine := by omega
              refine ⟨xs, qk, rfl, at6, by omega, wipeE envd own, putK xs qk v, putD acc (.k qk) dy, ?_, by omega, hc⟩
              obtain ⟨relw, subw⟩ := ps6.rel.wiped (vs := own) w4'
              have hC : (F.add D0).C D0 := .inr rfl
              have relu := relw.updC (a := D0) (o := .dK (putK xs qk v)) hC new.1 (relw.sz.dKU hl)
              have law := la6.part subw (io_wiped hw la6.io fun j hj => by rw [← w4', wipe_get, if_neg hj])
              have lau : Lat env1 σ H1 (wipeE envd own) (wipe σ own) (upd H6 D0 (.dK (putK xs qk v))) :=
                ⟨fun b o e nb => by rw [upd_ne (ne_of_none e n0)]; exact law.kp b o e nb, law.sub, fun b hb => by rw [upd_ne (fun z => hb (by rw [z]; exact n0))]; exact law.nn b hb, law.io⟩
              refine ⟨relu, lau, upd_same, ?_⟩
              have ll := (la4.trans ps5.toLat).trans ps6.toLat
              have r5 : RepKv F.K F.cl (Avd (F.add D0).C envd σ2) H6 xs acc := rp3.mono ll.kpA fun _ h z => ll.av h z
              have r6 : RepKv F.K F.cl (Avd (F.add D0).C envd σ2) H6 (putK xs qk v) (putD acc (.k qk) dy) := RepKv.put rv r5
              exact r6.mono (Kp.upd (.inr (.inl hC))) fun b _ z => by
                rcases z with z | z
                · exact .inl z
                · exact .inr (subw b z)
    · left
      have ei : i = ds.length := by omega
      subst ei
      rw [List.drop_length] at hc
      cases hc
      refine ⟨walk.stop _ H hk hA _ (Nat.le_refl _), ?_⟩
      obtain ⟨relu, subu⟩ := c.rel.unwiped
      have lau := c.la.part subu (io_wiped hw c.la.io fun j hj => by rw [wipe_get, if_neg hj])
      have repu : RepKv F.K F.cl (Avd (F.add D0).C (wipeE env own) σ) H xs acc := c.rep.mono Kp.refl fun b _ z => by
        rcases z with z | z
        · exact .inl z
        · exact .inr (subu b z)
      have nav : ¬ Avd F.C (wipeE env own) σ D0 := fun z => by
        rcases z with z | z
        · exact new.2.1 z
        · exact nD relu z
      refine hQ D0 H n0 { lau with rel := relu.drop } (.dic (.inl c.at_) nav (repu.mono Kp.refl fun b _ z => ?_)) fun _ => ⟨D0, rfl, n0, relu, .dic c.at_ repu⟩
      rcases z with z | z
      · exact .inl (.inl z)
      · exact .inr z
end
section
variable {X : Cx} {kx vx tg iter : Expr} {scope : Scope} {ownp : List (Str × Nat)} {pos : Pos} {it tgt : Ex} {fi fk fe : En → Res (D × En)}
theorem s_dcmp (hc : X.calm = true) (hN : X.N.Nodup) (hi : PI X tg iter (tRI X it fi)) (hv : ∀ i, it = .var i → ∀ env, fi env = match env[i]? with | some (.dat d) => .ok (d, env) | _ => .bad) (ok : BlkOk X.N X.env.scope scope ownp)
    (hg : ∀ (s : Shared) (H : Hp) (C : Addr) (cl : List (Str × Addr)) (fp : List Addr), PG (X.blk s H scope (compEnvC scope cl C X.env) fp) tg (tG X tgt))
    (hk : ∀ (s : Shared) (H : Hp) (C : Addr) (cl : List (Str × Addr)) (fp : List Addr), PE (X.blk s H scope (compEnvC scope cl C X.env) fp) kx (tR X false fk))
    (he : ∀ (s : Shared) (H : Hp) (C : Addr) (cl : List (Str × Addr)) (fp : List Addr), PE (X.blk s H scope (compEnvC scope cl C X.env) fp) vx (tR X false fe)) (hs : ∀ x, foldedSetIterable iter X.env x = pure x)
    (hsl : ∀ i ∈ tgSlots tgt, i ∈ ownp.map (·.2)) :
    PE X (.DictComp kx vx [⟨tg, iter, [], 0⟩] scope pos) (tR X true fun env => (fi env).bind fun p => match rowsE it p.1 with
      | some xs => if wipeOk p.2 (ownp.map (·.2)) then (calm (dcmpGo tgt fk fe (ownp.map (·.2)) xs (wipeE p.2 (ownp.map (·.2))) [])).bind fun q => .ok (.dic q.1, wipeE q.2 (ownp.map (·.2))) else .bad
      | none => .bad) := by
  have base := pe_dc (pos := pos) hc hN hi ok hg (fun _ _ _ _ _ => pts_nil) hk he hs
  refine ⟨fun pins s σ H Q I ⟨F, env, g, rel, o⟩ => ?_⟩
  generalize ho : ownp.map (·.2) = own at o hsl base
  dsimp only at o
  cases ef : fi env with
  | exc c d => rw [ef] at o; exact (g.2.1 c d o).elim
  | bad => rw [ef] at o; exact o.elim
  | ok p =>
    rw [ef] at o
    obtain ⟨d0, env1⟩ := p
    cases er : rowsE it d0 with
    | none =>
      have o : Out true F env σ H (match rowsE it d0 with
        | some xs => if wipeOk env1 own then (calm (dcmpGo tgt fk fe own xs (wipeE env1 own) [])).bind fun q => .ok (.dic q.1, wipeE q.2 own) else .bad
        | none => .bad) Q := o
      rw [er] at o; exact o.elim
    | some ds =>
      have o : Out true F env σ H (match rowsE it d0 with
        | some xs => if wipeOk env1 own then (calm (dcmpGo tgt fk fe own xs (wipeE env1 own) [])).bind fun q => .ok (.dic q.1, wipeE q.2 own) else .bad
        | none => .bad) Q := o
      rw [er] at o
      have o : Out true F env σ H (if wipeOk env1 own then (calm (dcmpGo tgt fk fe own ds (wipeE env1 own) [])).bind fun q => .ok (.dic q.1, wipeE q.2 own) else .bad) Q := o
      by_cases hw : wipeOk env1 own = true
      · rw [if_pos hw] at o
        cases eg : dcmpGo tgt fk fe own ds (wipeE env1 own) [] with
        | exc c d => rw [eg] at o; exact o.elim
        | bad => rw [eg] at o; exact o.elim
        | ok q =>
          rw [eg] at o
          have oF : Out true F env σ H (.ok (.dic q.1, wipeE q.2 own)) Q := o
          -- from a heap (as it is, or locked) on
          have go : ∀ (F' : Fx) (H' : Hp) (Q' : VK), Good X F' → Rel F' env σ H' → (∀ kvs i v, d0 = .dic kvs → it = .var i → σ[i]? = some (some v) → ∃ d o xs, v = .ref d ∧ H' d = some (.frz o (.dK xs))) →
              (∀ v H2, Pst F' env (wipeE q.2 own) σ H' H2 → RepF F' (wipeE q.2 own) σ H2 v (.dic q.1) → Fre F' (wipeE q.2 own) σ H' H2 v (.dic q.1) → Q' v H2) →
              tDc (tRI X it fi) (tG X tgt) tYes (tR X false fk) (tR X false fe) own σ H' Q' := fun F' H' Q' g' rel' dc hQ => by
            refine ⟨F', env, g', rel', ?_⟩
            rw [ef]
            show OutI it F' env σ H' (.ok (d0, env1)) _
            unfold OutI
            simp only [er]
            exact ⟨dc, fun J H1 ps walk => dcmp_core g' ps.rel walk hw hsl eg fun D0 H2 n0 ps2 rp f => hQ _ _ (ps.trans ps2) rp fun m => let ⟨a, h1, h2, h3⟩ := f m; ⟨a, h1, ps.none a h2, h3⟩⟩
          by_cases dd : ∃ kvs, d0 = .dic kvs
          · obtain ⟨kvs, rfl⟩ := dd
            cases it with
            | var i =>
              have efv := hv i rfl env
              rw [ef] at efv
              cases es : env[i]? with
              | none => rw [es] at efv; cases efv
              | some sl =>
                rw [es] at efv
                cases sl with
                | dat d' =>
                  cases efv
                  obtain ⟨v, ev, rv⟩ := rel.dat i _ es
                  have rv0 := rv
                  cases rv with
                  | dic h2 n r1 =>
                    rename_i a xs
                    rcases h2 with h2 | ⟨o', h2⟩
                    · refine (pe_lock base).run pins s σ H Q I ⟨a, .dK xs, h2, trivial, fun od => ?_⟩
                      have nO : ¬ Own env σ a := fun z => n (.inr z)
                      refine go (F.lk a (.frz od (.dK xs))) _ _ g (rel.locked h2 nO) (fun kvs' j v' _ ej ev' => ?_) fun v2 H2 ps rp f => ?_
                      · cases ej
                        rw [ev] at ev'
                        cases ev'
                        exact ⟨a, od, xs, rfl, upd_same⟩
                      · obtain ⟨e2, ps2⟩ := ps.unlock rel h2 nO
                        have k2 : Kp (Avd F.C (wipeE q.2 own) σ) H2 (upd H2 a (.dK xs)) := Kp.unlock e2
                        refine ⟨e2, oF v2 _ ps2 (rp.mono k2 fun _ _ z => z) fun _ m => ?_⟩
                        obtain ⟨b, h1, h3, h4, h5⟩ := f m
                        have nb : b ≠ a := fun z => by rw [z, upd_same] at h3; cases h3
                        rw [upd_ne nb] at h3
                        have nO2 : ¬ Own (wipeE q.2 own) σ a := fun z => nO (ps2.sub a (by rw [h2]; exact fun q => nomatch q) z)
                        refine ⟨b, h1, h3, Rel.unlocked (F := F.add b) (H0 := H) (fun o ho ni => ?_) h4 e2 nO2, h5.mono (Kp.unlock e2) (fun _ _ z => z) fun u q => by rw [upd_ne nb]; exact q⟩
                        have q := rel.fr a o ho ni
                        rw [h2] at q
                        exact (Option.some.inj q).symm
                    · refine base.run pins s σ H Q I (go F H Q g rel (fun kvs' j v' _ ej ev' => ?_) fun v2 H2 ps rp f => oF v2 H2 ps rp fun _ => f)
                      cases ej
                      rw [ev] at ev'
                      cases ev'
                      exact ⟨a, o', xs, rfl, h2⟩
                | _ => cases efv
            | _ => cases er
          · exact base.run pins s σ H Q I (go F H Q g rel (fun kvs' j v' e _ _ => absurd ⟨kvs', e⟩ dd) fun v2 H2 ps rp f => oF v2 H2 ps rp fun _ => f)
      · rw [if_neg hw] at o
        exact o.elim
end
end Dm
set_option Elab.async false
set_option linter.all false
set_option maxRecDepth 100000
set_option maxHeartbeats 1000000
namespace Dm
open PySem PySem.Spec PyProof.Rows L2
def FreS (F : Fx) (env' : En) (σ' : SV) (H' : Hp) (v : V) (d : D) : Prop := d.isMut = true → ∃ a, v = .ref a ∧ F.H0 a = none ∧ Rel (F.add a) env' σ' H' ∧ TopF (F.add a) env' σ' H' a d
def OutS (F : Fx) (env : En) (σ : SV) (H : Hp) (r : Res Fl) (E : Ends) : Prop := match r with
  | .ok (.nx env') => ∀ σ' H', Rel F env' σ' H' → Lat env σ H env' σ' H' → E.nx σ' H'
  | .ok (.rt fr d env') => ∀ v σ' H', Rel F env' σ' H' → Lat env σ H env' σ' H' → RepF F env' σ' H' v d → (fr = true → FreS F env' σ' H' v d) → E.rt v H'
  | .exc c d => F.X c d
  | .bad => False
def tS (X : Cx) (f : En → Res Fl) : TS := fun E σ H => ∃ F env, Good X F ∧ Rel F env σ H ∧ OutS F env σ H (f env) E
def seqF (r : Res Fl) (f : En → Res Fl) : Res Fl := r.bind fun fl => match fl with
  | .nx env' => f env'
  | .rt fr d env' => .ok (.rt fr d env')
section
variable {X : Cx} {F : Fx} {env env1 : En} {σ σ1 : SV} {H H1 : Hp} {e : Expr} {es : List Expr} {st : Stmt} {rest : List Stmt} {fr fr' : Bool} {pos py : Pos} {f f1 f2 : En → Res Fl} {fa fb : En → Res (D × En)}
theorem OutS.shift {r : Res Fl} {E : Ends} (p : Lat env σ H env1 σ1 H1) (h : OutS F env σ H r E) : OutS F env1 σ1 H1 r E := by
  cases r with
  | ok fl =>
    cases fl with
    | nx env' => exact fun σ' H' rel la => h σ' H' rel (p.trans la)
    | rt fr d env' => exact fun v σ' H' rel la rv hf => h v σ' H' rel (p.trans la) rv hf
  | exc c d => exact h
  | bad => exact h
theorem psImp {t t' : TS} (h : PS X st t) (i : ∀ E σ H, t' E σ H → t E σ H) : PS X st t' := ⟨fun pins s σ H E I q => h.run pins s σ H E I (i E σ H q)⟩
theorem pssImp {t t' : TS} (h : PSs X rest t) (i : ∀ E σ H, t' E σ H → t E σ H) : PSs X rest t' := ⟨fun pins s σ H E I q => h.run pins s σ H E I (i E σ H q)⟩
theorem ss_skip : PSs X [] (tS X fun env => .ok (.nx env)) := pssImp pss_nil fun E σ H ⟨F, env, g, rel, o⟩ => o σ H rel Lat.refl
theorem ss_seq (h1 : PS X st (tS X f1)) (h2 : PSs X rest (tS X f2)) : PSs X (st :: rest) (tS X fun env => seqF (f1 env) f2) :=
  pssImp (pss_cons h1 h2) fun E σ H ⟨F, env, g, rel, o⟩ => ⟨F, env, g, rel, by
    dsimp only at o
    cases e1 : f1 env with
    | ok fl =>
      rw [e1] at o
      cases fl with
      | nx env' => exact fun σ' H' rel' la => ⟨F, env', g, rel', OutS.shift la o⟩
      | rt fr d env' => exact o
    | exc c d => rw [e1] at o; exact o
    | bad => rw [e1] at o; exact o⟩
theorem ss_frz {i : Nat} (h2 : PSs X rest (tS X f2)) : PSs X rest (tS X fun env => seqF (match env[i]? with | some (.own d) => .ok (.nx (env.set i (.dat d))) | some _ => .ok (.nx env) | none => .bad) f2) :=
  pssImp h2 fun E σ H ⟨F, env, g, rel, o⟩ => by
    dsimp only at o
    cases es : env[i]? with
    | none => rw [es] at o; exact o.elim
    | some sl =>
      rw [es] at o
      cases sl with
      | own d =>
        have o : OutS F env σ H (f2 (env.set i (.dat d))) E := o
        have hi : i < env.length := (List.getElem?_eq_some_iff.mp es).1
        refine ⟨F, env.set i (.dat d), g, rel.frz es, OutS.shift ⟨fun _ _ e _ => e, fun a _ ⟨j, dj, h, e⟩ => ?_, fun _ z => z, fun j dj h => ?_⟩ o⟩
        · by_cases hj : j = i
          · subst hj
            rw [List.getElem?_set_self hi] at h
            rcases h with h | h <;> cases h
          · rw [List.getElem?_set_ne (Ne.symm hj)] at h
            exact ⟨j, dj, h, e⟩
        · have hj : j ≠ i := fun z => by subst z; rw [es] at h; cases h
          exact ⟨dj, by rw [List.getElem?_set_ne (Ne.symm hj)]; exact h, rfl⟩
      | _ => exact ⟨F, env, g, rel, o⟩
theorem ss_fgt {i : Nat} (h2 : PSs X rest (tS X f2)) : PSs X rest (tS X fun env => seqF (match env[i]? with | some (.io _) => .bad | some _ => .ok (.nx (env.set i .un)) | none => .bad) f2) :=
  pssImp h2 fun E σ H ⟨F, env, g, rel, o⟩ => by
    dsimp only at o
    cases es : env[i]? with
    | none => rw [es] at o; exact o.elim
    | some sl =>
      rw [es] at o
      have hi : i < env.length := (List.getElem?_eq_some_iff.mp es).1
      have nio : ∀ d, sl ≠ .io d := fun d z => by subst z; exact o.elim
      have o : OutS F env σ H (f2 (env.set i .un)) E := by cases sl <;> first | exact o | exact o.elim
      obtain ⟨rel', hsub⟩ := rel.part (env' := env.set i .un) (σ' := σ) (by rw [List.length_set]; exact rel.len) fun j s h ns => by
        by_cases hj : j = i
        · subst hj
          rw [List.getElem?_set_self hi] at h
          cases h
          exact absurd rfl ns
        · rw [List.getElem?_set_ne (Ne.symm hj)] at h
          exact ⟨h, rfl⟩
      refine ⟨F, env.set i .un, g, rel', OutS.shift ⟨fun _ _ e _ => e, fun a _ z => hsub a z, fun _ z => z, fun j dj h => ?_⟩ o⟩
      have hj : j ≠ i := fun z => by subst z; rw [es] at h; cases h; exact nio _ rfl
      exact ⟨dj, by rw [List.getElem?_set_ne (Ne.symm hj)]; exact h, rfl⟩
/-- a statement that is never come through -/
theorem ss_never (h : ∀ env, (∃ c d, f env = .exc c d) ∨ f env = .bad) : PS X st (tS X f) := ⟨fun pins s σ H E I ⟨F, env, g, rel, o⟩ => by
    rcases h env with ⟨c, d, e⟩ | e
    · rw [e] at o; exact (g.2.1 c d o).elim
    · rw [e] at o; exact o.elim⟩
theorem ss_asg {i : Nat} (h : PS X st (tAsg (tR X fr fa) (gName i))) : PS X st (tS X fun env => (fa env).bind fun p => optE (bindT (.var i) p.1 p.2)) :=
  psImp h fun E σ H ⟨F, env, g, rel, o⟩ => ⟨F, env, g, rel, by
    dsimp only at o
    cases e1 : fa env with
    | exc c d => rw [e1] at o; exact o
    | bad => rw [e1] at o; exact o
    | ok p =>
      rw [e1] at o
      intro v H' ps rv _
      show E.nx (σ.set i (some v)) H'
      have o : OutS F env σ H (optE (setV p.2 i p.1)) E := o
      unfold setV at o
      cases es : p.2[i]? with
      | none => rw [es] at o; exact o.elim
      | some sl =>
        rw [es] at o
        have hl : i < p.2.length := (List.getElem?_eq_some_iff.mp es).1
        have fin : (∀ d', sl ≠ .io d') → OutS F env σ H (.ok (.nx (p.2.set i (.dat p.1)))) E → E.nx (σ.set i (some v)) H' := fun nio o => by
          have nio' : ∀ d', p.2[i]? ≠ some (.io d') := fun d' z => nio d' (by rw [es] at z; exact Option.some.inj z)
          exact o _ _ (ps.rel.setGen nio' (fun d' => ⟨fun z => (nomatch z), fun z => (nomatch z)⟩) hl (fun d' e => by cases e; exact ⟨v, rfl, rv⟩) (fun d' z => nomatch z)) (ps.toLat.trans (Lat.set nio' (fun d' => ⟨fun z => (nomatch z), fun z => (nomatch z)⟩) hl))
        cases sl with
        | io d' => exact o.elim
        | bor d' => exact o.elim
        | un => exact fin (fun _ z => nomatch z) o
        | dat d' => exact fin (fun _ z => nomatch z) o
        | own d' => exact fin (fun _ z => nomatch z) o⟩
theorem ss_asgT {ts : Ex} {tg : Expr} (he : PE X e (tR X fr fa)) (hg : PG X tg (tG X ts)) (hs : swapsWithSole [tg] e pos.line X.env = pure false) (hw : swappedStores [tg] e X.env = pure none) (h1 : (assignEach [tg] X.env).map (·.2) = [assign tg X.env]) :
    PS X (.Assign [tg] e pos) (tS X fun env => (fa env).bind fun p => optE (bindT ts p.1 p.2)) :=
  psImp (ps_asg (peWeak he) hg hs hw h1) fun E σ H ⟨F, env, g, rel, o⟩ => ⟨F, env, g, rel, by
    dsimp only at o
    cases e1 : fa env with
    | exc c d => rw [e1] at o; exact o
    | bad => rw [e1] at o; exact o
    | ok p =>
      rw [e1] at o
      intro v H' ps rv _
      have o : OutS F env σ H (optE (bindT ts p.1 p.2)) E := o
      cases eb : bindT ts p.1 p.2 with
      | none => rw [eb] at o; exact o.elim
      | some env' =>
        rw [eb] at o
        exact ⟨F, p.2, p.1, env', g, ps.rel, rv, eb, fun σ' rel' la' _ => o σ' H' rel' (ps.toLat.trans la')⟩⟩
theorem ss_asgO {i : Nat} {b : Bool} (hb : b = fr) (h : PS X st (tAsg (tR X fr fa) (gName i))) : PS X st (tS X fun env => if b then (fa env).bind fun p => if p.1.isMut then (match p.2[i]? with
      | some (.io _) => .bad
      | some (.bor _) => .bad
      | some _ => .ok (.nx (p.2.set i (.own p.1)))
      | none => .bad) else .bad else .bad) :=
  psImp h fun E σ H ⟨F, env, g, rel, o⟩ => ⟨F, env, g, rel, by
    subst hb
    dsimp only at o
    cases b with
    | false => exact o.elim
    | true =>
    rw [if_pos rfl] at o
    cases e1 : fa env with
    | exc c d => rw [e1] at o; exact o
    | bad => rw [e1] at o; exact o
    | ok p =>
      rw [e1] at o
      intro v H' ps rv hf
      show E.nx (σ.set i (some v)) H'
      have o : OutS F env σ H (if p.1.isMut then (match p.2[i]? with
        | some (.io _) => .bad
        | some (.bor _) => .bad
        | some _ => .ok (.nx (p.2.set i (.own p.1)))
        | none => .bad) else .bad) E := o
      by_cases hm : p.1.isMut = true
      · rw [if_pos hm] at o
        obtain ⟨a, rfl, n0, relA, t⟩ := hf rfl hm
        cases es : p.2[i]? with
        | none => rw [es] at o; exact o.elim
        | some sl =>
          rw [es] at o
          have hl : i < p.2.length := (List.getElem?_eq_some_iff.mp es).1
          have new := rel.new n0
          have fin : (∀ d', sl ≠ .io d') → OutS F env σ H (.ok (.nx (p.2.set i (.own p.1)))) E → E.nx (σ.set i (some (.ref a))) H' := fun nio o => by
            have nio' : ∀ d', p.2[i]? ≠ some (.io d') := fun d' z => nio d' (by rw [es] at z; exact Option.some.inj z)
            have hls : i < σ.length := by rw [← relA.len]; exact hl
            refine o _ _ (relA.setOwn nio' hl new.2.1 new.1 t) ⟨fun b o' e nb => ps.kp b o' e nb, fun c hc z => ?_, ps.nn, fun j d' hj => ?_⟩
            · obtain ⟨j, dj, hj, ej⟩ := z
              by_cases h : j = i
              · subst h
                rw [List.getElem?_set_self hls] at ej
                cases ej
                exact absurd n0 hc
              · rw [List.getElem?_set_ne (Ne.symm h)] at hj ej
                exact ps.sub c hc ⟨j, dj, hj, ej⟩
            · obtain ⟨d2, h2, e2⟩ := ps.io j d' hj
              have hne : j ≠ i := fun z => nio' d2 (z ▸ h2)
              exact ⟨d2, by rw [List.getElem?_set_ne (Ne.symm hne)]; exact h2, by rw [List.getElem?_set_ne (Ne.symm hne)]; first | done | exact e2⟩
          cases sl with
          | io d' => exact o.elim
          | bor d' => exact o.elim
          | un => exact fin (fun _ z => nomatch z) o
          | dat d' => exact fin (fun _ z => nomatch z) o
          | own d' => exact fin (fun _ z => nomatch z) o
      · rw [if_neg hm] at o
        exact o.elim⟩
theorem ss_exp (he : PE X e (tR X fr fa)) (hs : swapsWith e none pos.line X.env = pure false) : PS X (.Expr e pos) (tS X fun env => (fa env).bind fun p => .ok (.nx p.2)) :=
  psImp (ps_expr (peWeak he) hs) fun E σ H ⟨F, env, g, rel, o⟩ => ⟨F, env, g, rel, by
    dsimp only at o
    cases e1 : fa env with
    | exc c d => rw [e1] at o; exact o
    | bad => rw [e1] at o; exact o
    | ok p => rw [e1] at o; exact fun v H' ps rv _ => o σ H' ps.rel ps.toLat⟩
theorem ss_ret (he : PE X e (tR X fr fa)) : PS X (.Return (some e) pos) (tS X fun env => (fa env).bind fun p => .ok (.rt fr p.1 p.2)) :=
  psImp (ps_ret he) fun E σ H ⟨F, env, g, rel, o⟩ => ⟨F, env, g, rel, by
    dsimp only at o
    cases e1 : fa env with
    | exc c d => rw [e1] at o; exact o
    | bad => rw [e1] at o; exact o
    | ok p =>
      rw [e1] at o
      exact fun v H' ps rv hf => o v σ H' ps.rel ps.toLat rv fun e m => let ⟨a, h1, h2, h3⟩ := hf e m; ⟨a, h1, (rel.new h2).1, h3⟩⟩
theorem ss_retN : PS X (.Return none pos) (tS X fun env => .ok (.rt false .non env)) :=
  psImp ps_retN fun E σ H ⟨F, env, g, rel, o⟩ => o .non σ H rel Lat.refl .non fun z => nomatch z
theorem ss_retO {i : Nat} {x : Str} (hN : X.N[i]? = some x) (hv : Vis X.env.scope x) (hd : (x == ("__debug__" : Str)) = false) (hcd : (x == ("__classdict__" : Str)) = false) :
    PS X (.Return (some (.Name x py)) pos) (tS X fun env => match env[i]? with | some (.own d) => .ok (.rt true d (env.set i .un)) | _ => .bad) :=
  psImp (ps_ret (pe_var hN hv hd hcd)) fun E σ H ⟨F, env, g, rel, o⟩ => by
    dsimp only at o
    cases es : env[i]? with
    | none => rw [es] at o; exact o.elim
    | some sl =>
      rw [es] at o
      cases sl with
      | own d =>
        have o : OutS F env σ H (.ok (.rt true d (env.set i .un))) E := o
        obtain ⟨a, ea, t, nC, z⟩ := rel.own i d es
        have hi : i < env.length := (List.getElem?_eq_some_iff.mp es).1
        have pr : ∀ (j : Nat) (s : Slot), (env.set i .un)[j]? = some s → s ≠ .un → j ≠ i ∧ env[j]? = some s := fun j s h ns => by
          by_cases hj : j = i
          · subst hj
            rw [List.getElem?_set_self hi] at h
            exact absurd (Option.some.inj h).symm ns
          · rw [List.getElem?_set_ne (Ne.symm hj)] at h
            exact ⟨hj, h⟩
        obtain ⟨rel', sub'⟩ := rel.part (env' := env.set i .un) (σ' := σ) (by rw [List.length_set]; exact rel.len) fun j s h ns => ⟨(pr j s h ns).2, rfl⟩
        have naO : ¬ Own (env.set i .un) σ a := fun ⟨j, dj, hj, ej⟩ => by
          rcases hj with hj | hj
          · obtain ⟨ne, h'⟩ := pr j _ hj (fun z => nomatch z)
            exact ne (rel.inj j i a dj d (.inl h') (.inl es) ej ea)
          · obtain ⟨ne, h'⟩ := pr j _ hj (fun z => nomatch z)
            exact ne (rel.inj j i a dj d (.inr h') (.inl es) ej ea)
        have na : ¬ Avd F.C (env.set i .un) σ a := fun z => z.elim nC naO
        have hA : ∀ b, H b ≠ none → Avd F.C (env.set i .un) σ b → Avd F.C env σ b := fun b _ z => by
          rcases z with z | z
          · exact .inl z
          · exact .inr (sub' b z)
        have hA2 : ∀ b, H b ≠ none → Avd (F.add a).C (env.set i .un) σ b → Avd F.C env σ b := fun b _ z => by
          rcases z with (z | z) | z
          · exact .inl z
          · exact .inr ⟨i, d, .inl es, z ▸ ea⟩
          · exact .inr (sub' b z)
        have la : Lat env σ H (env.set i .un) σ H := ⟨fun _ _ e _ => e, fun b _ z => sub' b z, fun _ z => z, fun j dj h => by
          have hj : j ≠ i := fun z => by subst z; rw [es] at h; cases h
          exact ⟨dj, by rw [List.getElem?_set_ne (Ne.symm hj)]; exact h, rfl⟩⟩
        refine ⟨.ref a, ea, o (.ref a) σ H rel' la ((t.mono Kp.refl hA fun _ q => q).rep na) fun _ _ => ⟨a, rfl, z, ?_, t.mono Kp.refl hA2 fun _ q => q⟩⟩
        refine ⟨rel'.len, fun j dj h => ?_, fun j dj h => ?_, fun j dj h => ?_, fun j dj h => ?_, rel'.inj, rel'.fr, fun b zb => ?_, rel'.id, rel'.sz⟩
        · obtain ⟨v, e1, q⟩ := rel.dat j dj (pr j _ h (fun z => nomatch z)).2
          exact ⟨v, e1, q.mono Kp.refl hA2⟩
        · obtain ⟨ne, h'⟩ := pr j _ h (fun z => nomatch z)
          obtain ⟨b, e1, tb, nCb, zb⟩ := rel.own j dj h'
          exact ⟨b, e1, tb.mono Kp.refl hA2 (fun _ q => q), fun z => z.elim nCb fun z => ne (rel.inj j i a dj d (.inl h') (.inl es) (z ▸ e1) ea), zb⟩
        · obtain ⟨ne, h'⟩ := pr j _ h (fun z => nomatch z)
          obtain ⟨b, e1, tb, nCb, zb⟩ := rel.io j dj h'
          exact ⟨b, e1, tb.mono Kp.refl hA2 (fun _ q => q), fun z => z.elim nCb fun z => ne (rel.inj j i a dj d (.inr h') (.inl es) (z ▸ e1) ea), zb⟩
        · obtain ⟨v, e1, q⟩ := rel.bor j dj (pr j _ h (fun z => nomatch z)).2
          refine ⟨v, e1, ?_⟩
          rcases q with q | ⟨b, e2, tb, zb⟩
          · exact .inl (q.mono Kp.refl hA2)
          · exact .inr ⟨b, e2, tb.mono Kp.refl hA2 (fun _ q => q), zb⟩
        · rcases zb with zb | zb
          · exact rel.cd b zb
          · subst zb; exact t.nn
      | _ => exact o.elim
theorem ss_ite {c : Expr} {a b : List Stmt} {ft : En → Res (Bool × En)} (hc : PT X c (tRT X ft)) (ha : PSs X a (tS X f1)) (hb : PSs X b (tS X f2)) : PS X (.If c a b pos) (tS X fun env => (ft env).bind fun p => if p.1 then f1 p.2 else f2 p.2) :=
  psImp (ps_if hc ha hb) fun E σ H ⟨F, env, g, rel, o⟩ => ⟨F, env, g, rel, by
    dsimp only at o
    cases e1 : ft env with
    | exc c d => rw [e1] at o; exact o
    | bad => rw [e1] at o; exact o
    | ok p =>
      rw [e1] at o
      obtain ⟨k, env1⟩ := p
      intro H' ps
      cases k with
      | true => exact ⟨F, env1, g, ps.rel, OutS.shift ps.toLat o⟩
      | false => exact ⟨F, env1, g, ps.rel, OutS.shift ps.toLat o⟩⟩
end
end Dm
namespace Dm
open PySem PySem.Spec PyProof.Rows L2
section
variable {X : Cx} {F : Fx} {env env1 : En} {σ σ1 : SV} {H H1 : Hp} {e k tg iter : Expr} {es : List Expr} {st : Stmt} {rest body : List Stmt} {fr fr' : Bool} {pos py : Pos} {f f1 f2 fbd : En → Res Fl} {fa fb fi : En → Res (D × En)}
theorem mkV {i : Nat} {d : D} (rel : Rel F env σ H) (h : mk env i = some d) : (env[i]? = some (.own d) ∨ env[i]? = some (.io d)) ∧ ∃ a, σ[i]? = some (some (.ref a)) ∧ TopF F env σ H a d := by
  unfold mk at h
  split at h
  · rename_i e; cases h
    obtain ⟨a, e1, t, _⟩ := rel.own i d e
    exact ⟨.inl e, a, e1, t⟩
  · rename_i e; cases h
    obtain ⟨a, e1, t, _⟩ := rel.io i d e
    exact ⟨.inr e, a, e1, t⟩
  · cases h
theorem Lat.put {i : Nat} {a : Addr} {o : HO} {d d' : D} (rel : Rel F env σ H) (hi : env[i]? = some (.own d) ∨ env[i]? = some (.io d)) (ha : σ[i]? = some (some (.ref a))) (hw : ∀ b, Own (putM env i d') σ b ↔ Own env σ b) : Lat env σ H (putM env i d') σ (upd H a o) := by
  have oa : Own env σ a := ⟨i, d, hi, ha⟩
  have hin : i < env.length := by
    rcases hi with h | h <;> exact (List.getElem?_eq_some_iff.mp h).1
  refine ⟨fun b u e nb => ?_, fun b _ z => (hw b).mp z, fun b hb => ?_, fun j dj hj => ?_⟩
  · rw [upd_ne (fun z => nb (by rw [z]; exact oa))]; exact e
  · by_cases z : b = a
    · rw [z, upd_same]; exact fun q => nomatch q
    · rw [upd_ne z]; exact hb
  · by_cases z : j = i
    · subst z
      refine ⟨d', ?_, rfl⟩
      unfold putM
      rw [hj]
      exact List.getElem?_set_self hin
    · refine ⟨dj, ?_, rfl⟩
      unfold putM
      rcases hi with h | h <;> simp only [h] <;> rw [List.getElem?_set_ne (Ne.symm z)] <;> exact hj
theorem ss_app {i : Nat} {x : Str} {apos cpos pn : Pos} (hN : X.N[i]? = some x) (hv : Vis X.env.scope x) (hd : (x == ("__debug__" : Str)) = false) (hcd : (x == ("__classdict__" : Str)) = false) (he : PE X e (tR X fr fa)) (hs : NoStar [e]) (hline : (apos.endLine == cpos.line) = true) :
    PS X (.Expr (.Call (.Attribute (.Name x pn) "append" apos) [e] [] cpos) pos) (tS X fun env => match mk env i with
      | some (.lst _) => (fa env).bind fun p => appM p.2 i p.1
      | _ => .bad) :=
  psImp (ps_expr (pe_bm PySem.F.plainAttrs_list PySem.F.slot_list_append PySem.F.type_list_append mt_append (pe_var hN hv hd hcd) (pa_cons (peWeak he) pa_nil (hs.cons .nil _)) (hfew := by rw [hs.all]; rfl) (hline := hline) (hs := hs.cons .nil _))) fun E σ H ⟨F, env, g, rel, o⟩ => by
    dsimp only at o
    cases e0 : mk env i with
    | none => rw [e0] at o; exact o.elim
    | some d0 =>
      rw [e0] at o
      cases d0 with
      | lst ds0 =>
        have o : OutS F env σ H ((fa env).bind fun p => appM p.2 i p.1) E := o
        obtain ⟨_, a, ea, t⟩ := mkV rel e0
        refine ⟨.ref a, ea, .inl ⟨rfl, ?_⟩, ?_⟩
        · cases t with
          | lst h q => exact ⟨_, .inl (.inl h)⟩
        · refine ⟨F, env, g, rel, ?_⟩
          cases e1 : fa env with
          | exc c d => rw [e1] at o; exact o
          | bad => rw [e1] at o; exact o
          | ok p =>
            rw [e1] at o
            intro v H' ps rv _
            have o : OutS F env σ H (appM p.2 i p.1) E := o
            unfold appM at o
            cases e2 : mk p.2 i with
            | none => rw [e2] at o; exact o.elim
            | some d2 =>
              rw [e2] at o
              cases d2 with
              | lst ds =>
                obtain ⟨hi, a', ea', t'⟩ := mkV ps.rel e2
                rw [ea] at ea'
                cases ea'
                have o : OutS F env σ H (if ds.length < sizeLine then .ok (.nx (putM p.2 i (.lst (ds ++ [p.1])))) else .bad) E := o
                by_cases hl : ds.length < sizeLine
                · rw [if_pos hl] at o
                  cases t' with
                  | lst h q =>
                    rename_i xs
                    have hx : xs.length < sizeLine := by rw [q.length]; exact hl
                    refine ⟨a, xs, v, rfl, rfl, h, hx, ?_⟩
                    have oa : Own p.2 σ a := ⟨i, _, hi, ea⟩
                    have hL := ps.rel.sz.lstU (a := a) (xs := xs ++ [v]) (by rw [List.length_append]; exact hx)
                    have q' : RepAllF F p.2 σ H' (xs ++ [v]) (ds ++ [p.1]) := q.append (.cons rv .nil)
                    obtain ⟨rel', hw⟩ := ps.rel.put hi ea hL (.lst upd_same (q'.mono (Kp.upd (.inr (.inr oa))) fun _ _ z => z))
                    exact o σ _ rel' (ps.toLat.trans (Lat.put ps.rel hi ea hw))
                · rw [if_neg hl] at o; exact o.elim
              | _ => exact o.elim
      | _ => exact o.elim
theorem ss_ext {i : Nat} {x : Str} {apos cpos pn : Pos} (hN : X.N[i]? = some x) (hv : Vis X.env.scope x) (hd : (x == ("__debug__" : Str)) = false) (hcd : (x == ("__classdict__" : Str)) = false) (he : PE X e (tR X fr fa)) (hs : NoStar [e]) (hline : (apos.endLine == cpos.line) = true) :
    PS X (.Expr (.Call (.Attribute (.Name x pn) "extend" apos) [e] [] cpos) pos) (tS X fun env => match mk env i with
      | some (.lst _) => (fa env).bind fun p => extM p.2 i p.1
      | _ => .bad) :=
  psImp (ps_expr (pe_bm PySem.F.plainAttrs_list PySem.F.slot_list_extend PySem.F.type_list_extend mt_extR (pe_var hN hv hd hcd) (pa_cons (peWeak he) pa_nil (hs.cons .nil _)) (hfew := by rw [hs.all]; rfl) (hline := hline) (hs := hs.cons .nil _))) fun E σ H ⟨F, env, g, rel, o⟩ => by
    dsimp only at o
    cases e0 : mk env i with
    | none => rw [e0] at o; exact o.elim
    | some d0 =>
      rw [e0] at o
      cases d0 with
      | lst ds0 =>
        have o : OutS F env σ H ((fa env).bind fun p => extM p.2 i p.1) E := o
        obtain ⟨_, a, ea, t⟩ := mkV rel e0
        refine ⟨.ref a, ea, .inl ⟨rfl, ?_⟩, ?_⟩
        · cases t with
          | lst h q => exact ⟨_, .inl (.inl h)⟩
        · refine ⟨F, env, g, rel, ?_⟩
          cases e1 : fa env with
          | exc c d => rw [e1] at o; exact o
          | bad => rw [e1] at o; exact o
          | ok p =>
            rw [e1] at o
            intro v H' ps rv _
            obtain ⟨d1, env1⟩ := p
            have o : OutS F env σ H (extM env1 i d1) E := o
            unfold extM at o
            cases e2 : mk env1 i with
            | none => rw [e2] at o; exact o.elim
            | some d2 =>
              rw [e2] at o
              cases d2 with
              | lst ds =>
                cases d1 with
                | lst ys =>
                  obtain ⟨hi, a', ea', t'⟩ := mkV ps.rel e2
                  rw [ea] at ea'
                  cases ea'
                  have o : OutS F env σ H (if ds.length + ys.length ≤ sizeLine then .ok (.nx (putM env1 i (.lst (ds ++ ys)))) else .bad) E := o
                  by_cases hl : ds.length + ys.length ≤ sizeLine
                  · rw [if_pos hl] at o
                    cases t' with
                    | lst h q =>
                      rename_i xs
                      obtain ⟨b, zs, rfl, hb, qz⟩ := rv.lstV
                      have hx : xs.length + zs.length ≤ sizeLine := by rw [q.length, qz.length]; exact hl
                      refine ⟨a, b, xs, zs, rfl, rfl, h, hb, hx, ?_⟩
                      have oa : Own env1 σ a := ⟨i, _, hi, ea⟩
                      have hL := ps.rel.sz.lstU (a := a) (xs := xs ++ zs) (by rw [List.length_append]; exact hx)
                      have q' : RepAllF F env1 σ H' (xs ++ zs) (ds ++ ys) := q.append qz
                      obtain ⟨rel', hw⟩ := ps.rel.put hi ea hL (.lst upd_same (q'.mono (Kp.upd (.inr (.inr oa))) fun _ _ z => z))
                      exact o σ _ rel' (ps.toLat.trans (Lat.put ps.rel hi ea hw))
                  · rw [if_neg hl] at o; exact o.elim
                | _ => exact o.elim
              | _ => exact o.elim
      | _ => exact o.elim
theorem set_any : PSet X (fun o i v H Q => ∃ r, PSet X r ∧ r o i v H Q) := fun pins s σ H o i v ov iv u Q I ro ri rv ⟨r, hr, h⟩ => hr pins s σ H o i v ov iv u Q I ro ri rv h
theorem set_dict (hu : X.A.units + 1 < cLine) : PSet X (fun o i v H Q => ∃ a H', o = .ref a ∧ DPut H a i v H' ∧ Q H') := fun pins s σ H o i v ov iv u Q I ro ri rv ⟨a, H', eo, g, q⟩ => by
  subst eo
  cases ro
  exact d_setItem hu I g ri rv fun s4 I4 => ⟨H', I4, q⟩
theorem ss_setI {i : Nat} {x : Str} {pn ps : Pos} (hu : X.A.units + 65 < cLine) (hN : X.N[i]? = some x) (hv : Vis X.env.scope x) (hd : (x == ("__debug__" : Str)) = false) (hcd : (x == ("__classdict__" : Str)) = false) (he : PE X e (tR X fr fa)) (hk : PE X k (tR X fr' fb))
    (ha : ∀ v, assign (.Subscript (.Name x pn) k ps) X.env v = (do
      let ov ← holding [v] (eval (.Name x pn) X.env)
      let iv ← holding [v, ov] (eval k X.env)
      standAt ps
      holding [v, ov, iv] (setItem ov iv v)
      release [v, ov, iv] [])) (hs : swapsWithSole [.Subscript (.Name x pn) k ps] e pos.line X.env = pure false) (hw : swappedStores [.Subscript (.Name x pn) k ps] e X.env = pure none) (h1 : (assignEach [.Subscript (.Name x pn) k ps] X.env).map (·.2) = [assign (.Subscript (.Name x pn) k ps) X.env]) :
    PS X (.Assign [.Subscript (.Name x pn) k ps] e pos) (tS X fun env => (fa env).bind fun p => match mk p.2 i with
      | none => .bad
      | some _ => (fb p.2).bind fun q => setM q.2 i q.1 p.1) :=
  psImp (ps_asg (peWeak he) (pg_sub (pe_var hN hv hd hcd) (peWeak hk) set_any ha) hs hw h1) fun E σ H ⟨F, env, g, rel, o⟩ => ⟨F, env, g, rel, by
    dsimp only at o
    cases e1 : fa env with
    | exc c d => rw [e1] at o; exact o
    | bad => rw [e1] at o; exact o
    | ok p =>
      rw [e1] at o
      obtain ⟨d1, env1⟩ := p
      intro v H' ps rv _
      have o : OutS F env σ H (match mk env1 i with
        | none => .bad
        | some _ => (fb env1).bind fun q => setM q.2 i q.1 d1) E := o
      cases e0 : mk env1 i with
      | none => rw [e0] at o; exact o.elim
      | some d0 =>
        rw [e0] at o
        obtain ⟨_, a, ea, _⟩ := mkV ps.rel e0
        refine ⟨.ref a, ea, F, env1, g, ps.rel, ?_⟩
        have o : OutS F env σ H ((fb env1).bind fun q => setM q.2 i q.1 d1) E := o
        cases e2 : fb env1 with
        | exc c d => rw [e2] at o; exact o
        | bad => rw [e2] at o; exact o
        | ok q =>
          rw [e2] at o
          obtain ⟨d2, env2⟩ := q
          intro u H2 ps2 ru _
          have rv2 := ps2.rep rv
          have la2 := ps.toLat.trans ps2.toLat
          have o : OutS F env σ H (setM env2 i d2 d1) E := o
          unfold setM at o
          cases e3 : mk env2 i with
          | none => rw [e3] at o; exact o.elim
          | some d3 =>
            rw [e3] at o
            obtain ⟨hi, a', ea', t'⟩ := mkV ps2.rel e3
            rw [ea] at ea'
            cases ea'
            have oa : Own env2 σ a := ⟨i, _, hi, ea⟩
            cases t' with
            | lst h q =>
              rename_i xs ds
              cases d2 with
              | int j =>
                have o : OutS F env σ H (if 0 ≤ j ∧ j.toNat < ds.length then .ok (.nx (putM env2 i (.lst (ds.set j.toNat d1)))) else .bad) E := o
                by_cases hj : 0 ≤ j ∧ j.toNat < ds.length
                · rw [if_pos hj] at o
                  cases ru
                  have hix : ixN xs.length j = some j.toNat := by
                    unfold ixN
                    rw [if_pos hj.1, if_pos (by rw [q.length]; omega)]
                  refine ⟨_, set_list, a, xs, j, j.toNat, rfl, rfl, h, hix, ?_⟩
                  have hL := ps2.rel.sz.lstU (a := a) (xs := xs.set j.toNat v) (by rw [List.length_set]; exact ps2.rel.sz.lst a xs (.inl h))
                  have q' : RepAllF F env2 σ H2 (xs.set j.toNat v) (ds.set j.toNat d1) := q.set rv2 _
                  obtain ⟨rel', hw⟩ := ps2.rel.put hi ea hL (.lst upd_same (q'.mono (Kp.upd (.inr (.inr oa))) fun _ _ z => z))
                  exact o σ _ rel' (la2.trans (Lat.put ps2.rel hi ea hw))
                · rw [if_neg hj] at o; exact o.elim
              | _ => exact o.elim
            | dic h q =>
              rename_i xs kvs
              have o : OutS F env σ H (match d2.key with
                | some k => if kvs.length < sizeLine then .ok (.nx (putM env2 i (.dic (putD kvs k d1)))) else .bad
                | none => .bad) E := o
              cases ek : d2.key with
              | none => rw [ek] at o; exact o.elim
              | some ky =>
                rw [ek] at o
                obtain ⟨qk, rfl, rfl⟩ := key_of ru ek
                have o : OutS F env σ H (if kvs.length < sizeLine then .ok (.nx (putM env2 i (.dic (putD kvs (.k qk) d1)))) else .bad) E := o
                by_cases hl : kvs.length < sizeLine
                · rw [if_pos hl] at o
                  have hx : xs.length < sizeLine := by rw [q.length]; exact hl
                  refine ⟨_, set_dict (by omega), a, _, rfl, DPut.k h hx, ?_⟩
                  have hlp := length_putK xs qk v
                  have hL := ps2.rel.sz.dKU (a := a) (xs := putK xs qk v) (by omega)
                  have q' : RepKv F.K F.cl (Avd F.C env2 σ) H2 (putK xs qk v) (putD kvs (.k qk) d1) := RepKv.put rv2 q
                  obtain ⟨rel', hw⟩ := ps2.rel.put hi ea hL (.dic upd_same (q'.mono (Kp.upd (.inr (.inr oa))) fun _ _ z => z))
                  exact o σ _ rel' (la2.trans (Lat.put ps2.rel hi ea hw))
                · rw [if_neg hl] at o; exact o.elim
            | ins h q => exact o.elim⟩
/-- for target in iter: body -/
theorem ss_for {it tgt : Ex} (hc : X.calm = true) (hp : PassesOwn (model X.prog X.w) X.A X.env X.xe) (hi : PI X tg iter (tRI X it fi)) (hnd : ∀ env p, fi env = .ok p → ∀ kvs, p.1 ≠ .dic kvs) (hg : PG X tg (tG X tgt)) (hb : PSs X body (tS X fbd)) (hs : ∀ x, foldedSetIterable iter X.env x = pure x) :
    PS X (.For tg iter body [] pos) (tS X fun env => (fi env).bind fun p => match rowsE it p.1 with
      | some xs => forGo tgt fbd xs p.2
      | none => .bad) :=
  psImp (ps_for hp hc hi hg hb hs) fun E σ H ⟨F, env, g, rel, o⟩ => ⟨F, env, g, rel, by
    dsimp only at o
    cases e1 : fi env with
    | exc c d => rw [e1] at o; exact o
    | bad => rw [e1] at o; exact o
    | ok p =>
      rw [e1] at o
      have nd := hnd env p e1
      obtain ⟨d0, env1⟩ := p
      have o : OutS F env σ H (match rowsE it d0 with
        | some xs => forGo tgt fbd xs env1
        | none => .bad) E := o
      cases er : rowsE it d0 with
      | none => rw [er] at o; exact o.elim
      | some ds =>
        rw [er] at o
        have o : OutS F env σ H (forGo tgt fbd ds env1) E := o
        unfold OutI
        simp only [er]
        refine ⟨fun kvs i v e => absurd e (nd kvs), fun J H1 ps walk => ?_⟩
        refine ⟨fun i m σ2 H2 => m = ds.length - i ∧ i ≤ ds.length ∧ ∃ env2, Rel F env2 σ2 H2 ∧ Lat env1 σ H1 env2 σ2 H2 ∧ OutS F env2 σ2 H2 (forGo tgt fbd (ds.drop i) env2) E, ⟨ds.length, by simp, Nat.zero_le _, env1, ps.rel, Lat.refl, OutS.shift ps.toLat o⟩, ?_⟩
        rintro i m σ2 H2 ⟨rfl, hi', env2, rel2, la2, o2⟩
        have hk : ∀ b o, H1 b = some o → ¬ Avd F.C env1 σ b → H2 b = some o := fun b o e n => la2.kp b o e fun z => n (.inr z)
        have hA : ∀ b, H1 b ≠ none → Avd F.C env2 σ2 b → Avd F.C env1 σ b := fun b hb z => la2.av hb z
        by_cases hlt : i < ds.length
        · right
          obtain ⟨d, hd⟩ : ∃ d, ds[i]? = some d := ⟨ds[i], List.getElem?_eq_getElem hlt⟩
          have ed : ds.drop i = d :: ds.drop (i + 1) := by
            rw [List.drop_eq_getElem_cons hlt]
            rw [List.getElem?_eq_getElem hlt] at hd
            rw [Option.some.inj hd]
          rw [ed] at o2
          have o2 : OutS F env2 σ2 H2 (match bindT tgt d env2 with
            | none => .bad
            | some env1 => (fbd env1).bind fun f => match f with
              | .nx env2 => forGo tgt fbd (ds.drop (i + 1)) env2
              | .rt f d env2 => .ok (.rt f d env2)) E := o2
          refine ⟨walk.go _ H2 hk hA i d hd, fun σ' H' => ∃ env2, Rel F env2 σ' H' ∧ Lat env1 σ H1 env2 σ' H' ∧ OutS F env2 σ' H' (forGo tgt fbd (ds.drop (i + 1)) env2) E, fun σ' H' ⟨env3, r3, l3, o3⟩ => ⟨ds.length - (i + 1), by omega, rfl, hlt, env3, r3, l3, o3⟩, fun x H' y => ?_⟩
          obtain ⟨k3, l3, r3⟩ := walk.yld _ H2 hk hA (fun b z => rel2.avSome z) i d x H' hd y
          have rel3 := rel2.ext k3 (l3 rel2.sz)
          have la3 : Lat env1 σ H1 env2 σ2 H' := la2.trans (Lat.ext k3)
          have o3 := OutS.shift (Lat.ext (env := env2) (σ := σ2) k3) o2
          cases eb : bindT tgt d env2 with
          | none => rw [eb] at o3; exact o3.elim
          | some envb =>
            rw [eb] at o3
            refine ⟨F, env2, d, envb, g, rel3, r3, eb, fun σ4 rel4 la4 _ => ⟨F, envb, g, rel4, ?_⟩⟩
            have o4 : OutS F envb σ4 H' ((fbd envb).bind fun f => match f with
              | .nx env2 => forGo tgt fbd (ds.drop (i + 1)) env2
              | .rt f d env2 => .ok (.rt f d env2)) E := OutS.shift la4 o3
            cases ef : fbd envb with
            | exc c d => rw [ef] at o4; exact o4
            | bad => rw [ef] at o4; exact o4
            | ok fl =>
              rw [ef] at o4
              cases fl with
              | nx env5 => exact fun σ5 H5 rel5 la5 => ⟨env5, rel5, (la3.trans la4).trans la5, OutS.shift la5 o4⟩
              | rt f d env5 => exact o4
        · left
          have ei : i = ds.length := by omega
          subst ei
          rw [List.drop_length] at o2
          exact ⟨walk.stop _ H2 hk hA _ (Nat.le_refl _), o2 σ2 H2 rel2 Lat.refl⟩⟩
end
end Dm
set_option Elab.async false
set_option linter.all false
set_option maxRecDepth 100000
set_option maxHeartbeats 1000000
namespace Dm
open PySem PySem.Spec PyProof.Rows L2
def IOof (ks : List Pk) (vs : List V) : Av := fun a => ∃ i : Nat, ks[i]? = some .io ∧ vs[i]? = some (.ref a)
def AIO (C IO : Av) : Av := fun a => C a ∨ IO a
inductive ArgsOk (K : PySem.W.Frag) (cl : Nat → Addr) (C IO : Av) (H : Hp) : List Pk → List V → List D → Prop
  | nil : ArgsOk K cl C IO H [] [] []
  | dat {v : V} {d : D} {ks : List Pk} {vs : List V} {ds : List D} : Rep K cl (AIO C IO) H v d → ArgsOk K cl C IO H ks vs ds → ArgsOk K cl C IO H (.dat :: ks) (v :: vs) (d :: ds)
  | io {a : Addr} {d : D} {ks : List Pk} {vs : List V} {ds : List D} : Top K cl (AIO C IO) H a d → ¬ C a → ArgsOk K cl C IO H ks vs ds → ArgsOk K cl C IO H (.io :: ks) (.ref a :: vs) (d :: ds)
  | bor {v : V} {d : D} {ks : List Pk} {vs : List V} {ds : List D} : (Rep K cl (AIO C IO) H v d ∨ ∃ a, v = .ref a ∧ TopR K cl (AIO C IO) H a d ∧ ¬ IO a) → ArgsOk K cl C IO H ks vs ds → ArgsOk K cl C IO H (.bor :: ks) (v :: vs) (d :: ds)
inductive OutsOk (K : PySem.W.Frag) (cl : Nat → Addr) (A : Av) (H : Hp) : List Pk → List V → List D → Prop
  | nil : OutsOk K cl A H [] [] []
  | io {a : Addr} {d : D} {ks : List Pk} {vs : List V} {ds : List D} : Top K cl A H a d → OutsOk K cl A H ks vs ds → OutsOk K cl A H (.io :: ks) (.ref a :: vs) (d :: ds)
  | skip {k : Pk} {v : V} {ks : List Pk} {vs : List V} {ds : List D} : k ≠ .io → OutsOk K cl A H ks vs ds → OutsOk K cl A H (k :: ks) (v :: vs) ds
def addA (A : Av) (p : Addr) : Av := fun a => A a ∨ a = p
/-- what a def of such kinds promises -/
def spF (K : PySem.W.Frag) (cl : Nat → Addr) (ks : List Pk) (fresh : Bool) (r : List D → Res (D × List D)) : Sp := fun vs H Q E => ∃ (C : Av) (ds : List D), vs.length = ks.length ∧ ArgsOk K cl C (IOof ks vs) H ks vs ds ∧
  (∀ (i j : Nat) (a : Addr), ks[i]? = some .io → ks[j]? = some .io → vs[i]? = some (.ref a) → vs[j]? = some (.ref a) → i = j) ∧ HL H ∧ (∀ a, C a → H a ≠ none) ∧ match r ds with
  | .ok (d, outs) => ∀ v H', (∀ b o, H b = some o → ¬ IOof ks vs b → H' b = some o) → (∀ b, H b ≠ none → H' b ≠ none) → HL H' → OutsOk K cl (AIO C (IOof ks vs)) H' ks vs outs → Rep K cl (AIO C (IOof ks vs)) H' v d →
      (fresh = true → d.isMut = true → ∃ p, v = .ref p ∧ H p = none ∧ OutsOk K cl (addA (AIO C (IOof ks vs)) p) H' ks vs outs ∧ Top K cl (addA (AIO C (IOof ks vs)) p) H' p d) → Q v H'
  | _ => False

def mkSlot (k : Pk) (d : D) : Slot := match k with
  | .dat => .dat d
  | .bor => .bor d
  | .io => .io d
theorem slots_get : ∀ {ks : List Pk} {ds : List D} {env : En}, slotsOf ks ds = some env → env.length = ks.length ∧ ds.length = ks.length ∧ ∀ (i : Nat) (s : Slot), env[i]? = some s → ∃ k d, ks[i]? = some k ∧ ds[i]? = some d ∧ s = mkSlot k d
  | [], [], env, h => by
    cases h
    exact ⟨rfl, rfl, fun i s e => by simp at e⟩
  | k :: ks, d :: ds, env, h => by
    have step : ∀ (s0 : Slot), s0 = mkSlot k d → (slotsOf ks ds).map (s0 :: ·) = some env → env.length = (k :: ks).length ∧ (d :: ds).length = (k :: ks).length ∧ ∀ (i : Nat) (s : Slot), env[i]? = some s → ∃ k' d', (k :: ks)[i]? = some k' ∧ (d :: ds)[i]? = some d' ∧ s = mkSlot k' d' := fun s0 e0 h => by
      rw [Option.map_eq_some_iff] at h
      obtain ⟨env', h1, rfl⟩ := h
      obtain ⟨l1, l2, g⟩ := slots_get h1
      refine ⟨by rw [List.length_cons, List.length_cons, l1], by rw [List.length_cons, List.length_cons, l2], fun i s e => ?_⟩
      cases i with
      | zero =>
        rw [List.getElem?_cons_zero] at e
        exact ⟨k, d, rfl, rfl, (Option.some.inj e).symm.trans e0⟩
      | succ i => exact g i s (by simpa using e)
    cases k with
    | dat => exact step _ rfl h
    | bor => exact step _ rfl h
    | io => exact step _ rfl h
  | [], _ :: _, _, h => by cases h
  | k :: _, [], _, h => by cases k <;> cases h
theorem ArgsOk.get {K : PySem.W.Frag} {cl : Nat → Addr} {C IO : Av} {H : Hp} : ∀ {ks : List Pk} {vs : List V} {ds : List D} {i : Nat} {k : Pk} {d : D}, ArgsOk K cl C IO H ks vs ds → ks[i]? = some k → ds[i]? = some d → ∃ v, vs[i]? = some v ∧ (match k with
      | .dat => Rep K cl (AIO C IO) H v d
      | .io => ∃ a, v = .ref a ∧ Top K cl (AIO C IO) H a d ∧ ¬ C a
      | .bor => Rep K cl (AIO C IO) H v d ∨ ∃ a, v = .ref a ∧ TopR K cl (AIO C IO) H a d ∧ ¬ IO a)
  | _, _, _, _, _, _, .nil, e, _ => by simp at e
  | _, _, _, 0, _, _, .dat r _, e, e2 => by
    simp at e e2
    subst e e2
    exact ⟨_, rfl, r⟩
  | _, _, _, 0, _, _, .io t n _, e, e2 => by
    simp at e e2
    subst e e2
    exact ⟨_, rfl, _, rfl, t, n⟩
  | _, _, _, 0, _, _, .bor r _, e, e2 => by
    simp at e e2
    subst e e2
    exact ⟨_, rfl, r⟩
  | _, _, _, i + 1, _, _, .dat _ q, e, e2 => ArgsOk.get (i := i) q (by simpa using e) (by simpa using e2)
  | _, _, _, i + 1, _, _, .io _ _ q, e, e2 => ArgsOk.get (i := i) q (by simpa using e) (by simpa using e2)
  | _, _, _, i + 1, _, _, .bor _ q, e, e2 => ArgsOk.get (i := i) q (by simpa using e) (by simpa using e2)
theorem ArgsOk.len {K : PySem.W.Frag} {cl : Nat → Addr} {C IO : Av} {H : Hp} : ∀ {ks : List Pk} {vs : List V} {ds : List D}, ArgsOk K cl C IO H ks vs ds → vs.length = ks.length ∧ ds.length = ks.length
  | _, _, _, .nil => ⟨rfl, rfl⟩
  | _, _, _, .dat _ q => by simp [q.len]
  | _, _, _, .io _ _ q => by simp [q.len]
  | _, _, _, .bor _ q => by simp [q.len]
theorem outs_of {K : PySem.W.Frag} {cl : Nat → Addr} {A : Av} {H : Hp} : ∀ {ks : List Pk} {vs : List V} {e : En} {outs : List D}, vs.length = ks.length → outsOf ks e = some outs → (∀ (i : Nat) (d : D), ks[i]? = some .io → e[i]? = some (.io d) → ∃ a, vs[i]? = some (.ref a) ∧ Top K cl A H a d) → OutsOk K cl A H ks vs outs
  | [], [], e, outs, _, h, _ => by
    cases e <;> (cases h; exact .nil)
  | [], _ :: _, _, _, hl, _, _ => by cases hl
  | _ :: _, [], _, _, hl, _, _ => by cases hl
  | k :: ks, v :: vs, e, outs, hl, h, g => by
    have hl' : vs.length = ks.length := by simpa using hl
    cases e with
    | nil => cases k <;> cases h
    | cons s e =>
      have g' : ∀ (i : Nat) (d : D), ks[i]? = some .io → e[i]? = some (.io d) → ∃ a, vs[i]? = some (.ref a) ∧ Top K cl A H a d := fun i d h1 h2 => by
        obtain ⟨a, h3, h4⟩ := g (i + 1) d (by simpa using h1) (by simpa using h2)
        exact ⟨a, by simpa using h3, h4⟩
      cases k with
      | dat => exact .skip (fun z => nomatch z) (outs_of hl' (show outsOf ks e = some outs from h) g')
      | bor => exact .skip (fun z => nomatch z) (outs_of hl' (show outsOf ks e = some outs from h) g')
      | io =>
        cases s with
        | io d =>
          have h : (outsOf ks e).map (d :: ·) = some outs := h
          rw [Option.map_eq_some_iff] at h
          obtain ⟨os, h1, rfl⟩ := h
          obtain ⟨a, h2, h3⟩ := g 0 d rfl rfl
          simp at h2
          subst h2
          exact .io h3 (outs_of hl' h1 g')
        | _ => cases h
section
variable {K : PySem.W.Frag} {cl : Nat → Addr} {C : Av} {H : Hp} {ks : List Pk} {vs : List V} {ds : List D} {env0 : En} {N : List Str} {ns : Nat}
/-- at the entry -/
theorem rel_start (hs : slotsOf ks ds = some env0) (ok : ArgsOk K cl C (IOof ks vs) H ks vs ds) (inj : ∀ (i j : Nat) (a : Addr), ks[i]? = some .io → ks[j]? = some .io → vs[i]? = some (.ref a) → vs[j]? = some (.ref a) → i = j) (hl : HL H) (hC : ∀ a, C a → H a ≠ none)
    (hN : N.length = ns) (hk : ks.length ≤ ns) : Rel ⟨K, cl, C, H, IOof ks vs, fun _ _ => False⟩ (env0 ++ List.replicate (ns - ks.length) .un) (start N vs) H ∧ ∀ a, Avd C (env0 ++ List.replicate (ns - ks.length) .un) (start N vs) a ↔ AIO C (IOof ks vs) a := by
  obtain ⟨l1, l2, g⟩ := slots_get hs
  obtain ⟨lv, _⟩ := ok.len
  have eg : ∀ {i : Nat} {s : Slot}, (env0 ++ List.replicate (ns - ks.length) .un)[i]? = some s → s ≠ .un → env0[i]? = some s := fun {i s} e ns' => by
    by_cases hi : i < env0.length
    · rw [List.getElem?_append_left hi] at e; exact e
    · rw [List.getElem?_append_right (by omega)] at e
      rw [List.getElem?_replicate] at e
      split at e
      · exact absurd (Option.some.inj e).symm ns'
      · cases e
  have sg : ∀ {i : Nat} {v : V}, vs[i]? = some v → (start N vs)[i]? = some (some v) := fun {i v} e => by
    unfold L2.start
    have hi := (List.getElem?_eq_some_iff.mp e).1
    rw [List.getElem?_append_left (by rw [List.length_map]; exact hi), List.getElem?_map, e]
    rfl
  have slot_io : ∀ {i : Nat} {d : D}, (env0 ++ List.replicate (ns - ks.length) .un)[i]? = some (.io d) → ks[i]? = some .io ∧ ∃ a, vs[i]? = some (.ref a) ∧ Top K cl (AIO C (IOof ks vs)) H a d ∧ ¬ C a := fun {i d} e => by
    obtain ⟨k, d', h1, h2, h3⟩ := g i _ (eg e (fun z => nomatch z))
    obtain ⟨v, h4, h5⟩ := ok.get h1 h2
    cases k with
    | dat => cases h3
    | bor => cases h3
    | io =>
      cases h3
      obtain ⟨a, rfl, t, n⟩ := h5
      exact ⟨h1, a, h4, t, n⟩
  have no_own : ∀ {i : Nat} {d : D}, (env0 ++ List.replicate (ns - ks.length) .un)[i]? ≠ some (.own d) := fun {i d} e => by
    obtain ⟨k, d', h1, h2, h3⟩ := g i _ (eg e (fun z => nomatch z))
    cases k <;> cases h3
  have own_iff : ∀ a, Own (env0 ++ List.replicate (ns - ks.length) .un) (start N vs) a ↔ IOof ks vs a := fun a => by
    constructor
    · rintro ⟨i, d, h | h, e⟩
      · exact absurd h no_own
      · obtain ⟨h1, b, h2, _⟩ := slot_io h
        rw [sg h2] at e
        cases e
        exact ⟨i, h1, h2⟩
    · rintro ⟨i, h1, h2⟩
      have hi : i < ds.length := by rw [l2]; exact (List.getElem?_eq_some_iff.mp h1).1
      have hi0 : i < env0.length := by rw [l1]; exact (List.getElem?_eq_some_iff.mp h1).1
      obtain ⟨k, d, h3, h4, h5⟩ := g i env0[i] (List.getElem?_eq_getElem hi0)
      rw [h1] at h3
      cases h3
      refine ⟨i, d, .inr ?_, sg h2⟩
      rw [List.getElem?_append_left hi0, List.getElem?_eq_getElem hi0, h5]
      rfl
  have av : ∀ a, Avd C (env0 ++ List.replicate (ns - ks.length) .un) (start N vs) a ↔ AIO C (IOof ks vs) a := fun a => by
    unfold Avd AIO
    rw [own_iff]
  have hA : ∀ b, H b ≠ none → Avd C (env0 ++ List.replicate (ns - ks.length) .un) (start N vs) b → AIO C (IOof ks vs) b := fun b _ z => (av b).mp z
  refine ⟨⟨?_, fun i d e => ?_, fun i d e => absurd e no_own, fun i d e => ?_, fun i d e => ?_, fun i j a di dj h h' e e' => ?_, fun b o e _ => e, hC, fun a ⟨i, h1, h2⟩ => ?_, hl⟩, av⟩
  · unfold L2.start
    rw [List.length_append, List.length_append, List.length_map, List.length_replicate, List.length_replicate, l1, lv, hN]
  · obtain ⟨k, d', h1, h2, h3⟩ := g i _ (eg e (fun z => nomatch z))
    obtain ⟨v, h4, h5⟩ := ok.get h1 h2
    cases k with
    | dat => cases h3; exact ⟨v, sg h4, h5.mono Kp.refl hA⟩
    | bor => cases h3
    | io => cases h3
  · obtain ⟨h1, a, h2, t, n⟩ := slot_io e
    exact ⟨a, sg h2, t.mono Kp.refl hA (fun _ q => q), n, i, h1, h2⟩
  · obtain ⟨k, d', h1, h2, h3⟩ := g i _ (eg e (fun z => nomatch z))
    obtain ⟨v, h4, h5⟩ := ok.get h1 h2
    cases k with
    | dat => cases h3
    | io => cases h3
    | bor =>
      cases h3
      refine ⟨v, sg h4, ?_⟩
      rcases h5 with h5 | ⟨a, e2, t, n⟩
      · exact .inl (h5.mono Kp.refl hA)
      · exact .inr ⟨a, e2, t.mono Kp.refl hA (fun _ q => q), t.nn, n⟩
  · rcases h with h | h
    · exact absurd h no_own
    · rcases h' with h' | h'
      · exact absurd h' no_own
      · obtain ⟨a1, b1, c1, _⟩ := slot_io h
        obtain ⟨a2, b2, c2, _⟩ := slot_io h'
        rw [sg c1] at e
        rw [sg c2] at e'
        cases e
        cases e'
        exact inj i j _ a1 a2 c1 c2
  · have hi0 : i < env0.length := by rw [l1]; exact (List.getElem?_eq_some_iff.mp h1).1
    obtain ⟨k, d, h3, h4, h5⟩ := g i env0[i] (List.getElem?_eq_getElem hi0)
    obtain ⟨v, h6, h7⟩ := ok.get h3 h4
    rw [h1] at h3
    cases h3
    obtain ⟨b, rfl, t, _⟩ := h7
    rw [h2] at h6
    cases h6
    exact t.nn
/-- from the body to the promise -/
theorem sp_body {X : Cx} {fn : Fn} {cal : Nat → List D → Res (D × List D)} {Q : VK} {E : XK} (hks : fn.ks = ks) (hK : X.K = K) (hcl : cl = clOf K) (hN : N.length = fn.ns) (hk : ks.length ≤ fn.ns) (h : spF K cl ks fn.fresh (runF cal fn) vs H Q E) :
    tS X (exS cal fn.body) { nx := fun _ H' => Q .non H', rt := Q } (start N vs) H := by
  subst hks
  obtain ⟨C, ds, lv, ok, inj, hl, hC, hr⟩ := h
  unfold runF at hr
  cases es : slotsOf fn.ks ds with
  | none => rw [es] at hr; exact hr.elim
  | some env0 =>
    rw [es] at hr
    obtain ⟨rel, av⟩ := rel_start (N := N) es ok inj hl hC hN hk
    refine ⟨⟨K, cl, C, H, IOof fn.ks vs, fun _ _ => False⟩, env0 ++ List.replicate (fn.ns - fn.ks.length) .un, ⟨hK.symm, fun _ _ z => z, by rw [hcl, hK]⟩, rel, ?_⟩
    have io_back : ∀ {e : En} {σ' : SV} {H' : Hp}, Rel ⟨K, cl, C, H, IOof fn.ks vs, fun _ _ => False⟩ e σ' H' → Lat (env0 ++ List.replicate (fn.ns - fn.ks.length) .un) (start N vs) H e σ' H' → ∀ b, IOof fn.ks vs b → Own e σ' b := fun {e σ' H'} rel' la b hb => by
      have : Own (env0 ++ List.replicate (fn.ns - fn.ks.length) .un) (start N vs) b := by
        rcases (av b).mpr (.inr hb) with z | z
        · obtain ⟨i, h1, h2⟩ := hb
          obtain ⟨k, d, h3, h4, h5⟩ : ∃ k d, fn.ks[i]? = some k ∧ ds[i]? = some d ∧ True := ⟨.io, ds[i]'(by have := ok.len; have := (List.getElem?_eq_some_iff.mp h1).1; omega), h1, List.getElem?_eq_getElem _, trivial⟩
          obtain ⟨v, h6, h7⟩ := ok.get h1 h4
          obtain ⟨a, rfl, _, n⟩ := h7
          rw [h2] at h6
          cases h6
          exact absurd z n
        · exact z
      obtain ⟨i, d, hi, ei⟩ := this
      rcases hi with hi | hi
      · obtain ⟨a, _, _, _, z⟩ := rel.own i d hi
        have := slots_get es
        exfalso
        obtain ⟨l1, _, g⟩ := this
        by_cases h0 : i < env0.length
        · rw [List.getElem?_append_left h0] at hi
          obtain ⟨k, d', _, _, h3⟩ := g i _ hi
          cases k <;> cases h3
        · rw [List.getElem?_append_right (by omega), List.getElem?_replicate] at hi
          split at hi <;> cases hi
      · obtain ⟨d', h1, h2⟩ := la.io i d hi
        exact ⟨i, d', .inr h1, h2.trans ei⟩
    have outs_ok : ∀ {e : En} {σ' : SV} {H' : Hp} {outs : List D} {A : Av}, Rel ⟨K, cl, C, H, IOof fn.ks vs, fun _ _ => False⟩ e σ' H' → Lat (env0 ++ List.replicate (fn.ns - fn.ks.length) .un) (start N vs) H e σ' H' → outsOf fn.ks e = some outs →
        (∀ (i : Nat) (d : D) (a : Addr), e[i]? = some (.io d) → σ'[i]? = some (some (.ref a)) → Top K cl A H' a d) → OutsOk K cl A H' fn.ks vs outs := fun {e σ' H' outs A} rel' la ho ht => by
      refine outs_of lv ho fun i d h1 h2 => ?_
      obtain ⟨a, h3, _, _⟩ := rel'.io i d h2
      have hi0 : ∃ d0, (env0 ++ List.replicate (fn.ns - fn.ks.length) .un)[i]? = some (.io d0) := by
        obtain ⟨l1, l2, g⟩ := slots_get es
        have hi : i < env0.length := by rw [l1]; exact (List.getElem?_eq_some_iff.mp h1).1
        obtain ⟨k, d0, h4, _, h5⟩ := g i env0[i] (List.getElem?_eq_getElem hi)
        rw [h1] at h4
        cases h4
        exact ⟨d0, by rw [List.getElem?_append_left hi, List.getElem?_eq_getElem hi, h5]; rfl⟩
      obtain ⟨d0, hd0⟩ := hi0
      obtain ⟨_, _, h6⟩ := la.io i d0 hd0
      have hv : ∃ v, vs[i]? = some v := ⟨vs[i]'(by have := (List.getElem?_eq_some_iff.mp h1).1; omega), List.getElem?_eq_getElem _⟩
      obtain ⟨v, hv⟩ := hv
      have h7 : (start N vs)[i]? = some (some v) := by
        unfold L2.start
        have hi := (List.getElem?_eq_some_iff.mp hv).1
        rw [List.getElem?_append_left (by rw [List.length_map]; exact hi), List.getElem?_map, hv]
        rfl
      rw [h6, h7] at h3
      cases h3
      exact ⟨a, hv, ht i d a h2 (h6.trans h7)⟩
    have hr : (match (exS cal fn.body (env0 ++ List.replicate (fn.ns - fn.ks.length) .un)).bind fun r => (match r with
      | .nx e => if fn.fresh then Res.bad else (match outsOf fn.ks e with
        | some os => .ok (D.non, os)
        | none => .bad)
      | .rt fr d e => if fn.fresh && !fr then .bad else (match outsOf fn.ks e with
        | some os => .ok (d, os)
        | none => .bad)) with
      | .ok (d, outs) => ∀ v H', (∀ b o, H b = some o → ¬ IOof fn.ks vs b → H' b = some o) → (∀ b, H b ≠ none → H' b ≠ none) → HL H' → OutsOk K cl (AIO C (IOof fn.ks vs)) H' fn.ks vs outs → Rep K cl (AIO C (IOof fn.ks vs)) H' v d →
          (fn.fresh = true → d.isMut = true → ∃ p, v = .ref p ∧ H p = none ∧ OutsOk K cl (addA (AIO C (IOof fn.ks vs)) p) H' fn.ks vs outs ∧ Top K cl (addA (AIO C (IOof fn.ks vs)) p) H' p d) → Q v H'
      | _ => False) := hr
    cases ex : exS cal fn.body (env0 ++ List.replicate (fn.ns - fn.ks.length) .un) with
    | exc c d => rw [ex] at hr; exact hr.elim
    | bad => rw [ex] at hr; exact hr.elim
    | ok fl =>
      rw [ex] at hr
      cases fl with
      | nx e =>
        intro σ' H' rel' la
        have hA : ∀ b, H' b ≠ none → AIO C (IOof fn.ks vs) b → Avd C e σ' b := fun b _ z => z.elim .inl fun z => .inr (io_back rel' la b z)
        cases hf : fn.fresh with
        | true => simp only [Res.bind, hf, if_true] at hr
        | false =>
          simp only [Res.bind, hf, Bool.false_eq_true, if_false] at hr
          cases ho : outsOf fn.ks e with
          | none => simp only [ho] at hr
          | some outs =>
            simp only [ho] at hr
            refine hr .non H' (fun b o e1 n => rel'.fr b o e1 n) la.nn rel'.sz (outs_ok rel' la ho fun i d a h1 h2 => ?_) .non (fun z => nomatch z)
            obtain ⟨a', h3, t, _⟩ := rel'.io i d h1
            rw [h2] at h3
            cases h3
            exact t.mono Kp.refl hA fun _ q => q
      | rt fr d e =>
        intro v σ' H' rel' la rv hfr
        have hA : ∀ b, H' b ≠ none → AIO C (IOof fn.ks vs) b → Avd C e σ' b := fun b _ z => z.elim .inl fun z => .inr (io_back rel' la b z)
        by_cases hf : (fn.fresh && !fr) = true
        · simp only [Res.bind, hf, if_true] at hr
        · simp only [Res.bind, hf, Bool.false_eq_true, if_false] at hr
          cases ho : outsOf fn.ks e with
          | none => simp only [ho] at hr
          | some outs =>
            simp only [ho] at hr
            refine hr v H' (fun b o e1 n => rel'.fr b o e1 n) la.nn rel'.sz (outs_ok rel' la ho fun i d a h1 h2 => ?_) (rv.mono Kp.refl hA) fun f1 m => ?_
            · obtain ⟨a', h3, t, _⟩ := rel'.io i d h1
              rw [h2] at h3
              cases h3
              exact t.mono Kp.refl hA fun _ q => q
            · have hfr' : fr = true := by
                cases fr with
                | true => rfl
                | false => exact absurd (by simp [f1]) hf
              obtain ⟨p, rfl, h0, relp, tp⟩ := hfr hfr' m
              have hA2 : ∀ b, H' b ≠ none → addA (AIO C (IOof fn.ks vs)) p b → Avd (fun a => C a ∨ a = p) e σ' b := fun b _ z => by
                rcases z with (z | z) | z
                · exact .inl (.inl z)
                · exact .inr (io_back rel' la b z)
                · exact .inl (.inr z)
              refine ⟨p, rfl, h0, outs_ok rel' la ho fun i d a h1 h2 => ?_, tp.mono Kp.refl hA2 fun _ q => q⟩
              obtain ⟨a', h3, t, _⟩ := relp.io i d h1
              rw [h2] at h3
              cases h3
              exact t.mono Kp.refl hA2 fun _ q => q
end
end Dm
set_option Elab.async false
set_option linter.all false
set_option maxRecDepth 100000
set_option maxHeartbeats 1000000
namespace Dm
open PySem PySem.Spec PyProof.Rows L2
def isLent : Ex → Bool
  | .ioA _ | .borA _ => true
  | _ => false
inductive ArgVs (F : Fx) (env : En) (σ : SV) (H : Hp) : Ex → List V → List D → Prop
  | nil : ArgVs F env σ H .nil [] []
  | io {i : Nat} {es : Ex} {v : V} {d : D} {vs : List V} {ds : List D} : σ[i]? = some (some v) → ArgVs F env σ H es vs ds → ArgVs F env σ H (.cons (.ioA i) es) (v :: vs) (d :: ds)
  | bor {i : Nat} {es : Ex} {v : V} {d : D} {vs : List V} {ds : List D} : σ[i]? = some (some v) → ArgVs F env σ H es vs ds → ArgVs F env σ H (.cons (.borA i) es) (v :: vs) (d :: ds)
  | dat {e es : Ex} {v : V} {d : D} {vs : List V} {ds : List D} : isLent e = false → RepF F env σ H v d → ArgVs F env σ H es vs ds → ArgVs F env σ H (.cons e es) (v :: vs) (d :: ds)
theorem ArgVs.mono {F : Fx} {env env1 : En} {σ : SV} {H H1 : Hp} (p : Lat env σ H env1 σ H1) : ∀ {e : Ex} {vs : List V} {ds : List D}, ArgVs F env σ H e vs ds → ArgVs F env1 σ H1 e vs ds
  | _, _, _, .nil => .nil
  | _, _, _, .io h q => .io h (ArgVs.mono p q)
  | _, _, _, .bor h q => .bor h (ArgVs.mono p q)
  | _, _, _, .dat h r q => .dat h (p.rep r) (ArgVs.mono p q)
def OutC (args : Ex) (F : Fx) (env : En) (σ : SV) (H : Hp) (r : Res (List D × En)) (Q : List V → Hp → Prop) : Prop := match r with
  | .ok p => ∀ vs H', Pst F env p.2 σ H H' → ArgVs F p.2 σ H' args vs p.1 → Q vs H'
  | .exc c d => F.X c d
  | .bad => False
def tRC (X : Cx) (args : Ex) (f : En → Res (List D × En)) : TA := fun σ H Q => ∃ F env, Good X F ∧ Rel F env σ H ∧ OutC args F env σ H (f env) Q
section
variable {X : Cx} {e : Expr} {es : List Expr} {fr fr' fresh : Bool} {pos p : Pos} {fa : En → Res (D × En)} {fs : En → Res (List D × En)}
theorem OutC.shift {args : Ex} {F : Fx} {env env1 : En} {σ : SV} {H H1 : Hp} {r : Res (List D × En)} {Q : List V → Hp → Prop} (q : Pst F env env1 σ H H1) (h : OutC args F env σ H r Q) : OutC args F env1 σ H1 r Q := by
  cases r with
  | ok p => exact fun vs H' ps rv => h vs H' (q.trans ps) rv
  | exc c d => exact h
  | bad => exact h
theorem c_nil : PA X [] (tRC X .nil fun env => .ok ([], env)) := paImp pa_nil fun σ H Q ⟨F, env, g, rel, o⟩ => o [] H (Pst.refl rel) .nil
theorem c_dat {e' es' : Ex} (hl : isLent e' = false) (ha : PE X e (tR X fr fa)) (hr : PA X es (tRC X es' fs)) (hs : starEach (e :: es) X.env = (false, eval e X.env) :: starEach es X.env) :
    PA X (e :: es) (tRC X (.cons e' es') fun env => (fa env).bind fun p => (fs p.2).bind fun q => .ok (p.1 :: q.1, q.2)) :=
  paImp (pa_cons (peWeak ha) hr hs) fun σ H Q ⟨F, env, g, rel, o⟩ => ⟨F, env, g, rel, by
    dsimp only at o
    cases e1 : fa env with
    | exc c d => rw [e1] at o; exact o
    | bad => rw [e1] at o; exact o
    | ok q =>
      rw [e1] at o
      intro v H' ps rv _
      refine ⟨F, q.2, g, ps.rel, ?_⟩
      have o : OutC (.cons e' es') F env σ H ((fs q.2).bind fun q' => .ok (q.1 :: q'.1, q'.2)) Q := o
      cases e2 : fs q.2 with
      | exc c d => rw [e2] at o; exact o
      | bad => rw [e2] at o; exact o
      | ok q2 =>
        rw [e2] at o
        exact fun vs H2 ps2 rvs => o (v :: vs) H2 (ps.trans ps2) (.dat hl (ps2.rep rv) rvs)⟩
theorem c_io {i : Nat} {x : Str} {es' : Ex} (hN : X.N[i]? = some x) (hv : Vis X.env.scope x) (hd : (x == ("__debug__" : Str)) = false) (hcd : (x == ("__classdict__" : Str)) = false) (hr : PA X es (tRC X es' fs)) (hs : starEach (.Name x p :: es) X.env = (false, eval (.Name x p) X.env) :: starEach es X.env) :
    PA X (.Name x p :: es) (tRC X (.cons (.ioA i) es') fun env => (match mk env i with | some _ => Res.ok (D.non, env) | none => .bad).bind fun p => (fs p.2).bind fun q => .ok (p.1 :: q.1, q.2)) :=
  paImp (pa_cons (pe_var hN hv hd hcd) hr hs) fun σ H Q ⟨F, env, g, rel, o⟩ => by
    dsimp only at o
    cases em : mk env i with
    | none => rw [em] at o; exact o.elim
    | some d =>
      rw [em] at o
      obtain ⟨_, a, ea, _⟩ := mkV rel em
      refine ⟨.ref a, ea, F, env, g, rel, ?_⟩
      have o : OutC (.cons (.ioA i) es') F env σ H ((fs env).bind fun q' => .ok (D.non :: q'.1, q'.2)) Q := o
      cases e2 : fs env with
      | exc c d => rw [e2] at o; exact o
      | bad => rw [e2] at o; exact o
      | ok q2 =>
        rw [e2] at o
        exact fun vs H2 ps2 rvs => o (.ref a :: vs) H2 ps2 (.io ea rvs)
theorem c_bor {i : Nat} {x : Str} {es' : Ex} (hN : X.N[i]? = some x) (hv : Vis X.env.scope x) (hd : (x == ("__debug__" : Str)) = false) (hcd : (x == ("__classdict__" : Str)) = false) (hr : PA X es (tRC X es' fs)) (hs : starEach (.Name x p :: es) X.env = (false, eval (.Name x p) X.env) :: starEach es X.env) :
    PA X (.Name x p :: es) (tRC X (.cons (.borA i) es') fun env => (match pk env i with | some _ => Res.ok (D.non, env) | none => .bad).bind fun p => (fs p.2).bind fun q => .ok (p.1 :: q.1, q.2)) :=
  paImp (pa_cons (pe_var hN hv hd hcd) hr hs) fun σ H Q ⟨F, env, g, rel, o⟩ => by
    dsimp only at o
    cases em : pk env i with
    | none => rw [em] at o; exact o.elim
    | some d =>
      rw [em] at o
      obtain ⟨v, ea, _⟩ := pkV rel em
      refine ⟨v, ea, F, env, g, rel, ?_⟩
      have o : OutC (.cons (.borA i) es') F env σ H ((fs env).bind fun q' => .ok (D.non :: q'.1, q'.2)) Q := o
      cases e2 : fs env with
      | exc c d => rw [e2] at o; exact o
      | bad => rw [e2] at o; exact o
      | ok q2 =>
        rw [e2] at o
        exact fun vs H2 ps2 rvs => o (v :: vs) H2 ps2 (.bor ea rvs)

def matchA : List Pk → Ex → Bool
  | [], .nil => true
  | .io :: ks, .cons (.ioA _) es => matchA ks es
  | .bor :: ks, .cons (.ioA _) es => false
  | .bor :: ks, .cons _ es => matchA ks es
  | .dat :: ks, .cons e es => !isLent e && matchA ks es
  | _, _ => false
def ioIdx : Ex → List Nat
  | .cons (.ioA i) es => i :: ioIdx es
  | .cons _ es => ioIdx es
  | _ => []
variable {F : Fx} {env env2 : En} {σ : SV} {H H' : Hp}
/-- the slots of what is lent for change -/
theorem ioof_own (rel : Rel F env σ H) : ∀ {ks : List Pk} {args : Ex} {vs : List V} {ds0 ds : List D}, matchA ks args = true → ArgVs F env σ H args vs ds0 → argsD args ds0 env = some ds → ∀ (k : Nat) (a : Addr), ks[k]? = some .io → vs[k]? = some (.ref a) → ∃ i d, i ∈ ioIdx args ∧ mk env i = some d ∧ σ[i]? = some (some (.ref a))
  | [], _, _, _, _, _, _, _, k, a, h, _ => by simp at h
  | kk :: ks, .nil, _, _, _, hm, _, _, _, _, _, _ => by cases kk <;> cases hm
  | kk :: ks, .cons e es, vs, ds0, ds, hm, av, ha, k, a, h1, h2 => by
    have rest : ∀ {vs' : List V} {ds0' ds' : List D} (k' : Nat), matchA ks es = true → ArgVs F env σ H es vs' ds0' → argsD es ds0' env = some ds' → ks[k']? = some .io → vs'[k']? = some (.ref a) → ∃ i d, i ∈ ioIdx (.cons e es) ∧ mk env i = some d ∧ σ[i]? = some (some (.ref a)) := fun k' m av ha h1 h2 => by
      obtain ⟨i, d, hi, hmk, hs⟩ := ioof_own rel m av ha k' a h1 h2
      refine ⟨i, d, ?_, hmk, hs⟩
      unfold ioIdx
      split <;> simp_all
    cases av with
    | io hs q =>
      rename_i i v d vs ds0'
      cases kk with
      | io =>
        have ha : (match mk env i, argsD es ds0' env with | some x, some xs => some (x :: xs) | _, _ => none) = some ds := ha
        cases em : mk env i with
        | none => rw [em] at ha; cases ha
        | some dm =>
          cases ea : argsD es ds0' env with
          | none => rw [em, ea] at ha; cases ha
          | some xs =>
            cases k with
            | zero =>
              simp at h2
              subst h2
              exact ⟨i, dm, by simp [ioIdx], em, hs⟩
            | succ k => exact rest k hm q ea (by simpa using h1) (by simpa using h2)
      | bor => cases hm
      | dat => cases hm
    | bor hs q =>
      rename_i i v d vs ds0'
      cases kk with
      | io => cases hm
      | dat => cases hm
      | bor =>
        have ha : (match pk env i, argsD es ds0' env with | some x, some xs => some (x :: xs) | _, _ => none) = some ds := ha
        cases em : pk env i with
        | none => rw [em] at ha; cases ha
        | some dm =>
          cases ea : argsD es ds0' env with
          | none => rw [em, ea] at ha; cases ha
          | some xs =>
            cases k with
            | zero => simp at h1
            | succ k => exact rest k hm q ea (by simpa using h1) (by simpa using h2)
    | dat hl r q =>
      rename_i v d vs ds0'
      have ha : ∃ xs, argsD es ds0' env = some xs := by
        unfold argsD at ha
        cases ea : argsD es ds0' env with
        | none => rw [ea] at ha; split at ha <;> simp_all
        | some xs => exact ⟨xs, rfl⟩
      obtain ⟨xs, ea⟩ := ha
      cases k with
      | zero =>
        simp at h1
        subst h1
        cases e <;> simp_all [matchA, isLent]
      | succ k =>
        have hm' : matchA ks es = true := by
          cases kk with
          | io => cases e <;> simp_all [matchA, isLent]
          | bor => cases e <;> simp_all [matchA, isLent]
          | dat => exact (Bool.and_eq_true_iff.mp hm).2
        exact rest k hm' q ea (by simpa using h1) (by simpa using h2)
end
end Dm
set_option Elab.async false
set_option linter.all false
set_option maxRecDepth 100000
set_option maxHeartbeats 1000000
namespace Dm
open PySem PySem.Spec PyProof.Rows L2
structure FnG (P : Program) (w : World) (K : PySem.W.Frag) (mg : Str → Option Value) (base : Heap) (k : Nat) (f : Addr) (fd : FuncData) (ps : List Str) (sp : Sp) : Prop where
  lenG : ∀ vs H Q E, sp vs H Q E → vs.length = ps.length
  runG : ∀ (B : Around) (st : List PySem.Env) (s : Shared) (H : Hp) (ar : Args) (us : List Value) (vs : List V) (Q : VK) (E : XK), Room k B → B.guards = some [] → Env0 P w K mg base B st s H → BindsTo s fd ar (ps.zip us) → Vals vs us → sp vs H Q E → codeAny (model P w) B (.call (.ref f) ar) (CR CX0 st P w H s Q E) s
def EndG (X : Cx) (pins : List (Addr × Obj)) (σ : L2.St) (Q : VK) (r : Result) (s' : Shared) : Prop := match r with
  | .ok (.ret u) => EP X pins σ Q u s'
  | .ok _ => False
  | .error e => X.xe e s'
section
variable {X : Cx} {k : Nat} {f C : Addr} {fd : FuncData} {ps : List Str} {sp : Sp} {E : XK}
/-- the end of a call, in the caller's words -/
theorem after_G {pins : List (Addr × Obj)} {σ : L2.St} {H : Hp} {s s' : Shared} {Q : VK} {r : Result} (hx : Passes CX0 X E) (I : Inv X pins σ H s) (h : CR CX0 X.stack X.prog X.w H s Q E r s') : EndG X pins σ Q r s' := by
  match r, h with
  | .error e, h => exact hx pins σ H s e s' I h
  | .ok (.ret u), h => exact I.after h
theorem go_G {pins : List (Addr × Obj)} {σ : L2.St} {H : Hp} {s : Shared} {Q : VK} {us : List Value} {vs : List V} (F : FnG X.prog X.w X.K X.mg X.base k f fd ps sp) (hr : Room k X.A) (gd : X.A.guards = some []) (hb : Binds X.K fd ps []) (hx : Passes CX0 X E)
    (I : Inv X pins σ H s) (rr : Vals vs us) (h : sp vs H Q E) : wpAny (model X.prog X.w) X.A (call (.ref f) us) (EP X pins σ Q) X.xe s := by
  have b := hb s us I.kIn (by rw [List.append_nil, ← rr.length, F.lenG _ _ _ _ h])
  rw [List.append_nil] at b
  refine wpAny_call (codeAny_mono (F.runG X.A X.stack s H _ us vs Q E hr gd I.env0 b rr h) fun r s' z => ?_)
  have y : EndG X pins σ Q r s' := after_G hx I z
  clear z
  match r, y with
  | .error _, y => exact y
  | .ok (.ret _), y => exact y
variable {x m : Str} {p pos apos : Pos} {e o : Expr} {es : List Expr} {ta : TE} {t : TA}
theorem pe_callG (F : FnG X.prog X.w X.K X.mg X.base k f fd ps sp) (hr : Room k X.A) (gd : X.A.guards = some []) (hg : Gl X x) (hm : X.mg x = some (.ref f)) (hk : PySem.W.keepIn X.K (.ref f) = true) (hb : Binds X.K fd ps []) (hx : Passes CX0 X E)
    (ha : PA X (e :: es) t) (hdb : (x == ("__debug__" : Str)) = false) (he : starEach (e :: es) X.env = (false, eval e X.env) :: starEach es X.env) (hpl : (backTo pos (starEach es X.env)).any (·.1) = false) :
    PE X (.Call (.Name x p) (e :: es) [] pos) (tCall sp [] E t) where
  run pins s σ H Q I h := wpAny_Call_Name_kw (ld_glob I hg hm (PySem.W.callWith_K (h₀ := X.base) I.ok.mod.kin hk (thn (ha.run pos pins s σ H _ I h) fun us s1 ⟨vs, H1, I1, rr, q⟩ => ⟨I1.kIn, by
    have q : sp (vs ++ []) H1 Q E := q
    rw [List.append_nil] at q
    exact go_G F hr gd hb hx I1 rr q⟩) he hpl) hdb)
theorem pe_callG0 (F : FnG X.prog X.w X.K X.mg X.base k f fd ps sp) (hr : Room k X.A) (gd : X.A.guards = some []) (hg : Gl X x) (hm : X.mg x = some (.ref f)) (hk : PySem.W.keepIn X.K (.ref f) = true) (hb : Binds X.K fd ps []) (hx : Passes CX0 X E) (hdb : (x == ("__debug__" : Str)) = false) :
    PE X (.Call (.Name x p) [] [] pos) (tCall sp [] E tNil) where
  run pins s σ H Q I h := wpAny_Call_Name_kw (ld_glob I hg hm (PySem.W.callWith_K0 I.kIn hk (go_G (us := []) F hr gd hb hx I .nil h)) hdb)
theorem pe_methG {pl : Sem Bool} (he : PE X o ta) (c : Cls X.K C) (hm : Meth X.K C m f) (F : FnG X.prog X.w X.K X.mg X.base k f fd ps sp) (hr : Room k X.A) (gd : X.A.guards = some []) (hb : Binds X.K fd ps []) (hx : Passes CX0 X E) (ha : PA X (e :: es) t)
    (hst : starEach (e :: es) X.env = (false, eval e X.env) :: starEach es X.env) (hpl : (backTo pos (starEach es X.env)).any (·.1) = false)
    (ht : eval (.Call (.Attribute o m apos) (e :: es) [] pos) X.env = (eval o X.env >>= fun ov => standAt apos.atName >>= fun _ => holding [ov] (getMethod ov m pl) >>= fun q => callWith pos q.1 q.2 (backTo pos (starEach (e :: es) X.env)) (backToKw pos (keywordEach [] X.env)))) :
    PE X (.Call (.Attribute o m apos) (e :: es) [] pos) (tMeth C m sp [] E ta t) where
  run pins s σ H Q I h := PySem.W.methodCall_KW (pl := pl) (thn (he.run pins s σ H _ I h) fun u s1 ⟨y, H1, I1, ry, a, dx, fs, ex, ea, l, q⟩ => by
    cases ex
    cases (show u = Value.ref a from ry)
    exact getmeth_ok I1 ea c hm l (PySem.W.callWith_K (first := [.ref a]) (h₀ := X.base) I.ok.mod.kin hm.kp (thn (ha.run pos pins s1 σ H1 _ I1 q) fun us s2 ⟨vs, H2, I2, rr, q2⟩ => ⟨I2.kIn, by
      have q2 : sp (.ref a :: (vs ++ [])) H2 Q E := q2
      rw [List.append_nil] at q2
      exact go_G (us := .ref a :: us) (vs := .ref a :: vs) F hr gd hb hx I2 (.cons rfl rr) q2⟩) hst hpl)) ht
theorem pe_methG0 {pl : Sem Bool} (he : PE X o ta) (c : Cls X.K C) (hm : Meth X.K C m f) (F : FnG X.prog X.w X.K X.mg X.base k f fd ps sp) (hr : Room k X.A) (gd : X.A.guards = some []) (hb : Binds X.K fd ps []) (hx : Passes CX0 X E)
    (ht : eval (.Call (.Attribute o m apos) [] [] pos) X.env = (eval o X.env >>= fun ov => standAt apos.atName >>= fun _ => holding [ov] (getMethod ov m pl) >>= fun q => callWith pos q.1 q.2 (backTo pos (starEach [] X.env)) (backToKw pos (keywordEach [] X.env)))) :
    PE X (.Call (.Attribute o m apos) [] [] pos) (tMeth C m sp [] E ta tNil) where
  run pins s σ H Q I h := PySem.W.methodCall_KW (pl := pl) (thn (he.run pins s σ H _ I h) fun u s1 ⟨y, H1, I1, ry, a, dx, fs, ex, ea, l, q⟩ => by
    cases ex
    cases (show u = Value.ref a from ry)
    exact getmeth_ok I1 ea c hm l (PySem.W.callWith_K0 (first := [.ref a]) I1.kIn hm.kp (go_G (us := [.ref a]) (vs := [.ref a]) F hr gd hb hx I1 (.cons rfl .nil) q))) ht
variable {n : Nat} {ks : List Str} {kws : List Keyword} {tk : TA} {g : List Value → List Value → List Value} {gV : List V → List V → List V}
theorem guards_make {A : Around} (C : Addr) (us : List Value) (kw : List (Str × Value)) (h : A.guards = some []) : (A.under (.builtin "type.__call__" ⟨.ref C :: us, kw⟩)).guards = some [] := by
  have e : (Code.builtin "type.__call__" ⟨.ref C :: us, kw⟩).isGuard = false := by
    show guardIds.contains "type.__call__" = false
    decide +kernel
  simp [Around.under, Code.guards, e, pushGuards, h]
theorem make_G {pins : List (Addr × Obj)} {σ : L2.St} {H : Hp} {s : Shared} {Q : VK} {us ws : List Value} {vs zs : List V} (M : Mk X.K C f) (F : FnG X.prog X.w X.K X.mg X.base k f fd ps sp) (hr : Room (k + 1) X.A) (gd : X.A.guards = some []) (hb : KBn X.K fd ps (n + 1) ks g gV) (hx : Passes CX0 X E)
    (I : Inv X pins σ H s) (rr : Vals vs us) (rz : Vals zs ws) (l1 : vs.length = n) (l2 : zs.length = ks.length)
    (h : ∀ y dx, H y = none → H dx = none → dx ≠ y → sp (gV (.ref y :: vs) zs) (upd (upd H dx (.own y)) y (.ins C dx [])) (fun v H2 => v = .non ∧ Q (.ref y) H2) E) :
    wpAny (model X.prog X.w) X.A (call (.ref C) us (ks.zip ws)) (EP X pins σ Q) X.xe s := by
  generalize hN : s.heap.objs.size = N0
  have J := Inv.made (C := C) I
  rw [hN] at J
  have q0 := h (N0 + 1) N0 (I.hok.fresh (hN ▸ Nat.le_succ _)) (I.hok.fresh (hN ▸ Nat.le_refl _)) (show N0 ≠ N0 + 1 from Nat.ne_of_lt (Nat.lt_succ_self _))
  have rs : Vals (V.ref (N0 + 1) :: vs) (Value.ref (N0 + 1) :: us) := .cons rfl rr
  have ln : (Value.ref (N0 + 1) :: us).length = n + 1 := by rw [List.length_cons, ← rr.length, l1]
  have key := F.runG (X.A.under (.builtin "type.__call__" ⟨.ref C :: us, ks.zip ws⟩)) X.stack _ _ ⟨Value.ref (N0 + 1) :: us, ks.zip ws⟩ (g (Value.ref (N0 + 1) :: us) ws) _ _ E (hr.make C us (ks.zip ws)) (guards_make C us (ks.zip ws) gd) (J.env0.make C us (ks.zip ws)) (hb.to _ _ ws J.kIn ln (rz.length.symm.trans l2)) (hb.rel rs rz) q0
  subst hN
  refine wpAny_call (make_map (f := f) I.kIn M.makes M.init (beq_iff_eq.mp M.fn) (codeAny_mono key fun r s' z => ?_))
  have y := after_G hx J z
  clear z
  match r, y with
  | .error _, y => exact y
  | .ok (.ret u), y =>
    obtain ⟨v, H', I3, rv, ev, q3⟩ := y
    cases ev
    exact ⟨rv, V.ref (s.heap.objs.size + 1), H', I3, rfl, q3⟩
theorem pe_makeG (M : Mk X.K C f) (F : FnG X.prog X.w X.K X.mg X.base k f fd ps sp) (hr : Room (k + 1) X.A) (gd : X.A.guards = some []) (hg : Gl X x) (hm : X.mg x = some (.ref C)) (hb : KBn X.K fd ps (n + 1) ks g gV) (hx : Passes CX0 X E) (ha : PA X (e :: es) t) (hkw : PK X kws tk)
    (hall : (backToKw pos (keywordEach kws X.env)).all (·.1.isSome) = true) (hks : (backToKw pos (keywordEach kws X.env)).filterMap (·.1) = ks) (hdb : (x == ("__debug__" : Str)) = false)
    (he : starEach (e :: es) X.env = (false, eval e X.env) :: starEach es X.env) (hpl : ((backTo pos (starEach (e :: es) X.env)).any (·.1) || (backToKw pos (keywordEach kws X.env)).any (·.1.isNone)) = false) :
    PE X (.Call (.Name x p) (e :: es) kws pos) (tMakeK C n ks.length sp gV E t tk) where
  run pins s σ H Q I h := wpAny_Call_Name_kw (ld_glob I hg hm (PySem.W.callWith_KW (h₀ := X.base) I.ok.mod.kin M.kp hall (thn (ha.run pos pins s σ H _ I h) fun us s1 ⟨vs, H1, I1, rr, q⟩ =>
    thn (hkw.run pos pins s1 σ H1 _ I1 q) fun ws s2 ⟨zs, H2, I2, rz, l1, l2, q2⟩ => ⟨I2.kIn, by
      rw [hks]
      exact make_G M F hr gd hb hx I2 rr rz l1 l2 q2⟩) hpl he) hdb)
end
theorem ok_G {P : Program} {w : World} {K : PySem.W.Frag} {mg : Str → Option Value} {base : Heap} {k : Nat} {f : Addr} {fd : FuncData} {x qual : Str} {params : Arguments} {body : List Stmt} {scope : Scope} {dvs : List V} {kws : List (Str × V)} {N ps : List Str} {sp : Sp}
    (F : FunD K x qual params body scope dvs kws f fd) (S : FnScope N ps scope) (len : ∀ vs H Q E, sp vs H Q E → vs.length = ps.length)
    (hbody : ∀ (cdv : Value) (A : Around) (st : List PySem.Env) (s : Shared) (H : Hp) (vs : List V) (Q : VK) (E : XK), Room k (A.deeper (envOfC qual scope s.heap.objs.size f cdv)) → A.guards = some [] → sp vs H Q E →
      ∃ t, PSs (cxOf CX0 P w K mg base N qual scope f cdv A st s H E) body t ∧ t { nx := fun _ H' => Q .non H', rt := Q } (start N vs) H) : FnG P w K mg base (k + 1) f fd ps sp where
  lenG := len
  runG A st s H ar us vs Q E hr gd e0 hb rr hsp := by
    obtain ⟨oc, od, dV, kV, doc, pm, an, cdv, ct, osl, rfl, lk, hcd, _, _⟩ := F.ex
    have inn := e0.mod.kin.keeps fun b o e => (e0.bs b o e).1
    have hkd : ∀ y ∈ ps.zip us, scope.names.lookup y.1 = some .local ∨ (scope.names.lookup y.1 = some .cell ∧ ((cellsFrom (s.heap.objs.size + 1) scope.names []).lookup y.1).isSome = true) := by
      rintro ⟨n, v⟩ hy
      exact (S.par n (List.of_mem_zip hy).1).imp id fun q => ⟨q, PySem.W.cellsFrom_some _ _ _ (.inl q)⟩
    refine codeAny_call_function hr.depth (inn _ _ lk) rfl S.co S.gen rfl (PySem.W.codeRec_of inn hcd) (hb _ _ _ _ (wpAny_newFunctionEnv_cells S.kind hkd fun env he s1 xx => ?_))
    cases he
    refine ⟨(e0.mod.nolimit.keeps fun b o e => (e0.bs b o e).1).keeps xx.toInCall.keep, codeAny_func ?_⟩
    obtain ⟨t, ht, hq⟩ := hbody cdv A st s H vs Q E (hr.deeper _) gd hsp
    refine wpAny_mono (ht.run [] s1 (start N vs) H _ (inv_start S hr.hd e0 (len _ _ _ _ hsp) rr xx) hq) (fun fl s' hs => ?_) fun e s' hs => hs
    match fl, hs with
    | .ret u, ⟨v, σ', H', J, rv, q⟩ => exact ⟨v, H', J.os, J.bare, J.base, J.hok, rv, q⟩
    | .next, ⟨σ', H', J, q⟩ => exact ⟨V.non, H', J.os, J.bare, J.base, J.hok, rfl, q⟩
    | .brk, ⟨_, _, _, q⟩ => exact q.elim
    | .cont, ⟨_, _, _, q⟩ => exact q.elim
end Dm
set_option Elab.async false
set_option linter.all false
set_option maxRecDepth 100000
set_option maxHeartbeats 1000000
namespace Dm
open PySem PySem.Spec PyProof.Rows L2
def borIdx : Ex → List Nat
  | .cons (.borA i) es => i :: borIdx es
  | .cons _ es => borIdx es
  | _ => []
section
variable {F : Fx} {env env' : En} {σ : SV} {H H' : Hp}
/-- how matched arguments look -/
inductive MA : List Pk → Ex → Prop
  | nil : MA [] .nil
  | io {i : Nat} {ks : List Pk} {es : Ex} : MA ks es → MA (.io :: ks) (.cons (.ioA i) es)
  | bor {i : Nat} {ks : List Pk} {es : Ex} : MA ks es → MA (.bor :: ks) (.cons (.borA i) es)
  | dat {k : Pk} {e : Ex} {ks : List Pk} {es : Ex} : k ≠ .io → isLent e = false → MA ks es → MA (k :: ks) (.cons e es)
theorem ma_of : ∀ {ks : List Pk} {args : Ex}, matchA ks args = true → MA ks args
  | [], .nil, _ => .nil
  | [], .cons _ _, h => by cases h
  | k :: ks, .cons e es, h => by
    cases k with
    | io => cases e <;> simp [matchA] at h; exact .io (ma_of h)
    | bor =>
      by_cases hl : isLent e = false
      · exact .dat (fun z => nomatch z) hl (ma_of (by cases e <;> simp_all [matchA, isLent]))
      · cases e <;> simp_all [matchA, isLent]
        exact .bor (ma_of h)
    | dat =>
      have h := Bool.and_eq_true_iff.mp h
      exact .dat (fun z => nomatch z) (by simpa using h.1) (ma_of h.2)
  | k :: ks, .nil, h => by cases k <;> cases h
  | _, .var _, h => by unfold matchA at h; simp at h
  | _, .con _ _, h => by unfold matchA at h; simp at h
  | _, .cI _, h => by unfold matchA at h; simp at h
  | _, .cS _, h => by unfold matchA at h; simp at h
  | _, .cB _, h => by unfold matchA at h; simp at h
  | _, .cN, h => by unfold matchA at h; simp at h
  | _, .lst _, h => by unfold matchA at h; simp at h
  | _, .tup _, h => by unfold matchA at h; simp at h
  | _, .dic0, h => by unfold matchA at h; simp at h
  | _, .bin _ _ _, h => by unfold matchA at h; simp at h
  | _, .neg _, h => by unfold matchA at h; simp at h
  | _, .not _, h => by unfold matchA at h; simp at h
  | _, .and _ _, h => by unfold matchA at h; simp at h
  | _, .or _ _, h => by unfold matchA at h; simp at h
  | _, .cmp _ _ _, h => by unfold matchA at h; simp at h
  | _, .chn _ _ _ _ _, h => by unfold matchA at h; simp at h
  | _, .ife _ _ _, h => by unfold matchA at h; simp at h
  | _, .isi _ _, h => by unfold matchA at h; simp at h
  | _, .cal _ _ _, h => by unfold matchA at h; simp at h
  | _, .ioA _, h => by unfold matchA at h; simp at h
  | _, .borA _, h => by unfold matchA at h; simp at h
  | _, .blt _ _, h => by unfold matchA at h; simp at h
  | _, .lenP _, h => by unfold matchA at h; simp at h
  | _, .sub _ _, h => by unfold matchA at h; simp at h
  | _, .subP _ _, h => by unfold matchA at h; simp at h
  | _, .slc _ _ _, h => by unfold matchA at h; simp at h
  | _, .rev _, h => by unfold matchA at h; simp at h
  | _, .rng _, h => by unfold matchA at h; simp at h
  | _, .comp _ _ _ _ _, h => by unfold matchA at h; simp at h
  | _, .dcmp _ _ _ _ _, h => by unfold matchA at h; simp at h
  | _, .items _, h => by unfold matchA at h; simp at h
  | _, .scons _ _, h => by unfold matchA at h; simp at h
  | _, .lstS _, h => by unfold matchA at h; simp at h
  | _, .tupS _, h => by unfold matchA at h; simp at h
  | _, .fld _ _ _, h => by unfold matchA at h; simp at h
  | _, .fldP _ _ _, h => by unfold matchA at h; simp at h
  | _, .get _ _ _, h => by unfold matchA at h; simp at h
  | _, .idx _ _, h => by unfold matchA at h; simp at h
  | _, .inO _ _ _ _ _, h => by unfold matchA at h; simp at h
  | _, .met _ _ _ _ _ _ _, h => by unfold matchA at h; simp at h
  | _, .mkO _ _ _ _, h => by unfold matchA at h; simp at h
  | _, .popP _ _, h => by unfold matchA at h; simp at h
  | _, .dlit _ _, h => by unfold matchA at h; simp at h
theorem io_mem {e es : Ex} {i : Nat} (h : i ∈ ioIdx es) : i ∈ ioIdx (.cons e es) := by
  unfold ioIdx
  split <;> simp_all
theorem bor_mem {e es : Ex} {i : Nat} (h : i ∈ borIdx es) : i ∈ borIdx (.cons e es) := by
  unfold borIdx
  split <;> simp_all
theorem argsD_tl {e es : Ex} {d : D} {ds0 ds : List D} (h : argsD (.cons e es) (d :: ds0) env = some ds) : ∃ x xs, ds = x :: xs ∧ argsD es ds0 env = some xs ∧ (isLent e = false → x = d) ∧ (∀ i, e = .ioA i → mk env i = some x) ∧ (∀ i, e = .borA i → pk env i = some x) := by
  have h : (match (match e with
      | .ioA i => mk env i
      | .borA i => pk env i
      | _ => some d), argsD es ds0 env with
    | some x, some xs => some (x :: xs)
    | _, _ => none) = some ds := h
  split at h
  · rename_i x xs e1 e2
    cases h
    refine ⟨x, xs, rfl, e2, fun hl => ?_, fun i he => ?_, fun i he => ?_⟩
    · cases e <;> simp_all [isLent]
    · subst he; exact e1
    · subst he; exact e1
  · cases h
theorem args_ok {C IO : Av} (IOs : List Nat) (rel : Rel F env σ H) (hA : ∀ b, AIO C IO b → Avd F.C env σ b) (hIO : ∀ a, IO a → ∃ i d, i ∈ IOs ∧ mk env i = some d ∧ σ[i]? = some (some (.ref a))) (hC : ∀ a, IO a → ¬ C a) :
    ∀ {ks : List Pk} {args : Ex} {vs : List V} {ds0 ds : List D}, MA ks args → ArgVs F env σ H args vs ds0 → argsD args ds0 env = some ds → (∀ i, i ∈ borIdx args → i ∉ IOs) → (∀ (k : Nat) (a : Addr), ks[k]? = some .io → vs[k]? = some (.ref a) → IO a) → ArgsOk F.K F.cl C IO H ks vs ds
  | _, _, _, _, _, .nil, av, ha, _, _ => by
    cases av
    cases ha
    exact .nil
  | _, _, _, _, _, .io q, av, ha, hb, hio => by
    cases av with
    | dat hl _ _ => cases hl
    | io hs av =>
      rename_i i ks es v d vs ds0
      obtain ⟨x, xs, rfl, h1, _, h3, _⟩ := argsD_tl ha
      obtain ⟨_, a, e1, t⟩ := mkV rel (h3 _ rfl)
      rw [hs] at e1
      cases e1
      exact .io (t.mono Kp.refl (fun b _ z => hA b z) fun _ q => q) (hC a (hio 0 a rfl rfl)) (args_ok IOs rel hA hIO hC q av h1 (fun i hi => hb i (bor_mem hi)) fun k a h1 h2 => hio (k + 1) a (by simpa using h1) (by simpa using h2))
  | _, _, _, _, _, .bor q, av, ha, hb, hio => by
    cases av with
    | dat hl _ _ => cases hl
    | bor hs av =>
      rename_i i ks es v d vs ds0
      obtain ⟨x, xs, rfl, h1, _, _, h3⟩ := argsD_tl ha
      have h3 := h3 _ rfl
      refine .bor ?_ (args_ok IOs rel hA hIO hC q av h1 (fun i hi => hb i (bor_mem hi)) fun k a h1 h2 => hio (k + 1) a (by simpa using h1) (by simpa using h2))
      have ni : i ∉ IOs := hb i (by simp [borIdx])
      have noIO : ∀ {a : Addr} {dd : D}, (env[i]? = some (.own dd) ∨ env[i]? = some (.io dd)) → σ[i]? = some (some (.ref a)) → ¬ IO a := fun {a dd} hs hv z => by
        obtain ⟨j, dj, hj, hm, hσ⟩ := hIO a z
        have := rel.inj i j a dd dj hs (mkV rel hm).1 hv hσ
        exact ni (this ▸ hj)
      unfold pk at h3
      split at h3
      · rename_i e; cases h3
        obtain ⟨w, e1, r⟩ := rel.dat i _ e
        rw [hs] at e1; cases e1
        exact .inl (r.mono Kp.refl fun b _ z => hA b z)
      · rename_i e; cases h3
        obtain ⟨a, e1, t, _⟩ := rel.own i _ e
        rw [hs] at e1; cases e1
        exact .inr ⟨a, rfl, (t.r).mono Kp.refl (fun b _ z => hA b z) (fun _ q => q), noIO (.inl e) hs⟩
      · rename_i e; cases h3
        obtain ⟨a, e1, t, _⟩ := rel.io i _ e
        rw [hs] at e1; cases e1
        exact .inr ⟨a, rfl, (t.r).mono Kp.refl (fun b _ z => hA b z) (fun _ q => q), noIO (.inr e) hs⟩
      · rename_i e; cases h3
        obtain ⟨w, e1, r⟩ := rel.bor i _ e
        rw [hs] at e1; cases e1
        rcases r with r | ⟨a, e2, t, n1, n2⟩
        · exact .inl (r.mono Kp.refl fun b _ z => hA b z)
        · refine .inr ⟨a, e2, t.mono Kp.refl (fun b _ z => hA b z) (fun _ q => q), fun z => ?_⟩
          obtain ⟨j, dj, hj, hm, hσ⟩ := hIO a z
          rcases (rel.ownSome ⟨j, dj, (mkV rel hm).1, hσ⟩).2.2 with y | y
          · exact n1 y
          · exact n2 y
      · cases h3
  | _, _, _, _, _, .dat (k := k) nk hl q, av, ha, hb, hio => by
    cases av with
    | io _ _ => cases hl
    | bor _ _ => cases hl
    | dat _ r av =>
      obtain ⟨x, xs, rfl, h1, h2, _, _⟩ := argsD_tl ha
      have h2 := h2 hl
      subst h2
      have rest := args_ok IOs rel hA hIO hC q av h1 (fun i hi => hb i (bor_mem hi)) fun k a h1 h2 => hio (k + 1) a (by simpa using h1) (by simpa using h2)
      cases k with
      | io => exact absurd rfl nk
      | dat => exact .dat (r.mono Kp.refl fun b _ z => hA b z) rest
      | bor => exact .bor (.inl (r.mono Kp.refl fun b _ z => hA b z)) rest
theorem io_inj (rel : Rel F env σ H) : ∀ {ks : List Pk} {args : Ex} {vs : List V} {ds0 ds : List D}, MA ks args → matchA ks args = true → ArgVs F env σ H args vs ds0 → argsD args ds0 env = some ds → (ioIdx args).Nodup → ∀ (i j : Nat) (a : Addr), ks[i]? = some .io → ks[j]? = some .io → vs[i]? = some (.ref a) → vs[j]? = some (.ref a) → i = j
  | _, _, _, _, _, .nil, _, _, _, _, i, j, a, h, _, _, _ => by simp at h
  | _, _, _, _, _, .io (i := i0) (ks := ks) (es := es) q, hm, av, ha, nd, i, j, a, h1, h2, h3, h4 => by
    cases av with
    | dat hl _ _ => cases hl
    | io hs av =>
      rename_i v d vs ds0
      obtain ⟨x, xs, rfl, h5, _, h6, _⟩ := argsD_tl ha
      have nd : (i0 :: ioIdx es).Nodup := nd
      rw [List.nodup_cons] at nd
      have hm : matchA ks es = true := hm
      have key : ∀ (k : Nat), ks[k]? = some .io → vs[k]? = some (.ref a) → v = .ref a → False := fun k h1 h2 e => by
        subst e
        obtain ⟨j', dj, hj, hmk, hσ⟩ := ioof_own rel hm av h5 k a h1 h2
        have := rel.inj i0 j' a x dj (mkV rel (h6 _ rfl)).1 (mkV rel hmk).1 hs hσ
        exact nd.1 (this ▸ hj)
      cases i with
      | zero =>
        cases j with
        | zero => rfl
        | succ j => exact (key j (by simpa using h2) (by simpa using h4) (by simpa using h3)).elim
      | succ i =>
        cases j with
        | zero => exact (key i (by simpa using h1) (by simpa using h3) (by simpa using h4)).elim
        | succ j => exact congrArg _ (io_inj rel q hm av h5 nd.2 i j a (by simpa using h1) (by simpa using h2) (by simpa using h3) (by simpa using h4))
  | _, _, _, _, _, .bor q, hm, av, ha, nd, i, j, a, h1, h2, h3, h4 => by
    cases av with
    | dat hl _ _ => cases hl
    | bor hs av =>
      obtain ⟨x, xs, rfl, h5, _, h6, _⟩ := argsD_tl ha
      cases i with
      | zero => simp at h1
      | succ i =>
        cases j with
        | zero => simp at h2
        | succ j => exact congrArg _ (io_inj rel q hm av h5 nd i j a (by simpa using h1) (by simpa using h2) (by simpa using h3) (by simpa using h4))
  | _, _, _, _, _, .dat (k := k) (e := e) (ks := ks) (es := es) nk hl q, hm, av, ha, nd, i, j, a, h1, h2, h3, h4 => by
    cases av with
    | io _ _ => cases hl
    | bor _ _ => cases hl
    | dat _ r av =>
      obtain ⟨x, xs, rfl, h5, _, _, _⟩ := argsD_tl ha
      have hm : matchA ks es = true := by
        cases k with
        | io => exact absurd rfl nk
        | dat => exact (Bool.and_eq_true_iff.mp hm).2
        | bor => cases e <;> simp_all [matchA, isLent]
      have nd : (ioIdx es).Nodup := by
        cases e <;> simp_all [ioIdx, isLent]
      cases i with
      | zero => simp at h1; exact absurd h1 nk
      | succ i =>
        cases j with
        | zero => simp at h2; exact absurd h2 nk
        | succ j => exact congrArg _ (io_inj rel q hm av h5 nd i j a (by simpa using h1) (by simpa using h2) (by simpa using h3) (by simpa using h4))

/-- slots that were changed -/
def Upd (I : List Nat) (P : Nat → D → Prop) (env env' : En) : Prop := env'.length = env.length ∧ ∀ j : Nat, (j ∉ I ∧ env'[j]? = env[j]?) ∨ (j ∈ I ∧ ∃ d d', ((env[j]? = some (.own d) ∧ env'[j]? = some (.own d')) ∨ (env[j]? = some (.io d) ∧ env'[j]? = some (.io d'))) ∧ P j d')
theorem Upd.own {I : List Nat} {P : Nat → D → Prop} (u : Upd I P env env') (σ : SV) (b : Addr) : Own env' σ b ↔ Own env σ b := by
  constructor
  · rintro ⟨j, d, h, e⟩
    rcases u.2 j with ⟨_, h1⟩ | ⟨_, d1, d2, (⟨h1, h2⟩ | ⟨h1, h2⟩), _⟩
    · rw [h1] at h; exact ⟨j, d, h, e⟩
    · exact ⟨j, d1, .inl h1, e⟩
    · exact ⟨j, d1, .inr h1, e⟩
  · rintro ⟨j, d, h, e⟩
    rcases u.2 j with ⟨_, h1⟩ | ⟨_, d1, d2, (⟨h1, h2⟩ | ⟨h1, h2⟩), _⟩
    · rw [← h1] at h; exact ⟨j, d, h, e⟩
    · exact ⟨j, d2, .inl h2, e⟩
    · exact ⟨j, d2, .inr h2, e⟩
theorem called {C' : Av} {I : List Nat} {A IO : Av} (rel : Rel F env σ H) (u : Upd I (fun j d => ∃ a, σ[j]? = some (some (.ref a)) ∧ Top F.K F.cl A H' a d) env env') (kp : ∀ b o, H b = some o → ¬ IO b → H' b = some o) (nn : ∀ b, H b ≠ none → H' b ≠ none) (hl : HL H')
    (hIO : ∀ a, IO a → ∃ i d, i ∈ I ∧ mk env i = some d ∧ σ[i]? = some (some (.ref a))) (hA : ∀ b, Avd C' env σ b → A b) (hC1 : ∀ b, H b ≠ none → C' b → F.C b) (hC2 : ∀ b, C' b → H' b ≠ none) :
    Rel { F with C := C' } env' σ H' ∧ Lat env σ H env' σ H' := by
  have own_iff := u.own σ
  have io_own : ∀ a, IO a → Own env σ a := fun a z => by
    obtain ⟨i, d, _, hm, e⟩ := hIO a z
    exact ⟨i, d, (mkV rel hm).1, e⟩
  have k : Kp (Avd F.C env σ) H H' := Kp.of fun b o e n => kp b o e fun z => n (.inr (io_own b z))
  have hA1 : ∀ b, H b ≠ none → Avd C' env' σ b → Avd F.C env σ b := fun b hb z => by
    rcases z with z | z
    · exact .inl (hC1 b hb z)
    · exact .inr ((own_iff b).mp z)
  have hA2 : ∀ b, H' b ≠ none → Avd C' env' σ b → A b := fun b _ z => by
    rcases z with z | z
    · exact hA b (.inl z)
    · exact hA b (.inr ((own_iff b).mp z))
  refine ⟨⟨u.1.trans rel.len, fun j d h => ?_, fun j d h => ?_, fun j d h => ?_, fun j d h => ?_, fun i j a di dj h h' e e' => ?_, fun b o e n => ?_, hC2, fun a z => nn a (rel.id a z), hl⟩, ⟨fun b o e n => kp b o e fun z => n (io_own b z), fun a _ z => (own_iff a).mp z, nn, fun j d h => ?_⟩⟩
  · rcases u.2 j with ⟨_, h1⟩ | ⟨_, d1, d2, (⟨h1, h2⟩ | ⟨h1, h2⟩), _⟩
    · rw [h1] at h
      obtain ⟨v, e1, r⟩ := rel.dat j d h
      exact ⟨v, e1, r.mono k hA1⟩
    · rw [h2] at h; cases h
    · rw [h2] at h; cases h
  · rcases u.2 j with ⟨hj, h1⟩ | ⟨_, d1, d2, (⟨h1, h2⟩ | ⟨h1, h2⟩), a, ea, t⟩
    · rw [h1] at h
      obtain ⟨a, e1, t, n, z⟩ := rel.own j d h
      refine ⟨a, e1, t.mono k hA1 (fun o q => kp a o q fun y => ?_), fun y => n (hC1 a t.nn y), z⟩
      obtain ⟨i, di, hi, hm, e2⟩ := hIO a y
      exact hj (rel.inj j i a d di (.inl h) (mkV rel hm).1 e1 e2 ▸ hi)
    · rw [h2] at h; cases h
      obtain ⟨a', e1, t', n, z⟩ := rel.own j _ h1
      rw [ea] at e1; cases e1
      exact ⟨a, ea, t.mono Kp.refl hA2 (fun _ q => q), fun y => n (hC1 a t'.nn y), z⟩
    · rw [h2] at h; cases h
  · rcases u.2 j with ⟨hj, h1⟩ | ⟨_, d1, d2, (⟨h1, h2⟩ | ⟨h1, h2⟩), a, ea, t⟩
    · rw [h1] at h
      obtain ⟨a, e1, t, n, z⟩ := rel.io j d h
      refine ⟨a, e1, t.mono k hA1 (fun o q => kp a o q fun y => ?_), fun y => n (hC1 a t.nn y), z⟩
      obtain ⟨i, di, hi, hm, e2⟩ := hIO a y
      exact hj (rel.inj j i a d di (.inr h) (mkV rel hm).1 e1 e2 ▸ hi)
    · rw [h2] at h; cases h
    · rw [h2] at h; cases h
      obtain ⟨a', e1, t', n, z⟩ := rel.io j _ h1
      rw [ea] at e1; cases e1
      exact ⟨a, ea, t.mono Kp.refl hA2 (fun _ q => q), fun y => n (hC1 a t'.nn y), z⟩
  · rcases u.2 j with ⟨_, h1⟩ | ⟨_, d1, d2, (⟨h1, h2⟩ | ⟨h1, h2⟩), _⟩
    · rw [h1] at h
      obtain ⟨v, e1, r⟩ := rel.bor j d h
      refine ⟨v, e1, ?_⟩
      rcases r with r | ⟨a, e2, t, n1, n2⟩
      · exact .inl (r.mono k hA1)
      · refine .inr ⟨a, e2, t.mono k hA1 (fun o q => kp a o q fun y => ?_), n1, n2⟩
        rcases (rel.ownSome (io_own a y)).2.2 with q | q
        · exact n1 q
        · exact n2 q
    · rw [h2] at h; cases h
    · rw [h2] at h; cases h
  · have back : ∀ {j : Nat} {d : D}, (env'[j]? = some (.own d) ∨ env'[j]? = some (.io d)) → ∃ d', env[j]? = some (.own d') ∨ env[j]? = some (.io d') := fun {j d} h => by
      rcases u.2 j with ⟨_, h1⟩ | ⟨_, d1, d2, (⟨h1, h2⟩ | ⟨h1, h2⟩), _⟩
      · rw [h1] at h; exact ⟨d, h⟩
      · exact ⟨d1, .inl h1⟩
      · exact ⟨d1, .inr h1⟩
    obtain ⟨x, hx⟩ := back h
    obtain ⟨y, hy⟩ := back h'
    exact rel.inj i j a x y hx hy e e'
  · refine kp b o (rel.fr b o e n) fun z => ?_
    rcases (rel.ownSome (io_own b z)).2.2 with q | q
    · rw [q] at e; cases e
    · exact n q
  · rcases u.2 j with ⟨_, h1⟩ | ⟨_, d1, d2, (⟨h1, h2⟩ | ⟨h1, h2⟩), _⟩
    · exact ⟨d, h1.trans h, rfl⟩
    · rw [h] at h1; cases h1
    · exact ⟨d2, h2, rfl⟩
theorem putM_get {i : Nat} {d d' : D} (h : mk env i = some d) : (putM env i d').length = env.length ∧ ((env[i]? = some (.own d) ∧ (putM env i d')[i]? = some (.own d')) ∨ (env[i]? = some (.io d) ∧ (putM env i d')[i]? = some (.io d'))) ∧ ∀ j : Nat, j ≠ i → (putM env i d')[j]? = env[j]? := by
  unfold mk at h
  split at h
  · rename_i e; cases h
    unfold putM
    simp only [e]
    have := (List.getElem?_eq_some_iff.mp e).1
    exact ⟨by simp, .inl ⟨trivial, List.getElem?_set_self this⟩, fun j hj => List.getElem?_set_ne (Ne.symm hj)⟩
  · rename_i e; cases h
    unfold putM
    simp only [e]
    have := (List.getElem?_eq_some_iff.mp e).1
    exact ⟨by simp, .inr ⟨trivial, List.getElem?_set_self this⟩, fun j hj => List.getElem?_set_ne (Ne.symm hj)⟩
  · cases h
theorem upd_outs {A : Av} {F0 : Fx} {env0 : En} {H0 : Hp} : ∀ {ks : List Pk} {args : Ex} {vs : List V} {ds0 : List D} {outs : List D} {env env' : En}, MA ks args → ArgVs F0 env0 σ H0 args vs ds0 → (∀ i, i ∈ ioIdx args → ∃ d, mk env i = some d) → (ioIdx args).Nodup → OutsOk F.K F.cl A H' ks vs outs → putOuts args outs env = some env' →
    Upd (ioIdx args) (fun j d => ∃ a, σ[j]? = some (some (.ref a)) ∧ Top F.K F.cl A H' a d) env env'
  | _, _, _, _, _, _, _, .nil, av, _, _, oo, hp => by
    cases av
    cases oo
    cases hp
    exact ⟨rfl, fun j => .inl ⟨by simp [ioIdx], rfl⟩⟩
  | _, _, _, _, _, env, env', .io (i := i) (es := es) q, av, hmk, nd, oo, hp => by
    cases av with
    | dat hl _ _ => cases hl
    | io hs av =>
      cases oo with
      | skip n _ => exact absurd rfl n
      | io t oo =>
        rename_i a d' ds'
        have nd : (i :: ioIdx es).Nodup := nd
        rw [List.nodup_cons] at nd
        have hp : putOuts es _ (putM env i d') = some env' := hp
        obtain ⟨d0, h0⟩ := hmk i (by simp [ioIdx])
        obtain ⟨l1, l2, l3⟩ := putM_get (d' := d') h0
        have mk' : ∀ j, j ∈ ioIdx es → ∃ d, mk (putM env i d') j = some d := fun j hj => by
          obtain ⟨dj, h⟩ := hmk j (io_mem hj)
          have : j ≠ i := fun z => nd.1 (z ▸ hj)
          refine ⟨dj, ?_⟩
          unfold mk
          rw [l3 j this]
          exact h
        have u := upd_outs q av mk' nd.2 oo hp
        refine ⟨u.1.trans l1, fun j => ?_⟩
        by_cases hj : j = i
        · subst hj
          refine .inr ⟨by simp [ioIdx], d0, d', ?_, a, hs, t⟩
          rcases u.2 j with ⟨_, h1⟩ | ⟨h1, _⟩
          · rw [h1]; exact l2
          · exact absurd h1 nd.1
        · rcases u.2 j with ⟨h1, h2⟩ | ⟨h1, d1, d2, h2, h3⟩
          · exact .inl ⟨by simp [ioIdx, hj, h1], by rw [h2, l3 j hj]⟩
          · exact .inr ⟨io_mem h1, d1, d2, by rw [l3 j hj] at h2; exact h2, h3⟩
  | _, _, _, _, _, env, env', .bor (es := es) q, av, hmk, nd, oo, hp => by
    cases av with
    | dat hl _ _ => cases hl
    | bor hs av =>
      cases oo with
      | skip n oo => exact upd_outs (args := es) q av hmk nd oo (by unfold putOuts at hp; exact hp)
  | _, _, _, _, _, env, env', .dat (e := e) (es := es) nk hl q, av, hmk, nd, oo, hp => by
    cases av with
    | io _ _ => cases hl
    | bor _ _ => cases hl
    | dat _ r av =>
      cases oo with
      | io _ _ => exact absurd rfl nk
      | skip n oo =>
        have e1 : ioIdx (.cons e es) = ioIdx es := by cases e <;> simp_all [ioIdx, isLent]
        rw [e1] at hmk nd ⊢
        refine upd_outs q av hmk nd oo ?_
        cases e <;> first | exact hp | cases hl
end
section
variable {X : Cx} {e : Expr} {es : List Expr} {fresh : Bool} {pos p : Pos} {fs : En → Res (List D × En)} {ks : List Pk} {r : List D → Res (D × List D)} {args : Ex} {x : Str} {f : Addr} {fd : FuncData} {ps : List Str} {k : Nat}
def okArgs (ks : List Pk) (args : Ex) : Bool := matchA ks args && (ioIdx args).Nodup && (borIdx args).all fun i => !(ioIdx args).contains i
theorem cal_fin {F : Fx} {env : En} {σ : SV} {H : Hp} {vs : List V} {ds0 : List D} {Q : VK} {E : XK} (hok : okArgs ks args = true) (g : Good X F) (rel : Rel F env σ H) (av : ArgVs F env σ H args vs ds0) (o : Out fresh F env σ H (match argsD args ds0 env with
      | none => Res.bad
      | some ds => (r ds).bind fun r => (match putOuts args r.2 env with
        | some env' => .ok (r.1, env')
        | none => .bad)) Q) : spF X.K (clOf X.K) ks fresh r vs H Q E := by
  obtain ⟨g1, g2, g3⟩ := g
  have hok : ((matchA ks args = true) ∧ (ioIdx args).Nodup) ∧ ∀ i, i ∈ borIdx args → i ∉ ioIdx args := by
    simp only [okArgs, Bool.and_eq_true, decide_eq_true_eq, List.all_eq_true, Bool.not_eq_true', List.contains_eq_mem, decide_eq_false_iff_not] at hok
    exact hok
  obtain ⟨⟨hm, nd⟩, hb⟩ := hok
  have ma := ma_of hm
  cases ea : argsD args ds0 env with
  | none => rw [ea] at o; exact o.elim
  | some ds =>
    rw [ea] at o
    dsimp only at o
    have hIO : ∀ a, IOof ks vs a → ∃ i d, i ∈ ioIdx args ∧ mk env i = some d ∧ σ[i]? = some (some (.ref a)) := fun a ⟨j, h1, h2⟩ => ioof_own rel hm av ea j a h1 h2
    have io_own : ∀ a, IOof ks vs a → Own env σ a := fun a z => by
      obtain ⟨i, d, _, hm, e⟩ := hIO a z
      exact ⟨i, d, (mkV rel hm).1, e⟩
    have hA1 : ∀ b, AIO (fun a => Avd F.C env σ a ∧ ¬ IOof ks vs a) (IOof ks vs) b → Avd F.C env σ b := fun b z => z.elim (fun z => z.1) fun z => .inr (io_own b z)
    have hA2 : ∀ b, Avd F.C env σ b → AIO (fun a => Avd F.C env σ a ∧ ¬ IOof ks vs a) (IOof ks vs) b := fun b z => by
      by_cases h : IOof ks vs b
      · exact .inr h
      · exact .inl ⟨z, h⟩
    have ok := args_ok (ioIdx args) rel hA1 hIO (fun a z y => y.2 z) ma av ea hb fun k a h1 h2 => ⟨k, h1, h2⟩
    refine ⟨fun a => Avd F.C env σ a ∧ ¬ IOof ks vs a, ds, ok.len.1, by rw [← g3, ← g1]; exact ok, io_inj rel ma hm av ea nd, rel.sz, fun a z => rel.avSome z.1, ?_⟩
    cases er : r ds with
    | bad => rw [er] at o; exact o
    | exc c d => rw [er] at o; exact (g2 c d o).elim
    | ok q =>
      obtain ⟨d, outs⟩ := q
      rw [er] at o
      intro v H' kp nn hl oo rv hf
      rw [← g3, ← g1] at oo rv hf
      cases ep : putOuts args outs env with
      | none => simp only [Res.bind, ep] at o; exact o.elim
      | some env' =>
        simp only [Res.bind, ep] at o
        have hmk : ∀ i, i ∈ ioIdx args → ∃ d, mk env i = some d := by
          have : ∀ {ks : List Pk} {args : Ex} {vs : List V} {ds0 ds : List D}, MA ks args → ArgVs F env σ H args vs ds0 → argsD args ds0 env = some ds → ∀ i, i ∈ ioIdx args → ∃ d, mk env i = some d := fun {ks args vs ds0 ds} ma av ea i hi => by
            induction ma generalizing vs ds0 ds with
            | nil => simp [ioIdx] at hi
            | io q ih =>
              cases av with
              | dat hl _ _ => cases hl
              | io hs av =>
                obtain ⟨x, xs, rfl, h1, _, h3, _⟩ := argsD_tl ea
                unfold ioIdx at hi
                rw [List.mem_cons] at hi
                rcases hi with hi | hi
                · subst hi; exact ⟨x, h3 _ rfl⟩
                · exact ih av h1 hi
            | bor q ih =>
              cases av with
              | dat hl _ _ => cases hl
              | bor hs av =>
                obtain ⟨x, xs, rfl, h1, _, h3, _⟩ := argsD_tl ea
                exact ih av h1 hi
            | dat nk hl q ih =>
              rename_i e' _ es'
              cases av with
              | io _ _ => cases hl
              | bor _ _ => cases hl
              | dat _ r av =>
                obtain ⟨x, xs, rfl, h1, _, h3, _⟩ := argsD_tl ea
                have e1 : ioIdx (.cons e' es') = ioIdx es' := by cases e' <;> simp_all [ioIdx, isLent]
                rw [e1] at hi
                exact ih av h1 hi
          exact this ma av ea
        have u := upd_outs (F := F) (env := env) ma av hmk nd oo ep
        obtain ⟨rel', la⟩ := called (C' := F.C) (IO := IOof ks vs) rel u kp nn hl hIO hA2 (fun b _ z => z) (fun b z => nn b (rel.cd b z))
        refine o v H' { la with rel := rel' } (rv.mono Kp.refl fun b _ z => ?_) fun hfr m => ?_
        · rcases z with z | z
          · exact hA2 b (.inl z)
          · exact hA2 b (.inr ((u.own σ b).mp z))
        · obtain ⟨p, rfl, h0, oo2, tp⟩ := hf hfr m
          have u2 := upd_outs (F := F) (env := env) ma av hmk nd oo2 ep
          have q1 : ∀ b, Avd (fun a => F.C a ∨ a = p) env σ b → addA (AIO (fun a => Avd F.C env σ a ∧ ¬ IOof ks vs a) (IOof ks vs)) p b := fun b z => by
            rcases z with (z | z) | z
            · exact .inl (hA2 b (.inl z))
            · exact .inr z
            · exact .inl (hA2 b (.inr z))
          have q2 : ∀ b, H b ≠ none → (F.C b ∨ b = p) → F.C b := fun b hb z => by
            rcases z with z | z
            · exact z
            · exact absurd h0 (z ▸ hb)
          have q3 : ∀ b, (F.C b ∨ b = p) → H' b ≠ none := fun b z => by
            rcases z with z | z
            · exact nn b (rel.cd b z)
            · subst z; exact tp.nn
          obtain ⟨rel2, _⟩ := called (C' := fun a => F.C a ∨ a = p) (IO := IOof ks vs) rel u2 kp nn hl hIO q1 q2 q3
          refine ⟨p, rfl, h0, rel2, tp.mono Kp.refl (fun b _ z => ?_) fun _ q => q⟩
          rcases z with (z | z) | z
          · exact .inl (hA2 b (.inl z))
          · exact .inr z
          · exact .inl (hA2 b (.inr ((u.own σ b).mp z)))
theorem cal_imp (hok : okArgs ks args = true) : ∀ σ H (Q : VK), tR X fresh (fun env => (fs env).bind fun p => match argsD args p.1 p.2 with
      | none => .bad
      | some ds => (r ds).bind fun r => (match putOuts args r.2 p.2 with
        | some env' => .ok (r.1, env')
        | none => .bad)) σ H Q → tRC X args fs σ H fun vs H1 => spF X.K (clOf X.K) ks fresh r (vs ++ []) H1 Q (fun _ _ _ => False) := fun σ H Q ⟨F, env, g, rel, o⟩ => ⟨F, env, g, rel, by
    dsimp only at o
    cases e1 : fs env with
    | exc c d => rw [e1] at o; exact o
    | bad => rw [e1] at o; exact o
    | ok q =>
      rw [e1] at o
      intro vs H' ps av
      rw [List.append_nil]
      exact cal_fin hok g ps.rel av (Out.shift ps o)⟩
theorem s_cal (F : FnG X.prog X.w X.K X.mg X.base k f fd ps (spF X.K (clOf X.K) ks fresh r)) (hr : Room k X.A) (gd : X.A.guards = some []) (hg : Gl X x) (hm : X.mg x = some (.ref f)) (hk : PySem.W.keepIn X.K (.ref f) = true) (hb : Binds X.K fd ps []) (hok : okArgs ks args = true)
    (ha : PA X (e :: es) (tRC X args fs)) (hdb : (x == ("__debug__" : Str)) = false) (he : starEach (e :: es) X.env = (false, eval e X.env) :: starEach es X.env) (hpl : (backTo pos (starEach es X.env)).any (·.1) = false) :
    PE X (.Call (.Name x p) (e :: es) [] pos) (tR X fresh fun env => (fs env).bind fun p => match argsD args p.1 p.2 with
      | none => .bad
      | some ds => (r ds).bind fun r => (match putOuts args r.2 p.2 with
        | some env' => .ok (r.1, env')
        | none => .bad)) :=
  peImp (pe_callG (E := fun _ _ _ => False) F hr gd hg hm hk hb pass0 ha hdb he hpl) (cal_imp hok)
theorem s_cal0 (F : FnG X.prog X.w X.K X.mg X.base k f fd ps (spF X.K (clOf X.K) [] fresh r)) (hr : Room k X.A) (gd : X.A.guards = some []) (hg : Gl X x) (hm : X.mg x = some (.ref f)) (hk : PySem.W.keepIn X.K (.ref f) = true) (hb : Binds X.K fd ps [])
    (hdb : (x == ("__debug__" : Str)) = false) :
    PE X (.Call (.Name x p) [] [] pos) (tR X fresh fun env => (Res.ok (([] : List D), env)).bind fun p => match argsD .nil p.1 p.2 with
      | none => .bad
      | some ds => (r ds).bind fun r => (match putOuts .nil r.2 p.2 with
        | some env' => .ok (r.1, env')
        | none => .bad)) :=
  peImp (pe_callG0 (E := fun _ _ _ => False) F hr gd hg hm hk hb pass0 hdb) fun σ H Q h => by
    obtain ⟨F', env, g, rel, o⟩ := cal_imp (ks := []) (args := .nil) (fs := fun env => .ok ([], env)) rfl σ H Q h
    exact o [] H (Pst.refl rel) .nil
end
end Dm
set_option Elab.async false
set_option linter.all false
set_option maxRecDepth 100000
set_option maxHeartbeats 1000000
namespace Dm
open PySem PySem.Spec PyProof.Rows L2
theorem RepFs.look {K : PySem.W.Frag} {cl : Nat → Addr} {A : Av} {H : Hp} {f : Str} {x : D} : ∀ {v : List (Str × V)} {d : List (Str × D)}, RepFs K cl A H v d → d.lookup f = some x → ∃ y, v.lookup f = some y ∧ Rep K cl A H y x
  | _, _, .nil, h => by cases h
  | _, _, .cons (k := k) r t, h => by
    rw [List.lookup_cons] at h ⊢
    cases e : f == k with
    | true =>
      simp only [e] at h
      cases h
      exact ⟨_, rfl, r⟩
    | false =>
      simp only [e] at h
      exact RepFs.look t h
theorem RepFs.put {K : PySem.W.Frag} {cl : Nat → Addr} {A : Av} {H : Hp} {f : Str} {y : V} {x : D} (hx : Rep K cl A H y x) : ∀ {v : List (Str × V)} {d : List (Str × D)}, RepFs K cl A H v d → RepFs K cl A H (putF f y v) (putFD f x d)
  | _, _, .nil => .cons hx .nil
  | _, _, .cons (k := k) r t => by
    unfold putF putFD
    by_cases e : k = f
    · rw [if_pos e, if_pos e]
      exact .cons hx t
    · rw [if_neg e, if_neg e]
      exact .cons r (RepFs.put hx t)
theorem RepFs.length {K : PySem.W.Frag} {cl : Nat → Addr} {A : Av} {H : Hp} : ∀ {v : List (Str × V)} {d : List (Str × D)}, RepFs K cl A H v d → v.length = d.length
  | _, _, .nil => rfl
  | _, _, .cons _ t => by rw [List.length_cons, List.length_cons, RepFs.length t]
theorem Rep.insV {K : PySem.W.Frag} {cl : Nat → Addr} {A : Av} {H : Hp} {v : V} {c : Nat} {ds : List (Str × D)} (r : Rep K cl A H v (.ins c ds)) : ∃ a dx xs, v = .ref a ∧ H a = some (.ins (cl c) dx xs) ∧ RepFs K cl A H xs ds := by
  cases r with
  | ins h n q => exact ⟨_, _, _, rfl, h, q⟩
theorem WRep.insV {F : Fx} {env : En} {σ : SV} {H : Hp} {v : V} {c : Nat} {ds : List (Str × D)} (r : WRep F env σ H v (.ins c ds)) : ∃ a dx xs, v = .ref a ∧ H a = some (.ins (F.cl c) dx xs) ∧ RepFs F.K F.cl (Avd F.C env σ) H xs ds := by
  rcases r with r | ⟨a, e, t⟩
  · exact r.insV
  · cases t with
    | ins h q => exact ⟨a, _, _, e, h, q⟩
section
variable {X : Cx} {e a b : Expr} {fr fr' : Bool} {pos : Pos} {fa fb : En → Res (D × En)}
theorem s_fld {c : Nat} {f : Str} (ha : PE X a (tR X fr fa)) (hb : attributeBase a f X.env (eval a X.env) = eval a X.env) (hc : Cls X.K (clOf X.K c)) (hn : NoAttr X.K (clOf X.K c) f) :
    PE X (.Attribute a f pos) (tR X false fun env => (fa env).bind fun p => opt (fldD c f p.1) p.2) :=
  peImp (pe_fld (peWeak ha) hb) fun σ H Q ⟨F, env, g, rel, o⟩ => ⟨F, env, g, rel, o.seq fun ⟨d, env1⟩ v H1 _ ps rv o1 => by
    cases d with
    | ins c' ds =>
      have o1 : Out false F env1 σ H1 (opt (if c' = c then ds.lookup f else none) env1) Q := o1
      by_cases hcc : c' = c
      · subst hcc
        rw [if_pos rfl] at o1
        obtain ⟨a', dx, xs, rfl, h, q⟩ := rv.insV
        cases el : ds.lookup f with
        | none => rw [el] at o1; exact o1.elim
        | some x =>
          rw [el] at o1
          obtain ⟨y, ey, ry⟩ := q.look el
          exact ⟨a', _, dx, xs, y, rfl, h, by rw [g.2.2]; exact hc, by rw [g.2.2]; exact hn, ey, Out.fin ps.rel o1 ry⟩
      · rw [if_neg hcc] at o1
        exact o1.elim
    | _ => exact o1.elim⟩
theorem s_fldP {c i : Nat} {f x : Str} {p' : Pos} (hN : X.N[i]? = some x) (hv : Vis X.env.scope x) (hd : (x == ("__debug__" : Str)) = false) (hcd : (x == ("__classdict__" : Str)) = false) (hc : Cls X.K (clOf X.K c)) (hn : NoAttr X.K (clOf X.K c) f) :
    PE X (.Attribute (.Name x p') f pos) (tR X false fun env => match pk env i with
      | some d => opt (fldD c f d) env
      | none => .bad) :=
  peImp (pe_fld (pe_var hN hv hd hcd) rfl) fun σ H Q ⟨F, env, g, rel, o⟩ => by
    dsimp only at o
    cases e0 : pk env i with
    | none => simp only [e0] at o; exact o.elim
    | some d =>
      simp only [e0] at o
      obtain ⟨v, ev, wr⟩ := pkV rel e0
      refine ⟨v, ev, ?_⟩
      cases d with
      | ins c' ds =>
        have o : Out false F env σ H (opt (if c' = c then ds.lookup f else none) env) Q := o
        by_cases hcc : c' = c
        · subst hcc
          rw [if_pos rfl] at o
          obtain ⟨a', dx, xs, rfl, h, q⟩ := wr.insV
          cases el : ds.lookup f with
          | none => rw [el] at o; exact o.elim
          | some x =>
            rw [el] at o
            obtain ⟨y, ey, ry⟩ := q.look el
            exact ⟨a', _, dx, xs, y, rfl, h, by rw [g.2.2]; exact hc, by rw [g.2.2]; exact hn, ey, Out.fin rel o ry⟩
        · rw [if_neg hcc] at o
          exact o.elim
      | _ => exact o.elim
/-- while, with fuel -/
theorem ss_whl {n : Nat} {c : Expr} {body : List Stmt} {fc : En → Res (Bool × En)} {fbd : En → Res Fl} (hp : PassesOwn (model X.prog X.w) X.A X.env X.xe) (hc : PT X c (tRT X fc)) (hb : PSs X body (tS X fbd)) :
    PS X (.While c body [] pos) (tS X fun env => whlGo fc fbd n env) :=
  psImp (ps_while hp hc hb) fun E σ H ⟨F, env, g, rel, o⟩ => by
    refine ⟨fun m σ2 H2 => ∃ env2, Rel F env2 σ2 H2 ∧ OutS F env2 σ2 H2 (whlGo fc fbd m env2) E, ⟨n, env, rel, o⟩, ?_⟩
    rintro m σ2 H2 ⟨env2, rel2, o2⟩
    cases m with
    | zero => exact o2.elim
    | succ m =>
      have o2 : OutS F env2 σ2 H2 ((fc env2).bind fun p => if p.1 then (fbd p.2).bind fun f => match f with
          | .nx env2 => whlGo fc fbd m env2
          | .rt f d env2 => .ok (.rt f d env2)
        else .ok (.nx p.2)) E := o2
      refine ⟨F, env2, g, rel2, ?_⟩
      cases e1 : fc env2 with
      | exc c d => rw [e1] at o2; exact o2
      | bad => rw [e1] at o2; exact o2
      | ok p =>
        rw [e1] at o2
        obtain ⟨b, env3⟩ := p
        intro H3 ps3
        cases b with
        | false =>
          have o2 : OutS F env2 σ2 H2 (.ok (.nx env3)) E := o2
          rw [if_neg (fun z => nomatch z)]
          exact o2 σ2 H3 ps3.rel ps3.toLat
        | true =>
          have o2 : OutS F env2 σ2 H2 ((fbd env3).bind fun f => match f with
            | .nx env2 => whlGo fc fbd m env2
            | .rt f d env2 => .ok (.rt f d env2)) E := o2
          rw [if_pos rfl]
          refine ⟨fun σ' H' => ∃ env4, Rel F env4 σ' H' ∧ OutS F env4 σ' H' (whlGo fc fbd m env4) E, fun σ' H' z => ⟨m, Nat.lt_succ_self m, z⟩, F, env3, g, ps3.rel, ?_⟩
          have o3 := OutS.shift ps3.toLat o2
          cases e2 : fbd env3 with
          | exc c d => rw [e2] at o3; exact o3
          | bad => rw [e2] at o3; exact o3
          | ok fl =>
            rw [e2] at o3
            cases fl with
            | nx env4 => exact fun σ' H' rel' la => ⟨env4, rel', OutS.shift la o3⟩
            | rt f d env4 => exact o3
/-- self.f = e -/
theorem ss_setF {c i : Nat} {f x : Str} {p1 p2 : Pos} (hN : X.N[i]? = some x) (hv : Vis X.env.scope x) (hd : (x == ("__debug__" : Str)) = false) (hcd : (x == ("__classdict__" : Str)) = false) (hc : Cls X.K (clOf X.K c)) (hn : NoAttr X.K (clOf X.K c) f) (he : PE X e (tR X fr fa)) :
    PS X (.Assign [.Attribute (.Name x p1) f p2] e pos) (tS X fun env => (fa env).bind fun p => setF p.2 i c f p.1) :=
  psImp (ps_fld (pe_var hN hv hd hcd) (peWeak he) (by cases e <;> rfl)) fun E σ H ⟨F, env, g, rel, o⟩ => ⟨F, env, g, rel, by
    dsimp only at o
    cases e1 : fa env with
    | exc c d => rw [e1] at o; exact o
    | bad => rw [e1] at o; exact o
    | ok p =>
      rw [e1] at o
      obtain ⟨d1, env1⟩ := p
      intro v H' ps rv _
      have o : OutS F env σ H (setF env1 i c f d1) E := o
      unfold setF at o
      cases e2 : mk env1 i with
      | none => rw [e2] at o; exact o.elim
      | some d2 =>
        rw [e2] at o
        cases d2 with
        | ins c' ds =>
          obtain ⟨hi, a, ea, t⟩ := mkV ps.rel e2
          have o2 : OutS F env σ H (if c' = c ∧ ds.length < 1000 then .ok (.nx (putM env1 i (.ins c' (putFD f d1 ds)))) else .bad) E := o
          clear o
          by_cases hl : c' = c ∧ ds.length < 1000
          · rw [if_pos hl] at o2
            obtain ⟨rfl, hl⟩ := hl
            cases t with
            | ins h q =>
              rename_i dx xs
              refine ⟨.ref a, ea, a, _, dx, xs, rfl, h, by rw [g.2.2]; exact hc, by rw [g.2.2]; exact hn, by rw [q.length]; exact hl, ?_⟩
              have oa : Own env1 σ a := ⟨i, _, hi, ea⟩
              have hL := ps.rel.sz.insU (a := a) (C := F.cl c') (dx := dx) (xs := putF f v xs)
              have q' := RepFs.put (f := f) rv q
              obtain ⟨rel', hw⟩ := ps.rel.put hi ea hL (.ins upd_same (q'.mono (Kp.upd (.inr (.inr oa))) fun _ _ z => z))
              exact o2 σ _ rel' (ps.toLat.trans (Lat.put ps.rel hi ea hw))
          · rw [if_neg hl] at o2; exact o2.elim
        | _ => exact o.elim⟩
end
end Dm

set_option Elab.async false
set_option linter.all false
set_option maxRecDepth 100000
set_option maxHeartbeats 1000000
namespace Dm
open PySem PySem.Spec PyProof.Rows L2
section
variable {X : Cx} {e a b c : Expr} {fr fr' fr2 : Bool} {pos : Pos} {fa fb fc : En → Res (D × En)}
theorem s_dget {apos cpos : Pos} (hu : X.A.units + 1 < cLine) (ha : PE X a (tR X fr fa)) (hb : PE X b (tR X fr' fb)) (hc : PE X c (tR X fr2 fc)) (m : M2 X a "get" apos b c cpos) :
    PE X (.Call (.Attribute a "get" apos) [b, c] [] cpos) (tR X false fun env => (fa env).bind fun p => match p.1 with
      | .dic _ => (fb p.2).bind fun q => (fc q.2).bind fun r => opt (getD3 p.1 q.1 r.1) r.2
      | _ => .bad) :=
  peImp (pe_dget2 hu (peWeak ha) (peWeak hb) (peWeak hc) m) fun σ H Q ⟨F, env, g, rel, o⟩ => ⟨F, env, g, rel, o.seq fun ⟨d, env1⟩ v H1 _ ps rv o1 => by
    cases d with
    | dic ds =>
      have rv0 := rv
      obtain ⟨a', xs, rfl, h1, r1⟩ := rv.dicV
      have o1 : Out false F env1 σ H1 ((fb env1).bind fun q => (fc q.2).bind fun r => opt (getD3 (.dic ds) q.1 r.1) r.2) Q := o1
      refine ⟨a', rfl, .inl ⟨xs, h1⟩, F, env1, g, ps.rel, o1.seq fun q u H2 _ ps2 ru o2 => ⟨F, q.2, g, ps2.rel, o2.seq fun r w H3 _ ps3 rw3 o3 => ?_⟩⟩
      have rv3 := ps3.rep (ps2.rep rv0)
      have ru3 := ps3.rep ru
      obtain ⟨a2, ys, e2, h3, r3⟩ := rv3.dicV
      cases e2
      have o3 : Out false F r.2 σ H3 (opt (match q.1.key with
        | some k => some ((lookD ds k).getD r.1)
        | none => none) r.2) Q := o3
      cases ek : q.1.key with
      | none => rw [ek] at o3; exact o3.elim
      | some k =>
        rw [ek] at o3
        obtain ⟨q', rfl, rfl⟩ := key_of ru3 ek
        obtain ⟨l1, l2⟩ := look_of (q := q') r3
        refine ⟨valV ys q', .inl ⟨ys, q', h3, rfl, rfl⟩, ?_⟩
        cases el : lookD ds (.k q') with
        | none =>
          have o3 : Out false F r.2 σ H3 (opt (some ((lookD ds (.k q')).getD r.1)) r.2) Q := o3
          rw [el] at o3
          rw [l2 el]
          exact Out.fin ps3.rel o3 rw3
        | some x =>
          have o3 : Out false F r.2 σ H3 (opt (some ((lookD ds (.k q')).getD r.1)) r.2) Q := o3
          rw [el] at o3
          obtain ⟨y, hy, ry⟩ := l1 x el
          rw [hy]
          exact Out.fin ps3.rel o3 ry
    | _ => exact o1.elim⟩
theorem ip_and : PIp X .BitAnd (ipI fun i j => Builtin.bitAnd i j) := by
  intro pins s σ H x y v u Q I r1 r2 h
  obtain ⟨i, j, e1, e2, q⟩ := h
  subst e1; subst e2
  obtain ⟨t, rfl⟩ := r1
  obtain ⟨t', rfl⟩ := r2
  exact iand_int ⟨.int _, H, I.tok _, ⟨_, rfl⟩, q⟩
/-- a slot takes a value -/
theorem setV_fin {F : Fx} {env env1 : En} {σ : SV} {H H' : Hp} {i : Nat} {d : D} {v : V} {E : Ends} (ps : Pst F env env1 σ H H') (rv : RepF F env1 σ H' v d) (o : OutS F env σ H (optE (setV env1 i d)) E) : E.nx (σ.set i (some v)) H' := by
  unfold setV at o
  cases es : env1[i]? with
  | none => rw [es] at o; exact o.elim
  | some sl =>
    rw [es] at o
    have hl : i < env1.length := (List.getElem?_eq_some_iff.mp es).1
    have fin : (∀ d', sl ≠ .io d') → OutS F env σ H (.ok (.nx (env1.set i (.dat d)))) E → E.nx (σ.set i (some v)) H' := fun nio o => by
      have nio' : ∀ d', env1[i]? ≠ some (.io d') := fun d' z => nio d' (by rw [es] at z; exact Option.some.inj z)
      exact o _ _ (ps.rel.setGen nio' (fun d' => ⟨fun z => (nomatch z), fun z => (nomatch z)⟩) hl (fun d' e => by cases e; exact ⟨v, rfl, rv⟩) (fun d' z => nomatch z)) (ps.toLat.trans (Lat.set nio' (fun d' => ⟨fun z => (nomatch z), fun z => (nomatch z)⟩) hl))
    cases sl with
    | io d' => exact o.elim
    | bor d' => exact o.elim
    | un => exact fin (fun _ z => nomatch z) o
    | dat d' => exact fin (fun _ z => nomatch z) o
    | own d' => exact fin (fun _ z => nomatch z) o
def augOk : Operator → Bool
  | .Add | .Sub | .BitAnd => true
  | _ => false
theorem ss_aug {i : Nat} {x : Str} {op : Operator} {p' : Pos} (hop : augOk op = true) (hN : X.N.Nodup) (hi : X.N[i]? = some x) (hx : L2.Loc X.env.scope x) (he : PE X e (tR X fr fa)) (hf : X.fn x = true ∨ X.env.scope.names.lookup x = some .local) :
    PS X (.AugAssign (.Name x p') op e pos) (tS X fun env => match env[i]? with
      | some (.dat d) => (fa env).bind fun p => augM op i d p
      | _ => .bad) := by
  have key : ∀ (f : Int → Int → Int), PIp X op (ipI f) → (∀ i j, augD op (.int i) (.int j) = some (.int (f i j))) → PS X (.AugAssign (.Name x p') op e pos) (tS X fun env => match env[i]? with
      | some (.dat d) => (fa env).bind fun p => augM op i d p
      | _ => .bad) := by
    intro f hp hf'
    refine psImp (ps_aug hN hi hx (peWeak he) hp hf) fun E σ H ⟨F, env, g, rel, o⟩ => ?_
    dsimp only at o
    cases es : env[i]? with
    | none => rw [es] at o; exact o.elim
    | some sl =>
      rw [es] at o
      cases sl with
      | dat d =>
        obtain ⟨v, ev, rv⟩ := rel.dat i d es
        refine ⟨v, ev, F, env, g, rel, ?_⟩
        have o : OutS F env σ H ((fa env).bind fun p => augM op i d p) E := o
        cases e1 : fa env with
        | exc c d => rw [e1] at o; exact o
        | bad => rw [e1] at o; exact o
        | ok p =>
          rw [e1] at o
          intro u H' ps ru _
          have o : OutS F env σ H (augM op i d p) E := o
          unfold augM at o
          have bad : augD op d p.1 = none → False := fun z => by rw [z] at o; exact o
          have rv' := ps.rep rv
          obtain ⟨d1, env1⟩ := p
          cases d with
          | int a =>
            cases d1 with
            | int b =>
              cases rv; cases ru
              refine ⟨a, b, rfl, rfl, ?_⟩
              have e2 : augD op (.int a) (.int b) = some (.int (f a b)) := hf' a b
              have o : OutS F env σ H (match augD op (.int a) (.int b) with
                | some d => optE (setV env1 i d)
                | none => .bad) E := o
              rw [e2] at o
              exact setV_fin ps (.int _) o
            | _ => exact (bad (by cases op <;> rfl)).elim
          | _ => exact (bad (by cases op <;> rfl)).elim
      | _ => exact o.elim
  cases op with
  | Add => exact key (fun i j => i + j) ip_add fun _ _ => rfl
  | Sub => exact key (fun i j => i - j) ip_sub fun _ _ => rfl
  | BitAnd => exact key (fun i j => Builtin.bitAnd i j) ip_and fun _ _ => rfl
  | _ => cases hop
end
end Dm
set_option Elab.async false
set_option linter.all false
set_option maxRecDepth 100000
set_option maxHeartbeats 1000000
namespace Dm
open PySem PySem.Spec PyProof.Rows L2
theorem HL.ownU {H : Hp} {a x : Addr} (h : HL H) : HL (L2.upd H a (.own x)) := by
  refine h.upd (fun ys r => ?_) (fun ys r => ?_) (fun ys r => ?_) <;> rcases rd_upd r with e | ⟨_, e⟩ <;> cases e
section
variable {X : Cx} {F : Fx} {env : En} {σ : SV} {H : Hp}
theorem args_dat {K : PySem.W.Frag} {cl : Nat → Addr} {C IO : Av} {H : Hp} : ∀ {vs : List V} {ds : List D}, RepAll K cl (AIO C IO) H vs ds → ArgsOk K cl C IO H (List.replicate vs.length .dat) vs ds
  | _, _, .nil => .nil
  | _, _, .cons r q => .dat r (args_dat q)
theorem outs_dat {K : PySem.W.Frag} {cl : Nat → Addr} {A : Av} {H : Hp} : ∀ {vs : List V} {outs : List D}, OutsOk K cl A H (List.replicate vs.length .dat) vs outs → outs = []
  | [], _, h => by cases h; rfl
  | _ :: _, _, h => by
    cases h with
    | skip _ q => exact outs_dat q
theorem outs_one {K : PySem.W.Frag} {cl : Nat → Addr} {A : Av} {H : Hp} {x : Addr} {vs : List V} {outs : List D} (h : OutsOk K cl A H (.io :: List.replicate vs.length .dat) (.ref x :: vs) outs) : ∃ d, outs = [d] ∧ Top K cl A H x d := by
  cases h with
  | skip n _ => exact absurd rfl n
  | io t q => exact ⟨_, by rw [outs_dat q], t⟩
/-- a later heap, in which a new object is known to nobody -/
theorem Rel.extAdd {H' : Hp} {x : Addr} (r : Rel F env σ H) (hx : H x = none) (hx' : H' x ≠ none) (k : ∀ b o, H b = some o → H' b = some o) (hl : HL H') : Rel (F.add x) env σ H' := by
  have kk : Kp (Avd F.C env σ) H H' := Kp.of fun b o e _ => k b o e
  have hA : ∀ b, H b ≠ none → Avd (F.add x).C env σ b → Avd F.C env σ b := fun b hb z => by
    rcases z with (z | z) | z
    · exact .inl z
    · exact absurd hx (z ▸ hb)
    · exact .inr z
  have nn : ∀ b, H b ≠ none → H' b ≠ none := fun b h => by
    cases e : H b with
    | none => exact absurd e h
    | some o => rw [k b o e]; exact fun z => nomatch z
  have nc : ∀ {a : Addr}, H a ≠ none → ¬ F.C a → ¬ (F.add x).C a := fun {a} ha h z => by
    rcases z with z | z
    · exact h z
    · exact ha (z ▸ hx)
  refine ⟨r.len, fun i d h => ?_, fun i d h => ?_, fun i d h => ?_, fun i d h => ?_, r.inj, fun b o e n => k b o (r.fr b o e n), fun a z => ?_, fun a z => nn a (r.id a z), hl⟩
  · obtain ⟨v, e1, q⟩ := r.dat i d h
    exact ⟨v, e1, q.mono kk hA⟩
  · obtain ⟨a, e1, t, n, z⟩ := r.own i d h
    exact ⟨a, e1, t.mono kk hA (k a), nc t.nn n, z⟩
  · obtain ⟨a, e1, t, n, z⟩ := r.io i d h
    exact ⟨a, e1, t.mono kk hA (k a), nc t.nn n, z⟩
  · obtain ⟨v, e1, q⟩ := r.bor i d h
    refine ⟨v, e1, ?_⟩
    rcases q with q | ⟨a, e2, t, z⟩
    · exact .inl (q.mono kk hA)
    · exact .inr ⟨a, e2, t.mono kk hA (k a), z⟩
  · rcases z with z | z
    · exact nn a (r.cd a z)
    · rw [z]; exact hx'
theorem mk_fin {c : Nat} {r : List D → Res (D × List D)} {vs : List V} {ds : List D} {Q : VK} {E : XK} (g : Good X F) (rel : Rel F env σ H) (av : RepAllF F env σ H vs ds) (o : Out true F env σ H (mkR c r ds env) Q) (x dx : Addr) (hx : H x = none) (hdx : H dx = none) (hne : dx ≠ x) :
    spF X.K (clOf X.K) (.io :: List.replicate vs.length .dat) false r (.ref x :: vs) (upd (upd H dx (.own x)) x (.ins (clOf X.K c) dx [])) (fun v H3 => v = .non ∧ Q (.ref x) H3) E := by
  obtain ⟨g1, g2, g3⟩ := g
  have k3 : ∀ b o, H b = some o → upd (upd H dx (.own x)) x (.ins (clOf X.K c) dx []) b = some o := fun b o e => by
    rw [upd_ne (ne_of_none e hx), upd_ne (ne_of_none e hdx)]
    exact e
  have io1 : ∀ a, IOof (.io :: List.replicate vs.length .dat) (.ref x :: vs) a → a = x := fun a ⟨i, h1, h2⟩ => by
    cases i with
    | zero => simpa using h2.symm
    | succ i =>
      rw [List.getElem?_cons_succ, List.getElem?_replicate] at h1
      split at h1 <;> cases h1
  have nC : ¬ Avd F.C env σ x := fun z => rel.avSome z hx
  have hA : ∀ b, H b ≠ none → AIO (Avd F.C env σ) (IOof (.io :: List.replicate vs.length .dat) (.ref x :: vs)) b → Avd F.C env σ b := fun b hb z => by
    rcases z with z | z
    · exact z
    · exact absurd hx (io1 b z ▸ hb)
  refine ⟨Avd F.C env σ, .ins c [] :: ds, by simp, ?_, fun i j a h1 h2 _ _ => ?_, (rel.sz.ownU).insU, fun a z => ?_, ?_⟩
  · rw [← g3, ← g1]
    exact .io (.ins upd_same .nil) nC (args_dat (av.mono (Kp.of fun b o e _ => by rw [g3]; exact k3 b o e) hA))
  · have z : ∀ i : Nat, (Pk.io :: List.replicate vs.length Pk.dat)[i]? = some .io → i = 0 := fun i h => by
      cases i with
      | zero => rfl
      | succ i =>
        rw [List.getElem?_cons_succ, List.getElem?_replicate] at h
        split at h <;> cases h
    rw [z i h1, z j h2]
  · cases e : H a with
    | none => exact absurd e (rel.avSome z)
    | some u => rw [k3 a u e]; exact fun z => nomatch z
  · unfold mkR at o
    cases er : r (.ins c [] :: ds) with
    | bad => rw [er] at o; exact o
    | exc c d => rw [er] at o; exact (g2 c d o).elim
    | ok q =>
      obtain ⟨d0, outs⟩ := q
      rw [er] at o
      intro v H' kp nn hl oo rv _
      obtain ⟨d, rfl, t⟩ := outs_one oo
      cases d0 with
      | non =>
        cases rv
        have o : Out true F env σ H (.ok (d, env)) Q := o
        have k' : ∀ b o, H b = some o → H' b = some o := fun b o e => kp b o (k3 b o e) fun z => by
          rw [io1 b z, hx] at e
          cases e
        rw [← g3, ← g1] at t
        have t2 : TopF F env σ H' x d := t.mono Kp.refl (fun b _ z => .inl z) fun _ q => q
        have hA3 : ∀ b, H' b ≠ none → Avd (F.add x).C env σ b → AIO (Avd F.C env σ) (IOof (.io :: List.replicate vs.length .dat) (.ref x :: vs)) b := fun b _ z => by
          rcases z with (z | z) | z
          · exact .inl (.inl z)
          · exact .inr (z ▸ ⟨0, rfl, rfl⟩)
          · exact .inl (.inr z)
        have t3 : TopF (F.add x) env σ H' x d := t.mono Kp.refl hA3 fun _ q => q
        exact ⟨rfl, o (.ref x) H' { Lat.ext k' with rel := rel.ext k' hl } (t2.rep nC) fun _ _ => ⟨x, rfl, hx, rel.extAdd hx t.nn k' hl, t3⟩⟩
      | _ => exact o.elim
end
end Dm
namespace Dm
open PySem PySem.Spec PyProof.Rows L2
section
variable {X : Cx} {e : Expr} {es : List Expr} {kws : List Keyword} {fr : Bool} {pos kpos : Pos} {fa : En → Res (D × En)} {fs fk : En → Res (List D × En)} {nm : Option Str}
theorem pkImp {t t' : TA} (h : PK X kws t) (i : ∀ σ H Q, t' σ H Q → t σ H Q) : PK X kws t' := ⟨fun pos pins s σ H Q I q => h.run pos pins s σ H Q I (i σ H Q q)⟩
theorem s_kwNil : PK X [] (tRA X fun env => .ok ([], env)) := pkImp pk_nil fun σ H Q ⟨F, env, g, rel, o⟩ => o [] H (Pst.refl rel) .nil
theorem s_kwCons (ha : PE X e (tR X fr fa)) (hr : PK X kws (tRA X fk)) : PK X (⟨nm, e, kpos⟩ :: kws) (tRA X fun env => (fa env).bind fun p => (fk p.2).bind fun q => .ok (p.1 :: q.1, q.2)) :=
  pkImp (pk_cons (peWeak ha) hr) fun σ H Q ⟨F, env, g, rel, o⟩ => ⟨F, env, g, rel, by
    dsimp only at o
    cases e1 : fa env with
    | exc c d => rw [e1] at o; exact o
    | bad => rw [e1] at o; exact o
    | ok p =>
      rw [e1] at o
      intro v H1 ps rv _
      refine ⟨F, p.2, g, ps.rel, ?_⟩
      have o := OutA.shift ps o
      have o : OutA F p.2 σ H1 ((fk p.2).bind fun q => .ok (p.1 :: q.1, q.2)) Q := o
      cases e2 : fk p.2 with
      | exc c d => rw [e2] at o; exact o
      | bad => rw [e2] at o; exact o
      | ok q =>
        rw [e2] at o
        intro vs H2 ps2 rvs
        exact o (v :: vs) H2 ps2 (.cons (ps2.rep rv) rvs)⟩
theorem s_mk {c n k : Nat} {x : Str} {f : Addr} {fd : FuncData} {ps ks : List Str} {p : Pos} {r : List D → Res (D × List D)} {gg : List Value → List Value → List Value} {gV : List V → List V → List V} {m : Nat}
    (M : Mk X.K (clOf X.K c) f) (F : FnG X.prog X.w X.K X.mg X.base k f fd ps (spF X.K (clOf X.K) (.io :: List.replicate m .dat) false r)) (hr : Room (k + 1) X.A) (gd : X.A.guards = some []) (hg : Gl X x) (hm : X.mg x = some (.ref (clOf X.K c))) (hb : KBn X.K fd ps (n + 1) ks gg gV) (hgV : ∀ y vs zs, gV (y :: vs) zs = y :: (vs ++ zs)) (hmn : n + ks.length = m)
    (ha : PA X (e :: es) (tRA X fs)) (hkw : PK X kws (tRA X fk)) (hln : ∀ env q, fs env = .ok q → q.1.length = n) (hlk : ∀ env q, fk env = .ok q → q.1.length = ks.length)
    (hall : (backToKw pos (keywordEach kws X.env)).all (·.1.isSome) = true) (hks : (backToKw pos (keywordEach kws X.env)).filterMap (·.1) = ks) (hdb : (x == ("__debug__" : Str)) = false)
    (he : starEach (e :: es) X.env = (false, eval e X.env) :: starEach es X.env) (hpl : ((backTo pos (starEach (e :: es) X.env)).any (·.1) || (backToKw pos (keywordEach kws X.env)).any (·.1.isNone)) = false) :
    PE X (.Call (.Name x p) (e :: es) kws pos) (tR X true fun env => (fs env).bind fun p => (fk p.2).bind fun q => mkR c r (p.1 ++ q.1) q.2) :=
  peImp (pe_makeG (E := fun _ _ _ => False) M F hr gd hg hm hb pass0 ha hkw hall hks hdb he hpl) fun σ H Q ⟨F', env, g, rel, o⟩ => ⟨F', env, g, rel, o.seqA fun q vs H1 e1 ps rvs o1 => ⟨F', q.2, g, ps.rel, o1.seqA fun q2 zs H2 e2 ps2 rzs o2 => by
    have l1 : vs.length = n := by rw [rvs.length]; exact hln _ _ e1
    have l2 : zs.length = ks.length := by rw [rzs.length]; exact hlk _ _ e2
    refine ⟨l1, l2, fun a dx ha hdx hne => ?_⟩
    have := mk_fin (c := c) (r := r) (E := fun _ _ _ => False) g ps2.rel ((ps2.repAll rvs).append rzs) o2 a dx ha hdx hne
    rw [hgV]
    rw [List.length_append, l1, l2, hmn] at this
    exact this⟩⟩
end
end Dm
set_option Elab.async false
set_option linter.all false
set_option maxRecDepth 100000
set_option maxHeartbeats 1000000
namespace Dm
open PySem PySem.Spec PyProof.Rows L2
theorem RepFs.lookN {K : PySem.W.Frag} {cl : Nat → Addr} {A : Av} {H : Hp} {f : Str} : ∀ {v : List (Str × V)} {d : List (Str × D)}, RepFs K cl A H v d → d.lookup f = none → v.lookup f = none
  | _, _, .nil, _ => rfl
  | _, _, .cons (k := k) r t, h => by
    rw [List.lookup_cons] at h ⊢
    cases e : f == k with
    | true => simp only [e] at h; cases h
    | false =>
      simp only [e] at h
      exact RepFs.lookN t h
section
variable {X : Cx} {e : Expr} {es : List Expr} {fresh : Bool} {pos p apos : Pos} {fs : En → Res (List D × En)} {ks : List Pk} {r : List D → Res (D × List D)} {args r0 : Ex} {x m : Str} {f : Addr} {fd : FuncData} {ps : List Str} {k i c : Nat}
def isRecv (r0 : Ex) (i : Nat) : Prop := r0 = .borA i ∨ r0 = .ioA i
theorem meth_imp (hr0 : isRecv r0 i) (hok : okArgs ks (.cons r0 args) = true) : ∀ σ H (Q : VK), tR X fresh (fun env => if recv env i c m then (fs env).bind fun p => match argsD (.cons r0 args) (.non :: p.1) p.2 with
      | none => .bad
      | some ds => (r ds).bind fun r => (match putOuts (.cons r0 args) r.2 p.2 with
        | some env' => .ok (r.1, env')
        | none => .bad) else .bad) σ H Q →
    ∃ v, σ[i]? = some (some v) ∧ ∃ a dx fl, v = .ref a ∧ H a = some (.ins (clOf X.K c) dx fl) ∧ fl.lookup m = none ∧ tRC X args fs σ H fun vs H1 => spF X.K (clOf X.K) ks fresh r (v :: (vs ++ [])) H1 Q (fun _ _ _ => False) := by
  intro σ H Q ⟨F, env, g, rel, o⟩
  dsimp only at o
  cases hrc : recv env i c m with
  | false => rw [hrc] at o; exact o.elim
  | true =>
    rw [hrc, if_pos rfl] at o
    unfold recv at hrc
    split at hrc
    · rename_i c' fl hp
      rw [Bool.and_eq_true, decide_eq_true_eq] at hrc
      obtain ⟨rfl, hn⟩ := hrc
      have hn : fl.lookup m = none := by simpa using hn
      obtain ⟨v, ev, wr⟩ := pkV rel hp
      obtain ⟨a, dx, xs, rfl, h, q⟩ := wr.insV
      refine ⟨.ref a, ev, a, dx, xs, rfl, by rw [g.2.2] at h; exact h, q.lookN hn, F, env, g, rel, ?_⟩
      cases e1 : fs env with
      | exc c d => rw [e1] at o; exact o
      | bad => rw [e1] at o; exact o
      | ok q =>
        rw [e1] at o
        intro vs H' ps av
        rw [List.append_nil]
        refine cal_fin hok g ps.rel (ds0 := .non :: q.1) ?_ (Out.shift ps o)
        rcases hr0 with rfl | rfl
        · exact .bor ev av
        · exact .io ev av
    · cases hrc
theorem s_meth (hr0 : isRecv r0 i) (hN : X.N[i]? = some x) (hv : Vis X.env.scope x) (hd : (x == ("__debug__" : Str)) = false) (hcd : (x == ("__classdict__" : Str)) = false) (hc : Cls X.K (clOf X.K c)) (hm : Meth X.K (clOf X.K c) m f)
    (F : FnG X.prog X.w X.K X.mg X.base k f fd ps (spF X.K (clOf X.K) ks fresh r)) (hr : Room k X.A) (gd : X.A.guards = some []) (hb : Binds X.K fd ps []) (hok : okArgs ks (.cons r0 args) = true) (ha : PA X (e :: es) (tRC X args fs))
    (hst : starEach (e :: es) X.env = (false, eval e X.env) :: starEach es X.env) (hpl : (backTo pos (starEach es X.env)).any (·.1) = false) {pl : Sem Bool}
    (ht : eval (.Call (.Attribute (.Name x p) m apos) (e :: es) [] pos) X.env = (do
      let ov ← eval (.Name x p) X.env
      standAt apos.atName
      let (f, first) ← holding [ov] (getMethod ov m pl)
      callWith pos f first (backTo pos (starEach (e :: es) X.env)) (backToKw pos (keywordEach [] X.env)))) :
    PE X (.Call (.Attribute (.Name x p) m apos) (e :: es) [] pos) (tR X fresh fun env => if recv env i c m then (fs env).bind fun p => match argsD (.cons r0 args) (.non :: p.1) p.2 with
      | none => .bad
      | some ds => (r ds).bind fun r => (match putOuts (.cons r0 args) r.2 p.2 with
        | some env' => .ok (r.1, env')
        | none => .bad) else .bad) :=
  peImp (pe_methG (pl := pl) (E := fun _ _ _ => False) (pe_var hN hv hd hcd) hc hm F hr gd hb pass0 ha hst hpl ht) (meth_imp hr0 hok)
theorem s_meth0 (hr0 : isRecv r0 i) (hN : X.N[i]? = some x) (hv : Vis X.env.scope x) (hd : (x == ("__debug__" : Str)) = false) (hcd : (x == ("__classdict__" : Str)) = false) (hc : Cls X.K (clOf X.K c)) (hm : Meth X.K (clOf X.K c) m f)
    (F : FnG X.prog X.w X.K X.mg X.base k f fd ps (spF X.K (clOf X.K) ks fresh r)) (hr : Room k X.A) (gd : X.A.guards = some []) (hb : Binds X.K fd ps []) (hok : okArgs ks (.cons r0 .nil) = true) {pl : Sem Bool}
    (ht : eval (.Call (.Attribute (.Name x p) m apos) [] [] pos) X.env = (do
      let ov ← eval (.Name x p) X.env
      standAt apos.atName
      let (f, first) ← holding [ov] (getMethod ov m pl)
      callWith pos f first (backTo pos (starEach [] X.env)) (backToKw pos (keywordEach [] X.env)))) :
    PE X (.Call (.Attribute (.Name x p) m apos) [] [] pos) (tR X fresh fun env => if recv env i c m then (Res.ok (([] : List D), env)).bind fun p => match argsD (.cons r0 .nil) (.non :: p.1) p.2 with
      | none => .bad
      | some ds => (r ds).bind fun r => (match putOuts (.cons r0 .nil) r.2 p.2 with
        | some env' => .ok (r.1, env')
        | none => .bad) else .bad) :=
  peImp (pe_methG0 (pl := pl) (E := fun _ _ _ => False) (pe_var hN hv hd hcd) hc hm F hr gd hb pass0 ht) fun σ H Q h => by
    obtain ⟨v, ev, a, dx, fl, e1, e2, e3, F', env, g, rel, o⟩ := meth_imp (args := .nil) (fs := fun env => .ok ([], env)) hr0 hok σ H Q h
    exact ⟨v, ev, a, dx, fl, e1, e2, e3, o [] H (Pst.refl rel) .nil⟩
end
end Dm
set_option Elab.async false
set_option linter.all false
set_option maxRecDepth 100000
set_option maxHeartbeats 1000000
namespace Dm
open PySem PySem.Spec PyProof.Rows L2
section
variable {X : Cx} {C f : Addr} {fd : FuncData} {ps : List Str} {sp : Sp} {k : Nat}
def rInO (C : Addr) (sp : Sp) (neg : Bool) : R2 := fun x y H Q => ∃ a dx fs, y = .ref a ∧ H a = some (.ins C dx fs) ∧ sp [y, x] H (fun v H' => ∃ b, v = .bl b ∧ Q (.bl (if neg then !b else b)) H') (fun _ _ _ => False)
theorem op_inO (hm : Meth X.K C "__contains__" f) (F : FnG X.prog X.w X.K X.mg X.base k f fd ps sp) (hr : Room k X.A) (gd : X.A.guards = some []) (hb : Binds X.K fd ps []) : OpR X (compareOp .In) (rInO C sp false) := by
  intro pins s σ H x y v u Q I rx ry h
  obtain ⟨a, dx, fs, rfl, ea, q⟩ := h
  cases (show u = Value.ref a from ry)
  obtain ⟨mA, O, _⟩ := ins_get I.hok ea
  obtain ⟨od, J, _⟩ := O.look
  obtain ⟨m, hF⟩ := I.fr
  refine PySem.W.in_K hF I.ok.mod.kin J hm.at_ hm.fn ?_
  refine wpAny_mono (go_G (us := [.ref a, v]) (vs := [.ref a, x]) F hr gd hb (E := fun _ _ _ => False) pass0 I (.cons rfl (.cons rx .nil)) q) (fun w s' z => ?_) fun _ _ z => z
  obtain ⟨z', H', I', rz, b, rfl, qz⟩ := z
  cases (show w = Value.bool b from rz)
  exact wpAny_truthy_bool ⟨.bl b, H', I', rfl, qz⟩
theorem op_notInO (hm : Meth X.K C "__contains__" f) (F : FnG X.prog X.w X.K X.mg X.base k f fd ps sp) (hr : Room k X.A) (gd : X.A.guards = some []) (hb : Binds X.K fd ps []) : OpR X (compareOp .NotIn) (rInO C sp true) := by
  intro pins s σ H x y v u Q I rx ry h
  obtain ⟨a, dx, fs, rfl, ea, q⟩ := h
  cases (show u = Value.ref a from ry)
  obtain ⟨mA, O, _⟩ := ins_get I.hok ea
  obtain ⟨od, J, _⟩ := O.look
  obtain ⟨m, hF⟩ := I.fr
  refine PySem.W.notIn_K hF I.ok.mod.kin J hm.at_ hm.fn ?_
  refine wpAny_mono (go_G (us := [.ref a, v]) (vs := [.ref a, x]) F hr gd hb (E := fun _ _ _ => False) pass0 I (.cons rfl (.cons rx .nil)) q) (fun w s' z => ?_) fun _ _ z => z
  obtain ⟨z', H', I', rz, b, rfl, qz⟩ := z
  cases (show w = Value.bool b from rz)
  exact wpAny_truthy_bool ⟨.bl (!b), H', I', rfl, qz⟩
end
section
variable {X : Cx} {a b : Expr} {fr fr' : Bool} {pos : Pos} {fa fb : En → Res (D × En)} {f : Addr} {fd : FuncData} {ps : List Str} {k c : Nat} {r : List D → Res (D × List D)}
theorem inO_fin {F : Fx} {env : En} {σ : SV} {H : Hp} {neg : Bool} {d1 d2 : D} {v u : V} {Q : VK} (g : Good X F) (rel : Rel F env σ H) (rv : RepF F env σ H v d1) (ru : RepF F env σ H u d2) (o : Out true F env σ H (inO r c neg d1 d2 env) Q) : rInO (clOf X.K c) (spF X.K (clOf X.K) [.bor, .dat] false r) neg v u H Q := by
  unfold inO at o
  cases d2 with
  | ins c' fl =>
    have o : Out true F env σ H (if c' = c then (match r [.ins c' fl, d1] with
      | .ok (.bl b, []) => .ok (.bl (if neg then !b else b), env)
      | .exc c d => .exc c d
      | _ => .bad) else .bad) Q := o
    by_cases hc : c' = c
    · subst hc
      rw [if_pos rfl] at o
      have ru0 := ru
      obtain ⟨a, dx, xs, rfl, h, q⟩ := ru.insV
      refine ⟨a, dx, xs, rfl, by rw [g.2.2] at h; exact h, ?_⟩
      refine cal_fin (fresh := false) (ks := [.bor, .dat]) (args := .cons .cN (.cons .cN .nil)) (env := env) (ds0 := [.ins c' fl, d1]) (by decide) g rel (.dat rfl ru0 (.dat rfl rv .nil)) ?_
      show Out false F env σ H ((r [.ins c' fl, d1]).bind fun q => match putOuts (.cons .cN (.cons .cN .nil)) q.2 env with
        | some env' => .ok (q.1, env')
        | none => .bad) _
      cases er : r [.ins c' fl, d1] with
      | bad => rw [er] at o; exact o
      | exc c d => rw [er] at o; exact o
      | ok q =>
        rw [er] at o
        obtain ⟨d, outs⟩ := q
        cases outs with
        | nil =>
          cases d with
          | bl bb =>
            have o : Out true F env σ H (.ok (.bl (if neg then !bb else bb), env)) Q := o
            intro w H' ps rw' _
            cases rw'
            exact ⟨bb, rfl, o _ H' ps (.bl _) fun _ z => nomatch z⟩
          | _ => exact o.elim
        | cons _ _ => cases d <;> exact o.elim
    · rw [if_neg hc] at o
      exact o.elim
  | _ => exact o.elim
theorem s_inO {neg : Bool} (hm : Meth X.K (clOf X.K c) "__contains__" f) (F : FnG X.prog X.w X.K X.mg X.base k f fd ps (spF X.K (clOf X.K) [.bor, .dat] false r)) (hr : Room k X.A) (gd : X.A.guards = some []) (hb : Binds X.K fd ps []) (ha : PE X a (tR X fr fa)) (hbb : PE X b (tR X fr' fb)) (hmk : behindInMarks (if neg then CmpOp.NotIn else .In) b = false) :
    PE X (.Compare a [if neg then CmpOp.NotIn else .In] [b] pos) (tR X true fun env => (fa env).bind fun p => (fb p.2).bind fun q => inO r c neg p.1 q.1 q.2) := by
  cases neg with
  | false => exact peImp (pe_cmpR (op_inO hm F hr gd hb) (peWeak ha) (peWeak hbb) hmk) fun σ H Q ⟨F', env, g, rel, o⟩ => ⟨F', env, g, rel, o.seq fun p v H1 _ ps rv o1 => ⟨F', p.2, g, ps.rel, o1.seq fun q u H2 _ ps2 ru o2 => inO_fin g ps2.rel (ps2.rep rv) ru o2⟩⟩
  | true => exact peImp (pe_cmpR (op_notInO hm F hr gd hb) (peWeak ha) (peWeak hbb) hmk) fun σ H Q ⟨F', env, g, rel, o⟩ => ⟨F', env, g, rel, o.seq fun p v H1 _ ps rv o1 => ⟨F', p.2, g, ps.rel, o1.seq fun q u H2 _ ps2 ru o2 => inO_fin g ps2.rel (ps2.rep rv) ru o2⟩⟩
end
end Dm
set_option Elab.async false
set_option linter.all false
set_option maxRecDepth 100000
set_option maxHeartbeats 1000000
namespace Dm
open PySem PySem.Spec PyProof.Rows L2
section
variable {X : Cx} {e : Expr} {es : List Expr} {p : Pos} {te : TE} {t : TA}
def tStar (K : PySem.W.Frag) (te : TE) (t : TA) : TA := fun σ H Q => te σ H fun x H1 => ∃ a xs, x = .ref a ∧ (SqL K H1 a xs ∨ SqT K H1 a xs) ∧ t σ H1 fun ys H2 => Q (xs ++ ys) H2
theorem star_of_seq {prog : Program} {w : World} {A : Around} {E : Value → Shared → Prop} {s : Shared} {a : Addr} {T : String} {o : Obj} {its : Array Value} {n : Nat} {Q : List Value → Shared → Prop} (D : s.heap.get? a = some o) (hc : o.cls = .type T) (hd : o.data = .seq its n) (hT : T = "list" ∨ T = "tuple") (hz : its.size ≤ sizeLine)
    (h : ∀ h' : Heap, (∀ b u, s.heap.get? b = some u → h'.get? b = some u) → Q its.toList { s with heap := h' }) : PySem.W.StarOf (model prog w) A E (.ref a) Q s := by
  have ht : s.TypeIs (.ref a) T := ⟨o, D, hc⟩
  have z : wpAny (model prog w) A (collect (.ref a)) Q E s := wpAny_collect_seq a hT D hc hd (fun h' hk => h h' hk) hz
  unfold PySem.W.StarOf notIterableAtAll
  rcases hT with rfl | rfl
  · exact wpAny_bind (wpAny_specialOf ht PySem.F.slot_list_iter.lookup (wpAny_pure ⟨rfl, z⟩))
  · exact wpAny_bind (wpAny_specialOf ht PySem.F.slot_tuple_iter.lookup (wpAny_pure ⟨rfl, z⟩))
theorem pa_star (he : PE X e te) (hr : PA X es t) : PA X (.Starred e p :: es) (tStar X.K te t) := by
  refine ⟨fun pos pins s σ H Q I h => ?_⟩
  refine PySem.W.items_star (thn (he.run pins s σ H _ I h) fun u s1 ⟨x, H1, I1, r1, a, xs, ex, hs, q1⟩ => ?_)
  subst ex
  cases (show u = Value.ref a from r1)
  rcases hs with hs | hs
  · obtain ⟨its, rv, ⟨o, n, ho, hc, _, hd⟩, hz⟩ := I1.list hs
    refine star_of_seq ho hc hd (.inl rfl) (by rw [List.size_toArray, ← rv.length]; exact hz) fun h' hk => ?_
    have I2 : Inv X pins σ H1 { s1 with heap := h' } := I1.kept (t' := s1.toks) hk
    refine thn (hr.run pos pins _ σ H1 _ I2 q1) fun us s2 ⟨ys, H2, I3, r2, q2⟩ => ?_
    exact ⟨xs ++ ys, H2, I3, rv.append r2, q2⟩
  · obtain ⟨its, rv, ⟨o, ho, hc, n, hd⟩, hz⟩ := I1.tuple hs
    refine star_of_seq ho hc hd (.inr rfl) (by rw [List.size_toArray, ← rv.length]; exact hz) fun h' hk => ?_
    have I2 : Inv X pins σ H1 { s1 with heap := h' } := I1.kept (t' := s1.toks) hk
    refine thn (hr.run pos pins _ σ H1 _ I2 q1) fun us s2 ⟨ys, H2, I3, r2, q2⟩ => ?_
    exact ⟨xs ++ ys, H2, I3, rv.append r2, q2⟩
end
section
variable {X : Cx} {e : Expr} {es : List Expr} {p : Pos} {fr : Bool} {fa : En → Res (D × En)} {fs : En → Res (List D × En)}
theorem s_star (ha : PE X e (tR X fr fa)) (hr : PA X es (tRA X fs)) : PA X (.Starred e p :: es) (tRA X fun env => (fa env).bind fun p => match seqOf p.1 with
      | some xs => (fs p.2).bind fun q => .ok (xs ++ q.1, q.2)
      | none => .bad) :=
  paImp (pa_star (peWeak ha) hr) fun σ H Q ⟨F, env, g, rel, o⟩ => ⟨F, env, g, rel, by
    dsimp only at o
    cases e1 : fa env with
    | exc c d => rw [e1] at o; exact o
    | bad => rw [e1] at o; exact o
    | ok p =>
      rw [e1] at o
      obtain ⟨d, env1⟩ := p
      intro v H1 ps rv _
      have o := OutA.shift ps o
      have key : ∀ (a : Addr) (xs : List V) (ds : List D), seqOf d = some ds → RepAllF F env1 σ H1 xs ds → tRA X fs σ H1 fun ys H2 => Q (xs ++ ys) H2 := fun a xs ds ed rxs => by
        refine ⟨F, env1, g, ps.rel, ?_⟩
        have o : OutA F env1 σ H1 (match seqOf d with
          | some xs => (fs env1).bind fun q => .ok (xs ++ q.1, q.2)
          | none => .bad) Q := o
        rw [ed] at o
        have o : OutA F env1 σ H1 ((fs env1).bind fun q => .ok (ds ++ q.1, q.2)) Q := o
        cases e2 : fs env1 with
        | exc c d => rw [e2] at o; exact o
        | bad => rw [e2] at o; exact o
        | ok q =>
          rw [e2] at o
          intro vs H2 ps2 rvs
          exact o (xs ++ vs) H2 ps2 ((ps2.repAll rxs).append rvs)
      cases d with
      | lst ds =>
        obtain ⟨a, xs, rfl, h, r⟩ := rv.lstV
        exact ⟨a, xs, rfl, .inl (.inl h), key a xs ds rfl r⟩
      | tup ds =>
        obtain ⟨a, xs, rfl, h, r⟩ := rv.tupV
        exact ⟨a, xs, rfl, .inr (g.1 ▸ h), key a xs ds rfl r⟩
      | _ => exact o.elim⟩
end
end Dm

set_option Elab.async false
set_option linter.all false
set_option maxRecDepth 100000
set_option maxHeartbeats 1000000
namespace Dm
open PySem PySem.Spec PyProof.Rows L2
section
variable {X : Cx} {e a b c : Expr} {fr fr' fr2 : Bool} {pos p : Pos} {fa fb fc : En → Res (D × En)}
theorem RepAll.getIdx {K : PySem.W.Frag} {cl : Nat → Addr} {A : Av} {H : Hp} {v : List V} {d : List D} (r : RepAll K cl A H v d) {j : Nat} {y : V} (h : v[j]? = some y) : ∃ x, d[j]? = some x ∧ Rep K cl A H y x := r.getV h
theorem s_idx {apos cpos : Pos} (ha : PE X a (tR X fr fa)) (hb : PE X b (tR X fr' fb)) (hbase : attributeBase a "index" X.env (eval a X.env) = eval a X.env) (hs : NoStar [b]) (hline : (apos.endLine == cpos.line) = true) :
    PE X (.Call (.Attribute a "index" apos) [b] [] cpos) (tR X true fun env => (fa env).bind fun p => match p.1 with
      | .lst _ => (fb p.2).bind fun q => opt (idxD p.1 q.1) q.2
      | _ => .bad) :=
  peImp (pe_bm PySem.F.plainAttrs_list PySem.F.slot_list_index PySem.F.type_list_index mt_index (peWeak ha) (pa_cons (peWeak hb) pa_nil (hs.cons .nil _)) (hbase := hbase) (hfew := by rw [hs.all]; rfl) (hline := hline) (hs := hs.cons .nil _)) fun σ H Q ⟨F, env, g, rel, o⟩ => ⟨F, env, g, rel, o.seq fun ⟨d, env1⟩ v H1 _ ps rv o1 => by
    cases d with
    | lst ds =>
      have rv0 := rv
      obtain ⟨a', xs, rfl, h1, r1⟩ := rv.lstV
      refine ⟨.inl ⟨rfl, xs, .inl h1⟩, F, env1, g, ps.rel, Out.seq (f := fun q => opt (idxD (.lst ds) q.1) q.2) o1 fun q u H2 _ ps2 ru o2 => ?_⟩
      obtain ⟨a2, ys, e2, h3, r3⟩ := (ps2.rep rv0).lstV
      cases e2
      have o2 : Out true F q.2 σ H2 (opt (if q.1.flat && ds.all D.flat then (match ds.findIdx? fun y => eqF y q.1 with
        | some j => some (.int (j : Nat))
        | none => none) else none) q.2) Q := o2
      by_cases hf : (q.1.flat && ds.all D.flat) = true
      · rw [if_pos hf] at o2
        rw [Bool.and_eq_true] at hf
        cases ej : ds.findIdx? fun y => eqF y q.1 with
        | none => rw [ej] at o2; exact o2.elim
        | some j =>
          rw [ej] at o2
          have hj := List.findIdx?_eq_some_iff_getElem.mp ej
          obtain ⟨hlt, hit, hno⟩ := hj
          have hlv : j < ys.length := by rw [r3.length]; exact hlt
          obtain ⟨x, hx, rx⟩ := r3.getV (List.getElem?_eq_getElem hlv)
          rw [List.getElem?_eq_getElem hlt] at hx
          cases hx
          have fl := List.all_eq_true.mp hf.2
          refine ⟨a', ys, u, j, ys[j], rfl, rfl, .inl h3, flatV_of ru hf.1, flatAll_of r3 hf.2, List.getElem?_eq_getElem hlv, ?_, fun m z hm hz => ?_, Out.fin' ps2.rel o2 rfl (.int _)⟩
          · rw [eqV_of rx ru (fl _ (List.getElem_mem hlt)) hf.1]
            exact hit
          · obtain ⟨x', hx', rx'⟩ := r3.getV hz
            have hlm : m < ds.length := by omega
            rw [List.getElem?_eq_getElem hlm] at hx'
            cases hx'
            rw [eqV_of rx' ru (fl _ (List.getElem_mem hlm)) hf.1]
            have := hno m hm
            simpa using this
      · rw [if_neg hf] at o2
        exact o2.elim
    | _ => exact o1.elim⟩
end
end Dm
set_option Elab.async false
set_option linter.all false
set_option maxRecDepth 100000
set_option maxHeartbeats 1000000
namespace Dm
open PySem PySem.Spec PyProof.Rows L2
theorem RepAll.erase {K : PySem.W.Frag} {cl : Nat → Addr} {A : Av} {H : Hp} : ∀ {v : List V} {d : List D} (i : Nat), RepAll K cl A H v d → RepAll K cl A H (v.eraseIdx i) (d.eraseIdx i)
  | _, _, _, .nil => .nil
  | _, _, 0, .cons _ t => t
  | _, _, i + 1, .cons r t => .cons r (RepAll.erase i t)
section
variable {X : Cx} {e : Expr} {fr : Bool} {pos : Pos} {fa : En → Res (D × En)}
theorem s_popP {i : Nat} {x : Str} {apos cpos pn : Pos} (hN : X.N[i]? = some x) (hv : Vis X.env.scope x) (hd : (x == ("__debug__" : Str)) = false) (hcd : (x == ("__classdict__" : Str)) = false) (he : PE X e (tR X fr fa)) (hs : NoStar [e]) (hline : (apos.endLine == cpos.line) = true) :
    PE X (.Call (.Attribute (.Name x pn) "pop" apos) [e] [] cpos) (tR X false fun env => match mk env i with
      | some (.lst _) => (fa env).bind fun p => popM p.2 i p.1
      | _ => .bad) :=
  peImp (pe_bm PySem.F.plainAttrs_list PySem.F.slot_list_pop PySem.F.type_list_pop mt_popAt (pe_var hN hv hd hcd) (pa_cons (peWeak he) pa_nil (hs.cons .nil _)) (hfew := by rw [hs.all]; rfl) (hline := hline) (hs := hs.cons .nil _)) fun σ H Q ⟨F, env, g, rel, o⟩ => by
    dsimp only at o
    cases e0 : mk env i with
    | none => rw [e0] at o; exact o.elim
    | some d0 =>
      rw [e0] at o
      cases d0 with
      | lst ds0 =>
        have o : Out false F env σ H ((fa env).bind fun p => popM p.2 i p.1) Q := o
        obtain ⟨_, a, ea, t⟩ := mkV rel e0
        refine ⟨.ref a, ea, .inl ⟨rfl, ?_⟩, F, env, g, rel, o.seq fun p v H' _ ps rv o1 => ?_⟩
        · cases t with
          | lst h q => exact ⟨_, .inl (.inl h)⟩
        · obtain ⟨d1, env1⟩ := p
          have o1 : Out false F env1 σ H' (popM env1 i d1) Q := o1
          unfold popM at o1
          cases e2 : mk env1 i with
          | none => rw [e2] at o1; cases d1 <;> exact o1.elim
          | some d2 =>
            rw [e2] at o1
            cases d2 with
            | lst ds =>
              cases d1 with
              | int j =>
                cases rv
                obtain ⟨hi, a', ea', t'⟩ := mkV ps.rel e2
                rw [ea] at ea'
                cases ea'
                have o1 : Out false F env1 σ H' (if 0 ≤ j ∧ j < 1000000 then (match ds[j.toNat]? with
                  | some y => .ok (y, putM env1 i (.lst (ds.eraseIdx j.toNat)))
                  | none => .bad) else .bad) Q := o1
                by_cases hj : 0 ≤ j ∧ j < 1000000
                · rw [if_pos hj] at o1
                  cases ey : ds[j.toNat]? with
                  | none => rw [ey] at o1; exact o1.elim
                  | some y =>
                    rw [ey] at o1
                    have o1 : Out false F env1 σ H' (.ok (y, putM env1 i (.lst (ds.eraseIdx j.toNat)))) Q := o1
                    cases t' with
                    | lst h q =>
                      rename_i xs
                      obtain ⟨z, hz, rz⟩ := q.get ey
                      have hlt : j.toNat < xs.length := (List.getElem?_eq_some_iff.mp hz).1
                      refine ⟨a, xs, j, j.toNat, z, rfl, rfl, h, by omega, by omega, ?_, hz, ?_⟩
                      · unfold seqIndex?
                        have n1 : ¬ j < 0 := by omega
                        have n2 : (decide (0 ≤ j) && decide (j < (xs.length : Int))) = true := by
                          rw [Bool.and_eq_true, decide_eq_true_eq, decide_eq_true_eq]
                          omega
                        simp only [if_neg n1]
                        rw [if_pos n2]
                      · have oa : Own env1 σ a := ⟨i, _, hi, ea⟩
                        have hL := ps.rel.sz.lstU (a := a) (xs := xs.eraseIdx j.toNat) (Nat.le_trans (List.length_eraseIdx_le ..) (ps.rel.sz.lst _ _ (.inl h)))
                        have q' := q.erase j.toNat
                        obtain ⟨rel', hw⟩ := ps.rel.put hi ea hL (.lst upd_same (q'.mono (Kp.upd (.inr (.inr oa))) fun _ _ z => z))
                        have la := Lat.put (o := .lst (xs.eraseIdx j.toNat)) ps.rel hi ea hw
                        exact o1 z _ { la with rel := rel' } (la.rep rz) fun z => nomatch z
                · rw [if_neg hj] at o1; exact o1.elim
              | _ => exact o1.elim
            | _ => cases d1 <;> exact o1.elim
      | _ => exact o.elim
end
end Dm
set_option Elab.async false
set_option linter.all false
set_option maxRecDepth 100000
set_option maxHeartbeats 1000000
namespace Dm
open PySem PySem.Spec PyProof.Rows L2
/-- the pairs of a display with texts as keys -/
def zipK (ks : List Str) (vs : List V) : List (Key × V) := (ks.zip vs).map fun p => (Sum.inr p.1, p.2)
theorem zip_rep {K : PySem.W.Frag} {cl : Nat → Addr} {A : Av} {H : Hp} : ∀ {ks : List Str} {v : List V} {d : List D}, RepAll K cl A H v d → RepKv K cl A H (zipK ks v) (zipD ks d)
  | [], _, _, _ => .nil
  | _ :: _, _, _, .nil => .nil
  | k :: ks, _, _, .cons r q => .cons r (zip_rep q)
section
variable {X : Cx} {fr : Bool} {pos : Pos} {fa : En → Res (D × En)} {fs : En → Res (List D × En)} {ks : List Str} {keys : List (Option Expr)} {values : List Expr} {e : Expr}
structure PD (X : Cx) (pos : Pos) (keys : List (Option Expr)) (values : List Expr) (ks : List Str) (fs : En → Res (List D × En)) : Prop where
  ex : ∃ trs, PPs X pos keys values trs ∧ ∀ (F : Fx) (env : En) (σ : SV) (H : Hp) (Q : List (V × V) → Hp → Prop), Good X F → Rel F env σ H → OutA F env σ H (fs env) (fun vs H' => Q ((zipK ks vs).map fun kv => (kV kv.1, kv.2)) H') → tPairs trs σ H Q
theorem pd_nil : PD X pos [] [] [] (fun env => .ok ([], env)) := ⟨[], pps_nil, fun F env σ H Q g rel o => o [] H (Pst.refl rel) .nil⟩
theorem pd_cons {k : Str} {kk : Nat} {kp : Pos} (ha : PE X e (tR X fr fa)) (hr : PD X pos keys values ks fs) : PD X pos (some (.Constant (.str k) kk kp) :: keys) (e :: values) (k :: ks) (fun env => (fa env).bind fun p => (fs p.2).bind fun q => .ok (p.1 :: q.1, q.2)) := by
  obtain ⟨trs, h1, h2⟩ := hr.ex
  refine ⟨_, pps_cons pe_str (peWeak ha) h1, fun F env σ H Q g rel o => ?_⟩
  refine ⟨F, env, g, rel, ?_⟩
  cases e1 : fa env with
  | exc c d => rw [e1] at o; exact o
  | bad => rw [e1] at o; exact o
  | ok p =>
    rw [e1] at o
    intro v H1 ps rv _
    refine h2 F p.2 σ H1 _ g ps.rel ?_
    have o := OutA.shift ps o
    have o : OutA F p.2 σ H1 ((fs p.2).bind fun q => .ok (p.1 :: q.1, q.2)) fun vs H' => Q ((zipK (k :: ks) vs).map fun kv => (kV kv.1, kv.2)) H' := o
    cases e2 : fs p.2 with
    | exc c d => rw [e2] at o; exact o
    | bad => rw [e2] at o; exact o
    | ok q =>
      rw [e2] at o
      intro vs H2 ps2 rvs
      exact o (v :: vs) H2 ps2 (.cons (ps2.rep rv) rvs)
theorem s_dlit (h : PD X pos keys values ks fs) (hall : keys.all (·.isSome) = true) (hl : keys.length = values.length) (h0 : keys ≠ []) (h15 : keys.length ≤ 15) (hk : ks.length ≤ 15) :
    PE X (.Dict keys values pos) (tR X true fun env => (fs env).bind fun q => .ok (.dic (merge [] (zipD ks q.1)), q.2)) := by
  obtain ⟨trs, h1, h2⟩ := h.ex
  refine peImp (pe_disp h1 hall hl h0 h15) fun σ H Q ⟨F, env, g, rel, o⟩ => ?_
  intro p n
  have hl1 : HL (upd H p (.dK [])) := rel.sz.dKU (Nat.zero_le _)
  have rel1 := rel.laid n hl1
  have hz := rel.new n
  refine h2 (F.add p) env σ _ _ g rel1 ?_
  dsimp only at o
  cases e1 : fs env with
  | exc c d => rw [e1] at o; exact o
  | bad => rw [e1] at o; exact o
  | ok q =>
    rw [e1] at o
    have o : Out true F env σ H (.ok (.dic (merge [] (zipD ks q.1)), q.2)) Q := o
    intro vs H2 ps2 rvs
    have nOwn : ¬ Own env σ p := fun z => (rel.ownSome z).1 n
    have hp2 : H2 p = some (.dK []) := ps2.kp p _ upd_same nOwn
    have hlen : (zipK ks vs).length ≤ 15 := by
      unfold zipK
      rw [List.length_map, List.length_zip]
      omega
    refine ⟨hp2, zipK ks vs, rfl, hlen, ?_⟩
    have hlm : (mergeK [] (zipK ks vs)).length ≤ sizeLine := by
      have := len_merge (zipK ks vs) []
      rw [List.length_nil] at this
      rw [sizeLine_eq]
      omega
    have hl2 := ps2.rel.sz.dKU (a := p) (xs := mergeK [] (zipK ks vs)) hlm
    have relU := ps2.rel.updC (.inr rfl) hz.1 hl2
    have n2 : ¬ Own q.2 σ p := fun z => (ps2.rel.ownSome z).2.1 (.inr rfl)
    have np : ¬ Avd F.C q.2 σ p := fun z => z.elim (fun z => rel.cd p z n) n2
    have rk : RepKv F.K F.cl (Avd (F.add p).C q.2 σ) H2 (mergeK [] (zipK ks vs)) (merge [] (zipD ks q.1)) := merge_of (zip_rep rvs) .nil
    have kU : Kp (Avd (F.add p).C q.2 σ) H2 (upd H2 p (.dK (mergeK [] (zipK ks vs)))) := Kp.upd (.inr (.inl (.inr rfl)))
    have hA : ∀ b, H2 b ≠ none → Avd F.C q.2 σ b → Avd (F.add p).C q.2 σ b := fun b _ z => z.elim (fun z => .inl (.inl z)) .inr
    have old : ∀ b u, H b = some u → upd H p (.dK []) b = some u := fun b u e => by rw [upd_ne (ne_of_none e n)]; exact e
    have nn1 : ∀ a, H a ≠ none → upd H p (.dK []) a ≠ none := fun a ha => by
      cases e : H a with
      | none => exact absurd e ha
      | some u => rw [old a u e]; exact fun z => nomatch z
    have la : Lat env σ H q.2 σ (upd H2 p (.dK (mergeK [] (zipK ks vs)))) := by
      refine ⟨fun b u e nb => ?_, fun a ha z => ps2.sub a (nn1 a ha) z, fun a ha => ?_, ps2.io⟩
      · rw [upd_ne (ne_of_none e n)]
        exact ps2.kp b u (old b u e) nb
      · by_cases z : a = p
        · rw [z, upd_same]; exact fun z => nomatch z
        · rw [upd_ne z]
          exact ps2.nn a (nn1 a ha)
    exact o (.ref p) _ { la with rel := relU.drop } (.dic (.inl upd_same) np (rk.mono kU hA)) fun _ _ => ⟨p, rfl, n, relU, .dic upd_same (rk.mono kU fun _ _ z => z)⟩
end
end Dm
set_option Elab.async false
set_option linter.all false
set_option maxRecDepth 100000
set_option maxHeartbeats 1000000
namespace Dm
open PySem PySem.Spec PyProof.Rows L2
section
variable {X : Cx} {F : Fx} {env env' : En} {σ : SV} {H : Hp} {i j : Nat} {d : D} {v : V}
theorem setV_rel (rel : Rel F env σ H) (rv : RepF F env σ H v d) (h : setV env i d = some env') : Rel F env' (σ.set i (some v)) H ∧ Lat env σ H env' (σ.set i (some v)) H := by
  unfold setV at h
  cases es : env[i]? with
  | none => rw [es] at h; cases h
  | some sl =>
    rw [es] at h
    have hl : i < env.length := (List.getElem?_eq_some_iff.mp es).1
    have fin : (∀ d', sl ≠ .io d') → some (env.set i (.dat d)) = some env' → Rel F env' (σ.set i (some v)) H ∧ Lat env σ H env' (σ.set i (some v)) H := fun nio h => by
      cases h
      have nio' : ∀ d', env[i]? ≠ some (.io d') := fun d' z => nio d' (by rw [es] at z; exact Option.some.inj z)
      exact ⟨rel.setGen nio' (fun d' => ⟨fun z => (nomatch z), fun z => (nomatch z)⟩) hl (fun d' e => by cases e; exact ⟨v, rfl, rv⟩) (fun d' z => nomatch z), Lat.set nio' (fun d' => ⟨fun z => (nomatch z), fun z => (nomatch z)⟩) hl⟩
    cases sl with
    | io d' => cases h
    | bor d' => cases h
    | un => exact fin (fun _ z => nomatch z) h
    | dat d' => exact fin (fun _ z => nomatch z) h
    | own d' => exact fin (fun _ z => nomatch z) h
end
section
variable {X : Cx} {st : Stmt} {i j : Nat} {fr fr' : Bool} {fa fb : En → Res (D × En)}
theorem parD_imp : ∀ (E : Ends) (σ : L2.St) (H : Hp), (tS X fun env => (fa env).bind fun p => (fb p.2).bind fun q => parM i j p.1 q) E σ H → (tPar i j (tCons (tR X false fa) (tCons (tR X false fb) tNil))) E σ H :=
  fun E σ H ⟨F, env, g, rel, o⟩ => ⟨F, env, g, rel, by
    dsimp only at o
    cases e1 : fa env with
    | exc c d => rw [e1] at o; exact o
    | bad => rw [e1] at o; exact o
    | ok p =>
      rw [e1] at o
      intro v H1 ps1 rv _
      refine ⟨F, p.2, g, ps1.rel, ?_⟩
      have o : OutS F env σ H ((fb p.2).bind fun q => parM i j p.1 q) E := o
      cases e2 : fb p.2 with
      | exc c d => rw [e2] at o; exact o
      | bad => rw [e2] at o; exact o
      | ok q =>
        rw [e2] at o
        intro w H2 ps2 rw2 _
        have o : OutS F env σ H (optE ((setV q.2 i p.1).bind fun e => setV e j q.1)) E := o
        refine ⟨v, w, rfl, ?_⟩
        cases e3 : setV q.2 i p.1 with
        | none => rw [e3] at o; exact o.elim
        | some env3 =>
          rw [e3] at o
          obtain ⟨rel3, la3⟩ := setV_rel ps2.rel (ps2.rep rv) e3
          have o : OutS F env σ H (optE (setV env3 j q.1)) E := o
          cases e4 : setV env3 j q.1 with
          | none => rw [e4] at o; exact o.elim
          | some env4 =>
            rw [e4] at o
            obtain ⟨rel4, la4⟩ := setV_rel rel3 (la3.rep rw2) e4
            exact o _ _ rel4 (((ps1.toLat.trans ps2.toLat).trans la3).trans la4)⟩
end
end Dm
set_option Elab.async false
set_option linter.all false
set_option maxRecDepth 100000
set_option maxHeartbeats 1000000
namespace Dm
open PySem PySem.Spec PyProof.Rows L2
theorem add_comm (F : Fx) (a b : Addr) : (F.add a).add b = (F.add b).add a := by
  show ({ F with C := _ } : Fx) = { F with C := _ }
  congr 1
  funext c
  apply propext
  constructor
  · rintro ((h | h) | h)
    · exact .inl (.inl h)
    · exact .inr h
    · exact .inl (.inr h)
  · rintro ((h | h) | h)
    · exact .inl (.inl h)
    · exact .inr h
    · exact .inl (.inr h)
theorem own_set {env : En} {σ : SV} {i : Nat} {d : D} {a c : Addr} (h : Own (env.set i (.own d)) (σ.set i (some (.ref a))) c) : c = a ∨ Own env σ c := by
  obtain ⟨k, dk, hk, ek⟩ := h
  by_cases e : k = i
  · subst e
    by_cases hl : k < σ.length
    · rw [List.getElem?_set_self hl] at ek
      cases ek
      exact .inl rfl
    · rw [List.getElem?_eq_none (by rw [List.length_set]; omega)] at ek
      cases ek
  · rw [List.getElem?_set_ne (Ne.symm e)] at hk ek
    exact .inr ⟨k, dk, hk, ek⟩
theorem okS_io {env : En} {i : Nat} (h : okS env i = true) : (∀ d, env[i]? ≠ some (.io d)) ∧ i < env.length := by
  unfold okS at h
  refine ⟨fun d z => ?_, ?_⟩
  · rw [z] at h
    cases h
  · rcases Nat.lt_or_ge i env.length with z | z
    · exact z
    · rw [List.getElem?_eq_none z] at h
      cases h
section
variable {X : Cx} {st : Stmt} {i j : Nat} {fa fb : En → Res (D × En)}
theorem parO_imp : ∀ (E : Ends) (σ : L2.St) (H : Hp), (tS X fun env => (fa env).bind fun p => (fb p.2).bind fun q => parO i j p.1 q) E σ H → (tPar i j (tCons (tR X true fa) (tCons (tR X true fb) tNil))) E σ H :=
  fun E σ H ⟨F, env, g, rel, o⟩ => ⟨F, env, g, rel, by
    dsimp only at o
    cases e1 : fa env with
    | exc c d => rw [e1] at o; exact o
    | bad => rw [e1] at o; exact o
    | ok p =>
      rw [e1] at o
      intro v H1 ps1 rv hf1
      have o : OutS F env σ H ((fb p.2).bind fun q => parO i j p.1 q) E := o
      by_cases hm1 : p.1.isMut = true
      · obtain ⟨a, rfl, n0, rel1, t⟩ := hf1 rfl hm1
        refine ⟨F.add a, p.2, g, rel1, ?_⟩
        cases e2 : fb p.2 with
        | exc c d => rw [e2] at o; exact o
        | bad => rw [e2] at o; exact o
        | ok q =>
          rw [e2] at o
          intro w H2 ps2 rw2 hf2
          have o : OutS F env σ H (if p.1.isMut && q.1.isMut && okS q.2 i && okS q.2 j && decide (i ≠ j) then .ok (.nx ((q.2.set i (.own p.1)).set j (.own q.1))) else .bad) E := o
          by_cases hc : (p.1.isMut && q.1.isMut && okS q.2 i && okS q.2 j && decide (i ≠ j)) = true
          · rw [if_pos hc] at o
            simp only [Bool.and_eq_true, decide_eq_true_eq] at hc
            obtain ⟨⟨⟨⟨_, hm2⟩, oi⟩, oj⟩, hij⟩ := hc
            obtain ⟨b, rfl, n1, relB, tb⟩ := hf2 rfl hm2
            have hab : a ≠ b := fun z => t.nn (z ▸ n1)
            have newa := rel.new n0
            have n0b : H b = none := by
              cases e : H b with
              | none => rfl
              | some u => exact absurd n1 (ps1.nn b (by rw [e]; exact fun z => nomatch z))
            have newb := rel.new n0b
            have na : ¬ Own p.2 σ a := fun z => (rel1.ownSome z).2.1 (.inr rfl)
            have ta : TopF ((F.add a).add b) q.2 σ H2 a p.1 := t.mono ps2.kpA (fun c hc z => by
              rcases z with (z | z) | z
              · exact .inl z
              · exact absurd n1 (z ▸ hc)
              · exact .inr (ps2.sub c hc z)) fun u e => ps2.kp a u e na
            rw [add_comm] at relB ta
            obtain ⟨io1, l1⟩ := okS_io oi
            obtain ⟨io2, l2⟩ := okS_io oj
            have rel3 : Rel (F.add b) (q.2.set i (.own p.1)) (σ.set i (some (.ref a))) H2 := relB.setOwn io1 l1 (fun z => z.elim newa.2.1 hab) newa.1 ta
            have tb3 : TopF (F.add b) (q.2.set i (.own p.1)) (σ.set i (some (.ref a))) H2 b q.1 := tb.mono Kp.refl (fun c _ z => by
              rcases z with (z | z) | z
              · exact .inl (.inl (.inl z))
              · exact .inl (.inr z)
              · rcases own_set z with z | z
                · exact .inl (.inl (.inr z))
                · exact .inr z) fun _ q => q
            have io3 : ∀ d, (q.2.set i (.own p.1))[j]? ≠ some (.io d) := fun d z => by
              rw [List.getElem?_set_ne hij] at z
              exact io2 d z
            have rel4 := rel3.setOwn io3 (by rw [List.length_set]; exact l2) newb.2.1 newb.1 tb3
            refine ⟨.ref a, .ref b, rfl, o _ _ rel4 ?_⟩
            have nn1 : ∀ c, H c ≠ none → H1 c ≠ none := ps1.nn
            refine ⟨fun c u e nc => ?_, fun c hc z => ?_, fun c hc => ps2.nn c (ps1.nn c hc), fun k dk hk => ?_⟩
            · refine ps2.kp c u (ps1.kp c u e nc) fun z => nc (ps1.sub c (by rw [e]; exact fun z => nomatch z) z)
            · rcases own_set z with z | z
              · exact absurd n0b (z ▸ hc)
              · rcases own_set z with z | z
                · exact absurd n0 (z ▸ hc)
                · exact ps1.sub c hc (ps2.sub c (ps1.nn c hc) z)
            · obtain ⟨d1, k1, s1⟩ := ps1.io k dk hk
              obtain ⟨d2, k2, s2⟩ := ps2.io k d1 k1
              have hki : k ≠ i := fun z => io1 d2 (z ▸ k2)
              have hkj : k ≠ j := fun z => io2 d2 (z ▸ k2)
              refine ⟨d2, ?_, ?_⟩
              · rw [List.getElem?_set_ne (Ne.symm hkj), List.getElem?_set_ne (Ne.symm hki)]
                exact k2
              · rw [List.getElem?_set_ne (Ne.symm hkj), List.getElem?_set_ne (Ne.symm hki)]
          · rw [if_neg hc] at o
            exact o.elim
      · refine ⟨F, p.2, g, ps1.rel, ?_⟩
        cases e2 : fb p.2 with
        | exc c d => rw [e2] at o; exact o
        | bad => rw [e2] at o; exact o
        | ok q =>
          rw [e2] at o
          have o : OutS F env σ H (if p.1.isMut && q.1.isMut && okS q.2 i && okS q.2 j && decide (i ≠ j) then .ok (.nx ((q.2.set i (.own p.1)).set j (.own q.1))) else .bad) E := o
          rw [if_neg (by simp [hm1])] at o
          exact o.elim⟩
end
end Dm
set_option Elab.async false
set_option linter.all false
set_option maxRecDepth 100000
set_option maxHeartbeats 1000000
namespace Dm
open PySem PySem.Spec PyProof.Rows L2
section
variable {X : Cx} {st : Stmt} {i j : Nat} {fa fb : En → Res (D × En)}
theorem parDO_imp : ∀ (E : Ends) (σ : L2.St) (H : Hp), (tS X fun env => (fa env).bind fun p => (fb p.2).bind fun q => parDO i j p.1 q) E σ H → (tPar i j (tCons (tR X false fa) (tCons (tR X true fb) tNil))) E σ H :=
  fun E σ H ⟨F, env, g, rel, o⟩ => ⟨F, env, g, rel, by
    dsimp only at o
    cases e1 : fa env with
    | exc c d => rw [e1] at o; exact o
    | bad => rw [e1] at o; exact o
    | ok p =>
      rw [e1] at o
      intro v H1 ps1 rv _
      have o : OutS F env σ H ((fb p.2).bind fun q => parDO i j p.1 q) E := o
      refine ⟨F, p.2, g, ps1.rel, ?_⟩
      cases e2 : fb p.2 with
      | exc c d => rw [e2] at o; exact o
      | bad => rw [e2] at o; exact o
      | ok q =>
        rw [e2] at o
        intro w H2 ps2 rw2 hf2
        have o : OutS F env σ H (match setV q.2 i p.1 with
          | some e => if q.1.isMut && okS e j then .ok (.nx (e.set j (.own q.1))) else .bad
          | none => .bad) E := o
        cases e3 : setV q.2 i p.1 with
        | none => rw [e3] at o; exact o.elim
        | some env3 =>
          rw [e3] at o
          have o : OutS F env σ H (if q.1.isMut && okS env3 j then .ok (.nx (env3.set j (.own q.1))) else .bad) E := o
          by_cases hc : (q.1.isMut && okS env3 j) = true
          · rw [if_pos hc] at o
            rw [Bool.and_eq_true] at hc
            obtain ⟨b, rfl, n1, relB, tb⟩ := hf2 rfl hc.1
            obtain ⟨io2, l2⟩ := okS_io hc.2
            have n0b : H b = none := by
              cases e : H b with
              | none => rfl
              | some u => exact absurd n1 (ps1.nn b (by rw [e]; exact fun z => nomatch z))
            have newb := rel.new n0b
            have rv2 : RepF (F.add b) q.2 σ H2 v p.1 := rv.mono ps2.kpA fun c hc z => by
              rcases z with (z | z) | z
              · exact .inl z
              · exact absurd n1 (z ▸ hc)
              · exact .inr (ps2.sub c hc z)
            obtain ⟨rel3, la3⟩ := setV_rel relB rv2 e3
            have tb3 : TopF (F.add b) env3 (σ.set i (some v)) H2 b q.1 := tb.mono Kp.refl (fun c hc z => la3.av hc z) fun _ q => q
            have rel4 := rel3.setOwn io2 l2 newb.2.1 newb.1 tb3
            have la := (ps1.toLat.trans ps2.toLat).trans la3
            refine ⟨v, .ref b, rfl, o _ _ rel4 ⟨la.kp, fun c hc z => ?_, la.nn, fun k dk hk => ?_⟩⟩
            · rcases own_set z with z | z
              · exact absurd n0b (z ▸ hc)
              · exact la.sub c hc z
            · obtain ⟨d1, k1, s1⟩ := la.io k dk hk
              have hkj : k ≠ j := fun z => io2 d1 (z ▸ k1)
              exact ⟨d1, by rw [List.getElem?_set_ne (Ne.symm hkj)]; exact k1, by rw [List.getElem?_set_ne (Ne.symm hkj)]; exact s1⟩
          · rw [if_neg hc] at o
            exact o.elim⟩
theorem parOD_imp : ∀ (E : Ends) (σ : L2.St) (H : Hp), (tS X fun env => (fa env).bind fun p => (fb p.2).bind fun q => parOD i j p.1 q) E σ H → (tPar i j (tCons (tR X true fa) (tCons (tR X false fb) tNil))) E σ H :=
  fun E σ H ⟨F, env, g, rel, o⟩ => ⟨F, env, g, rel, by
    dsimp only at o
    cases e1 : fa env with
    | exc c d => rw [e1] at o; exact o
    | bad => rw [e1] at o; exact o
    | ok p =>
      rw [e1] at o
      intro v H1 ps1 rv hf1
      have o : OutS F env σ H ((fb p.2).bind fun q => parOD i j p.1 q) E := o
      by_cases hm1 : p.1.isMut = true
      · obtain ⟨a, rfl, n0, rel1, t⟩ := hf1 rfl hm1
        refine ⟨F.add a, p.2, g, rel1, ?_⟩
        cases e2 : fb p.2 with
        | exc c d => rw [e2] at o; exact o
        | bad => rw [e2] at o; exact o
        | ok q =>
          rw [e2] at o
          intro w H2 ps2 rw2 _
          have o : OutS F env σ H (match setV q.2 j q.1 with
            | some e => if p.1.isMut && okS e i && decide (i ≠ j) then .ok (.nx (e.set i (.own p.1))) else .bad
            | none => .bad) E := o
          cases e3 : setV q.2 j q.1 with
          | none => rw [e3] at o; exact o.elim
          | some env3 =>
            rw [e3] at o
            have o : OutS F env σ H (if p.1.isMut && okS env3 i && decide (i ≠ j) then .ok (.nx (env3.set i (.own p.1))) else .bad) E := o
            by_cases hc : (p.1.isMut && okS env3 i && decide (i ≠ j)) = true
            · rw [if_pos hc] at o
              simp only [Bool.and_eq_true, decide_eq_true_eq] at hc
              obtain ⟨⟨_, oi⟩, hij⟩ := hc
              obtain ⟨io2, l2⟩ := okS_io oi
              have newa := rel.new n0
              have na : ¬ Own p.2 σ a := fun z => (rel1.ownSome z).2.1 (.inr rfl)
              have ta : TopF (F.add a) q.2 σ H2 a p.1 := t.mono ps2.kpA (fun c hc z => ps2.toLat.av hc z) fun u e => ps2.kp a u e na
              obtain ⟨rel3, la3⟩ := setV_rel ps2.rel rw2 e3
              have ta3 : TopF (F.add a) env3 (σ.set j (some w)) H2 a p.1 := ta.mono Kp.refl (fun c hc z => la3.av hc z) fun _ q => q
              have rel4 := rel3.setOwn io2 l2 newa.2.1 newa.1 ta3
              have la := (ps1.toLat.trans ps2.toLat).trans la3
              refine ⟨.ref a, w, rfl, ?_⟩
              rw [List.set_comm _ _ hij]
              refine o _ _ rel4 ⟨la.kp, fun c hc z => ?_, la.nn, fun k dk hk => ?_⟩
              · rcases own_set z with z | z
                · exact absurd n0 (z ▸ hc)
                · exact la.sub c hc z
              · obtain ⟨d1, k1, s1⟩ := la.io k dk hk
                have hkj : k ≠ i := fun z => io2 d1 (z ▸ k1)
                exact ⟨d1, by rw [List.getElem?_set_ne (Ne.symm hkj)]; exact k1, by rw [List.getElem?_set_ne (Ne.symm hkj)]; exact s1⟩
            · rw [if_neg hc] at o
              exact o.elim
      · refine ⟨F, p.2, g, ps1.rel, ?_⟩
        cases e2 : fb p.2 with
        | exc c d => rw [e2] at o; exact o
        | bad => rw [e2] at o; exact o
        | ok q =>
          rw [e2] at o
          have o : OutS F env σ H (match setV q.2 j q.1 with
            | some e => if p.1.isMut && okS e i && decide (i ≠ j) then .ok (.nx (e.set i (.own p.1))) else .bad
            | none => .bad) E := o
          cases e3 : setV q.2 j q.1 with
          | none => rw [e3] at o; exact o.elim
          | some env3 =>
            rw [e3] at o
            have o : OutS F env σ H (if p.1.isMut && okS env3 i && decide (i ≠ j) then .ok (.nx (env3.set i (.own p.1))) else .bad) E := o
            rw [if_neg (by simp [hm1])] at o
            exact o.elim⟩
end
end Dm
set_option Elab.async false
set_option linter.all false
set_option maxRecDepth 100000
set_option maxHeartbeats 1000000
namespace Dm
open PySem PySem.Spec PyProof.Rows L2
def isStarE : Expr → Bool
  | .Starred .. => true
  | _ => false
/-- the plain local names of one line -/
def nmsOf (env : PySem.Env) (n : Nat) (ts : List Expr) : List Str := ts.filterMap fun
  | .Name id pos => if env.kindOf id == some .local && pos.line == n then some id else none
  | _ => none
theorem swap_eq {x y : Str} {px py pt pt2 : Pos} {kt k2} {a b : Expr} {env : PySem.Env} : swappedStores [.Tuple [.Name x px, .Name y py] kt pt] (.Tuple [a, b] k2 pt2) env =
    (if (env.blockKind != .function) = true then pure none else if (isStarE a || (isStarE b || false)) = true then pure none
     else if ((nmsOf env px.line [.Name x px, .Name y py]).length != 2 || (nmsOf env px.line [.Name x px, .Name y py]).eraseDups.length != (nmsOf env px.line [.Name x px, .Name y py]).length) = true then pure none
     else if [a, b].all (foldedForSure 8) = true then pure none
     else if [a, b].all (constantsAlone 8) = true then (unsupported "assign.tuple-of-constant-expressions:order-of-the-stores" >>= fun (_ : PUnit) => pure (some (nmsOf env px.line [.Name x px, .Name y py]))) else pure (some (nmsOf env px.line [.Name x px, .Name y py]))) := rfl
/-- may a pair be stored without a tuple -/
theorem swap_yes {x y : Str} {px py pt pt2 : Pos} {kt k2} {a b : Expr} {env : PySem.Env} (hk : env.blockKind = .function) (hx : env.kindOf x = some .local) (hy : env.kindOf y = some .local) (hl : (py.line == px.line) = true) (hn : (y == x) = false)
    (hs : isStarE a = false) (hs' : isStarE b = false) (hf : [a, b].all (foldedForSure 8) = false) (hc : [a, b].all (constantsAlone 8) = false) :
    swappedStores [.Tuple [.Name x px, .Name y py] kt pt] (.Tuple [a, b] k2 pt2) env = pure (some [x, y]) := by
  have hfm : nmsOf env px.line [.Name x px, .Name y py] = [x, y] := by
    unfold nmsOf
    rw [List.filterMap_cons_some (b := x) (by simp [hx]), List.filterMap_cons_some (b := y) (by rw [beq_iff_eq] at hl; simp [hy, hl]), List.filterMap_nil]
  have hed : ([x, y] : List Str).eraseDups.length = 2 := by
    rw [List.eraseDups_cons, List.filter_cons_of_pos (by rw [hn]; rfl)]
    simp [List.eraseDups_cons]
  rw [swap_eq, hk, hs, hs', hf, hc, hfm, hed]
  rfl
theorem swap_no {x y : Str} {px py pt pt2 : Pos} {kt k2} {a b : Expr} {env : PySem.Env} (h : env.kindOf x ≠ some .local ∨ env.kindOf y ≠ some .local) : swappedStores [.Tuple [.Name x px, .Name y py] kt pt] (.Tuple [a, b] k2 pt2) env = pure none := by
  have l1 : ∀ e : Expr, (nmsOf env px.line [e]).length ≤ 1 := fun e => List.length_filterMap_le _ [e]
  have l0 : ∀ (z : Str) (p : Pos), env.kindOf z ≠ some .local → nmsOf env px.line [.Name z p] = [] := fun z p hz => by
    unfold nmsOf
    rw [List.filterMap_cons_none (by simp [hz]), List.filterMap_nil]
  have e : nmsOf env px.line [.Name x px, .Name y py] = nmsOf env px.line [.Name x px] ++ nmsOf env px.line [.Name y py] := by
    unfold nmsOf
    rw [← List.filterMap_append]
    rfl
  have hfm : (nmsOf env px.line [.Name x px, .Name y py]).length ≠ 2 := by
    rw [e, List.length_append]
    rcases h with h | h
    · rw [l0 x px h]
      have := l1 (.Name y py)
      simp only [List.length_nil]
      omega
    · rw [l0 y py h]
      have := l1 (.Name x px)
      simp only [List.length_nil]
      omega
  rw [swap_eq]
  have h2 : ((nmsOf env px.line [.Name x px, .Name y py]).length != 2) = true := by simpa using hfm
  rw [h2, Bool.true_or]
  split
  · rfl
  · split <;> rfl
section
variable {X : Cx} {i j : Nat} {x y : Str} {a b : Expr} {ta : TA} {px py pt pt2 pos : Pos} {kt k2 : Nat}
/-- x, y = e1, e2 by a tuple that nobody knows -/
def tParT (K : PySem.W.Frag) (i j : Nat) (ta : TA) : TS := tAsg (tTup ta) (gTup K 2 (gCons (gName i) (gCons (gName j) gNil)))
theorem ps_parT (hc : X.calm = true) (hN : X.N.Nodup) (hi : X.N[i]? = some x) (hj : X.N[j]? = some y) (hx : L2.Loc X.env.scope x) (hy : L2.Loc X.env.scope y) (fx : X.fn x = true ∨ X.env.scope.names.lookup x = some .local) (fy : X.fn y = true ∨ X.env.scope.names.lookup y = some .local) (ha : PA X [a, b] ta)
    (hw : swappedStores [.Tuple [.Name x px, .Name y py] kt pt] (.Tuple [a, b] k2 pt2) X.env = pure none) : PS X (.Assign [.Tuple [.Name x px, .Name y py] kt pt] (.Tuple [a, b] k2 pt2) pos) (tParT X.K i j ta) :=
  ps_asg (pe_tup ha) (pg_tup (n := 2) hc (pgs_cons (pg_name hN hi hx fx) (pgs_cons (pg_name hN hj hy fy) pgs_nil))) rfl hw rfl
theorem two_le (v w : V) : [v, w].length ≤ sizeLine := by rw [sizeLine_eq]; show 2 ≤ 16777216; omega
/-- one more tuple in the heap -/
theorem tS_more {f : En → Res Fl} {E : Ends} {σ : L2.St} {H : Hp} (h : tS X f E σ H) (hf : ∀ env fr d e, f env ≠ .ok (.rt fr d e)) : tS X f { E with nx := fun σ' H' => ∀ p v w, H' p = none → E.nx σ' (upd H' p (.tup [v, w])) } σ H := by
  obtain ⟨F, env, g, rel, o⟩ := h
  refine ⟨F, env, g, rel, ?_⟩
  cases e1 : f env with
  | exc c d => rw [e1] at o; exact o
  | bad => rw [e1] at o; exact o
  | ok fl =>
    rw [e1] at o
    cases fl with
    | rt fr d e => exact absurd e1 (hf env fr d e)
    | nx e =>
      intro σ' H' rel' la p v w hp
      exact o σ' _ (rel'.laid hp (rel'.sz.tupU (two_le v w))).drop (la.trans (Lat.laid hp))
theorem tR_mono {fr : Bool} {f : En → Res (D × En)} {σ : L2.St} {H : Hp} {Q Q' : VK} (h : tR X fr f σ H Q) (q : ∀ v H', Q v H' → Q' v H') : tR X fr f σ H Q' := by
  obtain ⟨F, env, g, rel, o⟩ := h
  refine ⟨F, env, g, rel, ?_⟩
  cases e : f env with
  | ok p => rw [e] at o; exact fun v H' ps rv hf => q v H' (o v H' ps rv hf)
  | exc c d => rw [e] at o; exact o
  | bad => rw [e] at o; exact o
theorem parT_imp {fr fr' : Bool} {fa fb : En → Res (D × En)} {f : En → Res Fl} (hf : ∀ env fr d e, f env ≠ .ok (.rt fr d e)) (imp : ∀ (E : Ends) (σ : L2.St) (H : Hp), tS X f E σ H → tPar i j (tCons (tR X fr fa) (tCons (tR X fr' fb) tNil)) E σ H) :
    ∀ (E : Ends) (σ : L2.St) (H : Hp), tS X f E σ H → tParT X.K i j (tCons (tR X fr fa) (tCons (tR X fr' fb) tNil)) E σ H := fun E σ H h => by
  have := imp _ σ H (tS_more h hf)
  refine tR_mono this fun v H1 h1 => tR_mono h1 fun w H2 h2 => ?_
  obtain ⟨v', w', e, q⟩ := h2
  cases e
  refine ⟨two_le v w, fun p hp => ⟨p, [v, w], rfl, .inl (.inl (if_pos rfl)), rfl, v, [w], rfl, w, [], rfl, rfl, q p v w hp⟩⟩
theorem par_noD {d : D} {q : D × En} {fr : Bool} {e : D} {r : En} : parM i j d q ≠ .ok (.rt fr e r) := by
  unfold parM optE
  split <;> exact fun z => nomatch z
theorem par_noO {d : D} {q : D × En} {fr : Bool} {e : D} {r : En} : parO i j d q ≠ .ok (.rt fr e r) := by
  unfold parO
  split <;> exact fun z => nomatch z
theorem par_noDO {d : D} {q : D × En} {fr : Bool} {e : D} {r : En} : parDO i j d q ≠ .ok (.rt fr e r) := by
  unfold parDO
  split
  · split <;> exact fun z => nomatch z
  · exact fun z => nomatch z
theorem par_noOD {d : D} {q : D × En} {fr : Bool} {e : D} {r : En} : parOD i j d q ≠ .ok (.rt fr e r) := by
  unfold parOD
  split
  · split <;> exact fun z => nomatch z
  · exact fun z => nomatch z
theorem parB_imp {fa fb : En → Res (D × En)} (E : Ends) (σ : L2.St) (H : Hp) (h : tS X (fun env => (fa env).bind fun p => (fb p.2).bind fun q => (fun _ _ => .bad : D → D × En → Res Fl) p.1 q) E σ H) : tPar i j (tCons (tR X false fa) (tCons (tR X false fb) tNil)) E σ H := by
  obtain ⟨F, env, g, rel, o⟩ := h
  refine ⟨F, env, g, rel, ?_⟩
  dsimp only at o
  cases e1 : fa env with
  | exc c d => rw [e1] at o; exact o
  | bad => rw [e1] at o; exact o
  | ok p =>
    rw [e1] at o
    intro v H1 ps1 rv _
    refine ⟨F, p.2, g, ps1.rel, ?_⟩
    have o : OutS F env σ H ((fb p.2).bind fun q => .bad) E := o
    cases e2 : fb p.2 with
    | exc c d => rw [e2] at o; exact o
    | bad => rw [e2] at o; exact o
    | ok q => rw [e2] at o; exact o.elim
end
end Dm
set_option Elab.async false
set_option linter.all false
set_option maxRecDepth 100000
set_option maxHeartbeats 1000000
namespace Dm
open PySem PySem.Spec PyProof.Rows L2
/-- where a def stands: in the module, in a class, as its __init__ (so many positional parameters, then those named) -/
inductive Pl where
  | glo (x : Str) | met (c : Nat) (m : Str) | ini (c n : Nat) (ks : List Str) | abs
  deriving DecidableEq, Inhabited
structure Bx where
  N : List Str
  nm : List Pl
  fs : List Fn
  con : List (Str × Cv)
  at_ : List (Nat × Str)
inductive Md where
  | val | tst | itr
  deriving DecidableEq
def vis (sc : Scope) (x : Str) : Bool := (match sc.names.lookup x with
  | some .local => true
  | some .cell => true
  | some .free => true
  | _ => false) && !(x == ("__debug__" : Str)) && !(x == ("__classdict__" : Str))
def gl (sc : Scope) (x : Str) : Bool := decide (sc.names.lookup x = some .globalImplicit) && !(x == ("__debug__" : Str))
def fcOk (fc : Option Scope) (x : Str) : Bool := match fc with
  | none => true
  | some s => decide (s.names.lookup x = some .cell)
def loc (sc : Scope) (fc : Option Scope) (x : Str) : Bool := match sc.names.lookup x with
  | some .local => true
  | some .cell => fcOk fc x
  | _ => false
def slotIs (B : Bx) (sc : Scope) (i : Nat) (x : Str) : Bool := decide (B.N[i]? = some x) && vis sc x
def noStar : Expr → Bool
  | .Starred _ _ => false
  | _ => true
def notSet : Expr → Bool
  | .Set _ _ _ => false
  | _ => true
def plainT : Expr → Bool
  | .UnaryOp .Not _ _ => false
  | .BoolOp _ _ _ => false
  | .IfExp _ _ _ _ => false
  | .Compare _ _ _ _ => false
  | _ => true
def isCall : Expr → Bool
  | .Call _ _ _ _ => true
  | _ => false
/-- super() -/
def isSup : Expr → Bool
  | .Call (.Name _ _) [] [] _ => true
  | _ => false
/-- what a mode asks of an expression beside its value -/
def md (m : Md) (e : Expr) : Bool := match m with
  | .val => true
  | .tst => plainT e
  | .itr => notSet e
def lenE : Ex → Nat
  | .cons _ es => lenE es + 1
  | _ => 0
def isNil : Ex → Bool
  | .nil => true
  | _ => false
def isYes : Ex → Bool
  | .cB b => b
  | _ => false
def blts : List Str := ["len", "int", "max", "min", "all", "any", "sum", "tuple", "list", "dict", "isinstance", "range", "str", "bool", "sorted", "repr"]
mutual
def chkG (B : Bx) : Ex → Scope → Option Scope → Expr → Bool
  | .var i, sc, fc, e => (match e with
    | .Name x _ => decide (B.N[i]? = some x) && loc sc fc x
    | _ => false)
  | .tup ts, sc, fc, e => (match e with
    | .Tuple es _ _ => chkGs B ts sc fc es
    | _ => false)
  | _, _, _, _ => false
def chkGs (B : Bx) : Ex → Scope → Option Scope → List Expr → Bool
  | .nil, _, _, es => (match es with
    | [] => true
    | _ :: _ => false)
  | .cons t ts, sc, fc, es => (match es with
    | [] => false
    | e :: es => noStar e && chkG B t sc fc e && chkGs B ts sc fc es)
  | _, _, _, _ => false
end
def ownp (B : Bx) (own : List Nat) : List (Str × Nat) := own.map fun i => (B.N.getD i "", i)
def plainIx : Expr → Bool
  | .Name _ _ => true
  | .Constant _ _ _ => true
  | .Call _ _ _ _ => true
  | .BinOp _ _ _ _ => true
  | .Subscript _ _ _ => true
  | .UnaryOp _ _ _ => true
  | .Attribute _ _ _ => true
  | .Tuple _ _ _ => false
  | _ => false
mutual
def chkE (B : Bx) : Ex → Md → Scope → Option Scope → Expr → Bool
  | .var i, m, sc, fc, e => md m e && (match e with
    | .Name x _ => slotIs B sc i x
    | _ => false)
  | .con x c, m, sc, fc, e => md m e && (match e with
    | .Name y _ => decide (y = x) && gl sc x && decide (B.con.lookup x = some c)
    | _ => false)
  | .cI i, m, sc, fc, e => md m e && (match e with
    | .Constant (.int j) _ _ => decide (i = j)
    | _ => false)
  | .cS i, m, sc, fc, e => md m e && (match e with
    | .Constant (.str j) _ _ => decide (i = j)
    | _ => false)
  | .cB i, m, sc, fc, e => md m e && (match e with
    | .Constant (.bool j) _ _ => decide (i = j)
    | _ => false)
  | .cN, m, sc, fc, e => md m e && (match e with
    | .Constant .none _ _ => true
    | _ => false)
  | .lst es, m, sc, fc, e => md m e && (match e with
    | .List l _ => decide (lenE es ≤ 1000) && chkL B es sc fc l
    | _ => false)
  | .tup es, m, sc, fc, e => md m e && (match e with
    | .Tuple l _ _ => decide (lenE es ≤ 1000) && chkL B es sc fc l
    | _ => false)
  | .dic0, m, sc, fc, e => md m e && (match e with
    | .Dict [] [] _ => true
    | _ => false)
  | .bin op a b, m, sc, fc, e => md m e && (match e with
    | .BinOp x op' y _ => decide (op = op') && chkE B a .val sc fc x && chkE B b .val sc fc y
    | _ => false)
  | .neg a, m, sc, fc, e => md m e && (match e with
    | .UnaryOp .USub x _ => chkE B a .val sc fc x
    | _ => false)
  | .not a, m, sc, fc, e => (match e with
    | .UnaryOp .Not x _ => (match m with
      | .val => chkE B a .val sc fc x
      | .tst => chkE B a .tst sc fc x
      | .itr => false)
    | _ => false)
  | .and a b, m, sc, fc, e => (match e with
    | .BoolOp .And (x :: y :: rest) pos => (match m with
      | .val => chkE B a .val sc fc x && (match rest with
        | [] => chkE B b .val sc fc y
        | z :: zs => chkE B b .val sc fc (.BoolOp .And (y :: z :: zs) pos))
      | .tst => chkE B a .tst sc fc x && (match rest with
        | [] => chkE B b .tst sc fc y
        | z :: zs => chkE B b .tst sc fc (.BoolOp .And (y :: z :: zs) pos))
      | .itr => false)
    | _ => false)
  | .or a b, m, sc, fc, e => (match e with
    | .BoolOp .Or (x :: y :: rest) pos => (match m with
      | .val => chkE B a .val sc fc x && (match rest with
        | [] => chkE B b .val sc fc y
        | z :: zs => chkE B b .val sc fc (.BoolOp .Or (y :: z :: zs) pos))
      | .tst => chkE B a .tst sc fc x && (match rest with
        | [] => chkE B b .tst sc fc y
        | z :: zs => chkE B b .tst sc fc (.BoolOp .Or (y :: z :: zs) pos))
      | .itr => false)
    | _ => false)
  | .cmp op a b, m, sc, fc, e => (match e with
    | .Compare x [op'] [y] _ => decide (m ≠ .itr) && decide (op = op') && notSet y && chkE B a .val sc fc x && chkE B b .val sc fc y
    | _ => false)
  | .chn op op2 a b c, m, sc, fc, e => (match e with
    | .Compare x [o1, o2] [y, z] _ => decide (m ≠ .itr) && decide (op = o1) && decide (op2 = o2) && notSet y && notSet z && chkE B a .val sc fc x && chkE B b .val sc fc y && chkE B c .val sc fc z
    | _ => false)
  | .ife c a b, m, sc, fc, e => md m e && (match e with
    | .IfExp x y z _ => chkE B c .tst sc fc x && chkE B a .val sc fc y && chkE B b .val sc fc z
    | _ => false)
  | .isi a tys, m, sc, fc, e => md m e && (match e with
    | .Call (.Name f _) [x, .Name t _] [] _ => decide (f = "isinstance") && gl sc "isinstance" && noStar x && chkE B a .val sc fc x && (match tys with
      | [t'] => decide (t = (t' : Str)) && decide (t' ∈ okTys) && gl sc t
      | _ => false)
    | .Call (.Name f _) [x, .Tuple [.Name t _, .Name u _] _ _] [] _ => decide (f = "isinstance") && gl sc "isinstance" && noStar x && chkE B a .val sc fc x && (match tys with
      | [t', u'] => decide (t = (t' : Str)) && decide (t' ∈ okTys) && gl sc t && decide (u = (u' : Str)) && decide (u' ∈ okTys) && gl sc u
      | _ => false)
    | _ => false)
  | .cal f args fresh, m, sc, fc, e => md m e && (match e with
    | .Call (.Name x _) l [] _ => (match B.fs[f]? with
      | some fn => decide (B.nm[f]? = some (.glo x)) && gl sc x && decide (fn.fresh = fresh) && okArgs fn.ks args && chkA B args sc fc l
      | none => false)
    | _ => false)
  | .blt bt args, m, sc, fc, e => md m e && (match e with
    | .Call (.Name x _) (y :: l) [] _ => decide (x = (bltF bt).1) && gl sc (bltF bt).1 && chkL B args sc fc (y :: l)
    | _ => false)
  | .lenP i, m, sc, fc, e => md m e && (match e with
    | .Call (.Name f _) [.Name x _] [] _ => decide (f = "len") && gl sc "len" && slotIs B sc i x
    | _ => false)
  | .sub a b, m, sc, fc, e => md m e && (match e with
    | .Subscript x y _ => plainIx y && chkE B a .val sc fc x && chkE B b .val sc fc y
    | _ => false)
  | .subP i b, m, sc, fc, e => md m e && (match e with
    | .Subscript (.Name x _) y _ => slotIs B sc i x && plainIx y && chkE B b .val sc fc y
    | _ => false)
  | .slc a lo hi, m, sc, fc, e => md m e && (match e with
    | .Subscript x (.Slice l h none _) _ => chkE B a .val sc fc x && (match l with
      | none => isNil lo
      | some l => chkE B lo .val sc fc l) && (match h with
      | none => isNil hi
      | some h => chkE B hi .val sc fc h)
    | _ => false)
  | .rev a, m, sc, fc, e => md m e && (match e with
    | .Subscript x (.Slice none none (some (.UnaryOp .USub (.Constant (.int k) _ _) _)) _) _ => decide (k = 1) && chkE B a .val sc fc x
    | _ => false)
  | .rng a, m, sc, fc, e => (match e with
    | .Call (.Name f _) [x] [] _ => decide (m = .itr) && decide (f = "range") && gl sc "range" && noStar x && chkE B a .val sc fc x
    | _ => false)
  | .comp elt tgt iter cond own, m, sc, fc, e => md m e && (match e with
    | .ListComp x [⟨tg, it, ifs, k⟩] scope _ => decide (k = 0) && chkE B iter .itr sc fc it && blkC B.N sc scope (ownp B own) && chkG B tgt (relS scope sc) (some scope) tg && chkE B elt .val (relS scope sc) (some scope) x && (tgSlots tgt).all (fun i => decide (i ∈ own)) && (match ifs with
      | [] => isYes cond
      | [c] => chkE B cond .tst (relS scope sc) (some scope) c
      | _ => false)
    | _ => false)
  | .dcmp key val tgt iter own, m, sc, fc, e => md m e && (match e with
    | .DictComp x y [⟨tg, it, [], k⟩] scope _ => decide (k = 0) && chkE B iter .itr sc fc it && blkC B.N sc scope (ownp B own) && chkG B tgt (relS scope sc) (some scope) tg && chkE B key .val (relS scope sc) (some scope) x && chkE B val .val (relS scope sc) (some scope) y && (tgSlots tgt).all (fun i => decide (i ∈ own))
    | _ => false)
  | .items a, m, sc, fc, e => md m e && (match e with
    | .Call (.Name f _) [.Call (.Attribute x at_ apos) [] [] cpos] [] _ => decide (f = "list") && gl sc "list" && decide (at_ = "items") && !isCall x && (apos.endLine == cpos.line) && chkE B a .val sc fc x
    | _ => false)
  | .lstS es, m, sc, fc, e => md m e && (match e with
    | .List l _ => chkD B es sc fc l
    | _ => false)
  | .tupS es, m, sc, fc, e => md m e && (match e with
    | .Tuple l _ _ => chkD B es sc fc l
    | _ => false)
  | .fld c f a, m, sc, fc, e => md m e && (match e with
    | .Attribute x g _ => decide (g = f) && !isSup x && decide ((c, f) ∈ B.at_) && chkE B a .val sc fc x
    | _ => false)
  | .fldP c f i, m, sc, fc, e => md m e && (match e with
    | .Attribute (.Name x _) g _ => decide (g = f) && decide ((c, f) ∈ B.at_) && slotIs B sc i x
    | _ => false)
  | .get a k x, m, sc, fc, e => md m e && (match e with
    | .Call (.Attribute o g apos) [y, z] [] cpos => decide (g = "get") && !isSup o && (apos.endLine == cpos.line) && noStar y && noStar z && chkE B a .val sc fc o && chkE B k .val sc fc y && chkE B x .val sc fc z
    | _ => false)
  | .idx a b, m, sc, fc, e => md m e && (match e with
    | .Call (.Attribute o g apos) [y] [] cpos => decide (g = "index") && !isSup o && (apos.endLine == cpos.line) && noStar y && chkE B a .val sc fc o && chkE B b .val sc fc y
    | _ => false)
  | .inO neg c f a b, m, sc, fc, e => (match e with
    | .Compare x [op] [y] _ => decide (m ≠ .itr) && decide (op = if neg then .NotIn else .In) && notSet y && (match B.fs[f]? with
      | some fn => decide (B.nm[f]? = some (.met c "__contains__")) && decide (fn.ks = [.bor, .dat]) && !fn.fresh
      | none => false) && chkE B a .val sc fc x && chkE B b .val sc fc y
    | _ => false)
  | .met c g f io i args fresh, m, sc, fc, e => md m e && (match e with
    | .Call (.Attribute (.Name x _) h apos) l [] cpos => decide (h = g) && (apos.endLine == cpos.line) && decide (l.length < 30) && slotIs B sc i x && (match B.fs[f]? with
      | some fn => decide (B.nm[f]? = some (.met c g)) && decide (fn.fresh = fresh) && okArgs fn.ks (.cons (rcvE io i) args)
      | none => false) && chkA B args sc fc l
    | _ => false)
  | .mkO c f args kws, m, sc, fc, e => md m e && (match e with
    | .Call (.Name x _) (y :: l) kl _ => decide (x = clsName c) && gl sc x && (match B.fs[f]?, B.nm[f]? with
      | some fn, some (.ini c' n ks) => decide (c' = c) && decide (fn.ks = .io :: List.replicate (n + ks.length) .dat) && !fn.fresh && decide (lenE args = n) && chkK B kws ks sc fc kl
      | _, _ => false) && chkL B args sc fc (y :: l)
    | _ => false)
  | .popP i a, m, sc, fc, e => md m e && (match e with
    | .Call (.Attribute (.Name x _) g apos) [y] [] cpos => decide (g = "pop") && slotIs B sc i x && noStar y && (apos.endLine == cpos.line) && chkE B a .val sc fc y
    | _ => false)
  | .dlit ks vs, m, sc, fc, e => md m e && (match e with
    | .Dict (y :: keys) values _ => decide (keys.length ≤ 14) && chkP B vs ks sc fc (y :: keys) values
    | _ => false)
  | .scons _ _, _, _, _, _ => false
  | .nil, _, _, _, _ => false
  | .cons _ _, _, _, _, _ => false
  | .ioA _, _, _, _, _ => false
  | .borA _, _, _, _, _ => false
/-- a display's items -/
def chkD (B : Bx) : Ex → Scope → Option Scope → List Expr → Bool
  | .nil, _, _, l => (match l with
    | [] => true
    | _ => false)
  | .cons e es, sc, fc, l => (match l with
    | x :: l => noStar x && chkE B e .val sc fc x && chkD B es sc fc l
    | [] => false)
  | .scons e es, sc, fc, l => (match l with
    | .Starred x _ :: l => chkE B e .val sc fc x && chkD B es sc fc l
    | _ => false)
  | _, _, _, _ => false
/-- the pairs of a dict display -/
def chkP (B : Bx) : Ex → List Str → Scope → Option Scope → List (Option Expr) → List Expr → Bool
  | .nil, ks, _, _, l, l' => (match ks, l, l' with
    | [], [], [] => true
    | _, _, _ => false)
  | .cons e es, ks, sc, fc, l, l' => (match ks, l, l' with
    | k :: ks, some (.Constant (.str n) _ _) :: l, x :: l' => decide (n = k) && chkE B e .val sc fc x && chkP B es ks sc fc l l'
    | _, _, _ => false)
  | _, _, _, _, _, _ => false
/-- keyword arguments -/
def chkK (B : Bx) : Ex → List Str → Scope → Option Scope → List Keyword → Bool
  | .nil, ks, _, _, l => (match ks, l with
    | [], [] => true
    | _, _ => false)
  | .cons e es, ks, sc, fc, l => (match ks, l with
    | k :: ks, ⟨some n, x, _⟩ :: l => decide (n = k) && chkE B e .val sc fc x && chkK B es ks sc fc l
    | _, _ => false)
  | _, _, _, _, _ => false
def chkL (B : Bx) : Ex → Scope → Option Scope → List Expr → Bool
  | .nil, _, _, l => (match l with
    | [] => true
    | _ => false)
  | .cons e es, sc, fc, l => (match l with
    | x :: l => noStar x && chkE B e .val sc fc x && chkL B es sc fc l
    | [] => false)
  | _, _, _, _ => false
def chkA (B : Bx) : Ex → Scope → Option Scope → List Expr → Bool
  | .nil, _, _, l => (match l with
    | [] => true
    | _ => false)
  | .cons e es, sc, fc, l => (match l with
    | x :: l => (match e with
      | .ioA i => (match x with
        | .Name y _ => slotIs B sc i y
        | _ => false)
      | .borA i => (match x with
        | .Name y _ => slotIs B sc i y
        | _ => false)
      | e => noStar x && chkE B e .val sc fc x) && chkA B es sc fc l
    | [] => false)
  | _, _, _, _ => false
end
/-- a comprehension that is put into a name on its own line -/
def lcIn (sc : Scope) (y : Str) (py : Pos) : Expr → Bool
  | .ListComp _ _ scope pos => decide (sc.kind = .function) && decide (sc.names.lookup y = some .local) && (py.line == pos.line) && !(scope.names.any fun (n, k) => n == y && (k == .local || k == .cell))
  | _ => false
def lcOut (sc : Scope) (y : Str) : Bool := decide (sc.names.lookup y ≠ some .local)
def notComp : Expr → Bool
  | .ListComp _ _ _ _ => false
  | .SetComp _ _ _ _ => false
  | .DictComp _ _ _ _ _ => false
  | _ => true
def notTup : Expr → Bool
  | .Tuple _ _ _ => false
  | _ => true
def isSt : Sm → Bool
  | .skip => false
  | .seq _ _ => false
  | .frz _ => false
  | .fgt _ => false
  | _ => true
/-- one statement; what is no statement of the text: frz -/
def chkS (B : Bx) (sc : Scope) : Sm → List Stmt → Bool
  | .skip, l => (match l with
    | [] => true
    | _ => false)
  | .seq a b, l => (match a with
    | .frz _ => chkS B sc b l
    | .fgt _ => chkS B sc b l
    | a => (match l with
      | s :: l => isSt a && chkS B sc a [s] && chkS B sc b l
      | [] => false))
  | .asg tgt e, l => (match l with
    | [.Assign [tg] x _] => (match tgt with
      | .var i => (match tg with
        | .Name y py => decide (B.N[i]? = some y) && loc sc none y && chkE B e .val sc none x && (notComp x || lcIn sc y py x || lcOut sc y)
        | _ => false)
      | .tup ts => notTup x && notComp x && chkG B (.tup ts) sc none tg && chkE B e .val sc none x
      | _ => false)
    | _ => false)
  | .asgO i e, l => (match l with
    | [.Assign [.Name y py] x _] => decide (B.N[i]? = some y) && loc sc none y && chkE B e .val sc none x && (notComp x || lcIn sc y py x || lcOut sc y)
    | _ => false)
  | .frz _, _ => false
  | .fgt _, _ => false
  | .app i e, l => (match l with
    | [.Expr (.Call (.Attribute (.Name x _) at_ apos) [y] [] cpos) _] => decide (at_ = "append") && slotIs B sc i x && noStar y && chkE B e .val sc none y && (apos.endLine == cpos.line)
    | _ => false)
  | .ext i e, l => (match l with
    | [.Expr (.Call (.Attribute (.Name x _) at_ apos) [y] [] cpos) _] => decide (at_ = "extend") && slotIs B sc i x && noStar y && chkE B e .val sc none y && (apos.endLine == cpos.line)
    | _ => false)
  | .setI i k e, l => (match l with
    | [.Assign [.Subscript (.Name x _) y _] z _] => slotIs B sc i x && plainIx y && chkE B k .val sc none y && chkE B e .val sc none z && notComp z
    | _ => false)
  | .exp e, l => (match l with
    | [.Expr x _] => notComp x && chkE B e .val sc none x
    | _ => false)
  | .ret e, l => (match l with
    | [.Return (some x) _] => chkE B e .val sc none x
    | _ => false)
  | .retO i, l => (match l with
    | [.Return (some (.Name x _)) _] => slotIs B sc i x
    | _ => false)
  | .retN, l => (match l with
    | [.Return none _] => true
    | _ => false)
  | .ite c a b, l => (match l with
    | [.If x y z _] => chkE B c .tst sc none x && chkS B sc a y && chkS B sc b z
    | _ => false)
  | .for tgt iter body, l => (match l with
    | [.For tg it y [] _] => chkG B tgt sc none tg && chkE B iter .itr sc none it && chkS B sc body y
    | _ => false)
  | .whl _ c body, l => (match l with
    | [.While x y [] _] => chkE B c .tst sc none x && chkS B sc body y
    | _ => false)
  | .aug op i e, l => (match l with
    | [.AugAssign (.Name x _) o y _] => decide (o = op) && (match op with
      | .Add => true
      | .Sub => true
      | .BitAnd => true
      | _ => false) && decide (B.N[i]? = some x) && loc sc none x && chkE B e .val sc none y
    | _ => false)
  | .setF i c f e, l => (match l with
    | [.Assign [.Attribute (.Name x _) g _] y _] => decide (g = f) && decide ((c, f) ∈ B.at_) && slotIs B sc i x && chkE B e .val sc none y
    | _ => false)
  | .par _ _ i j a b, l => (match l with
    | [.Assign [.Tuple [.Name x px, .Name y py] _ _] (.Tuple [u, v] _ _) _] => decide (B.N[i]? = some x) && decide (B.N[j]? = some y) && decide (i ≠ j) && loc sc none x && loc sc none y && chkE B a .val sc none u && chkE B b .val sc none v && !isStarE u && !isStarE v && (decide (sc.names.lookup x ≠ some .local) || decide (sc.names.lookup y ≠ some .local) || ((py.line == px.line) && !(y == x) && !([u, v].all (foldedForSure 8)) && !([u, v].all (constantsAlone 8))))
    | _ => false)
  | .rai _ _, l => (match l with
    | [_] => true
    | _ => false)
end Dm
set_option Elab.async false
set_option linter.all false
set_option maxRecDepth 100000
set_option maxHeartbeats 1000000
namespace Dm
open PySem PySem.Spec PyProof.Rows L2
def Cv.v : Cv → V
  | .int i => .int i
  | .str s => .str s
/-- a def at its place -/
def PlAt (K : PySem.W.Frag) (mg : Str → Option Value) (p : Pl) (a : Addr) (fd : FuncData) (ps : List Str) : Prop := match p with
  | .glo x => mg x = some (.ref a) ∧ PySem.W.keepIn K (.ref a) = true ∧ Binds K fd ps []
  | .met c m => Cls K (clOf K c) ∧ Meth K (clOf K c) m a ∧ Binds K fd ps []
  | .ini c n ks => Mk K (clOf K c) a ∧ mg (clsName c) = some (.ref (clOf K c)) ∧ ∃ gg gV, KBn K fd ps (n + 1) ks gg gV ∧ ∀ y vs zs, gV (y :: vs) zs = y :: (vs ++ zs)
  | .abs => False
/-- where an expression of the def stands -/
structure Cok (B : Bx) (cal : Nat → List D → Res (D × List D)) (k : Nat) (sc : Scope) (fc : Option Scope) (X : Cx) : Prop where
  N : X.N = B.N
  nd : B.N.Nodup
  sc : X.env.scope = sc
  fn : ∀ x, fcOk fc x = true → X.fn x = true
  calm : X.calm = true
  nb : ∀ x ∈ blts, X.mg x = none
  con : ∀ x c, B.con.lookup x = some c → ∃ u, X.mg x = some u ∧ RelV c.v u
  room : Room (k + 1) X.A
  gd : X.A.guards = some []
  kd : fc = none → X.env.blockKind = .function
  fns : ∀ (f : Nat) fn x, B.fs[f]? = some fn → B.nm[f]? = some x → x ≠ .abs → ∃ a fd ps, PlAt X.K X.mg x a fd ps ∧ FnG X.prog X.w X.K X.mg X.base k a fd ps (spF X.K (clOf X.K) fn.ks fn.fresh (cal f))
  at_ : ∀ c f, (c, f) ∈ B.at_ → Cls X.K (clOf X.K c) ∧ NoAttr X.K (clOf X.K c) f
def So (cal : Nat → List D → Res (D × List D)) (X : Cx) (ex : Ex) : Md → Expr → Prop
  | .val, e => PE X e (tR X (frE ex) (ev cal ex))
  | .tst, e => PT X e (tRT X fun env => truR (ev cal ex env))
  | .itr, e => (∀ tg, PI X tg e (tRI X ex (ev cal ex))) ∧ ∀ x, foldedSetIterable e X.env x = pure x
section
variable {B : Bx} {cal : Nat → List D → Res (D × List D)} {k : Nat} {sc scope : Scope} {fc : Option Scope} {X : Cx}
theorem Cok.blk (c : Cok B cal k sc fc X) (s : Shared) (H : Hp) (C : Addr) (cl : List (Str × Addr)) (fp : List Addr) : Cok B cal k (relS scope sc) (some scope) (X.blk s H scope (compEnvC scope cl C X.env) fp) where
  N := c.N
  nd := c.nd
  sc := by
    have e : (compEnvC scope cl C X.env).scope = relS scope X.env.scope := rfl
    show (compEnvC scope cl C X.env).scope = _
    rw [e, c.sc]
  fn := fun x h => by
    show (scope.names.lookup x == some .cell) = true
    have h : scope.names.lookup x = some .cell := by simpa [fcOk] using h
    rw [h]; rfl
  calm := c.calm
  nb := c.nb
  con := c.con
  room := c.room
  gd := c.gd
  kd := fun h => nomatch h
  fns := c.fns
  at_ := c.at_
theorem Cok.vis (c : Cok B cal k sc fc X) {i : Nat} {x : Str} (h : slotIs B sc i x = true) : X.N[i]? = some x ∧ Vis X.env.scope x ∧ (x == ("__debug__" : Str)) = false ∧ (x == ("__classdict__" : Str)) = false := by
  simp only [slotIs, Dm.vis, Bool.and_eq_true, decide_eq_true_eq, Bool.not_eq_true'] at h
  obtain ⟨h1, ⟨h2, h3⟩, h4⟩ := h
  refine ⟨c.N ▸ h1, ?_, h3, h4⟩
  rw [c.sc]
  unfold Vis
  split at h2 <;> simp_all
theorem Cok.gl (c : Cok B cal k sc fc X) {x : Str} (h : gl sc x = true) : Gl X x ∧ (x == ("__debug__" : Str)) = false := by
  simp only [Dm.gl, Bool.and_eq_true, decide_eq_true_eq, Bool.not_eq_true'] at h
  refine ⟨?_, h.2⟩
  unfold Gl Env.kindOf
  rw [c.sc]
  exact h.1
theorem Cok.room0 (c : Cok B cal k sc fc X) : Room k X.A := c.room.mono (Nat.le_succ _)
theorem Cok.hu (c : Cok B cal k sc fc X) : X.A.units + 65 < cLine := by have := c.room.un; omega
theorem star_of {e : Expr} (h : noStar e = true) (es : List Expr) (env : PySem.Env) : starEach (e :: es) env = (false, eval e env) :: starEach es env := by
  cases e <;> first | rfl | cases h
theorem NoStar.of {e : Expr} {es : List Expr} (h : noStar e = true) (hs : NoStar es) : NoStar (e :: es) := fun env => by
  rw [star_of h, hs env]; rfl
theorem nostar_L : ∀ {ex : Ex} {l : List Expr}, chkL B ex sc fc l = true → NoStar l
  | .nil, [], _ => .nil
  | .cons e es, x :: l, h => by
    unfold chkL at h
    simp only [Bool.and_eq_true] at h
    exact NoStar.of h.1.1 (nostar_L h.2)
  | .nil, _ :: _, h => by unfold chkL at h; simp at h
  | .cons _ _, [], h => by unfold chkL at h; simp at h
  | .var _, _, h => by simp [chkL] at h
  | .con _ _, _, h => by simp [chkL] at h
  | .cI _, _, h => by simp [chkL] at h
  | .cS _, _, h => by simp [chkL] at h
  | .cB _, _, h => by simp [chkL] at h
  | .cN, _, h => by simp [chkL] at h
  | .lst _, _, h => by simp [chkL] at h
  | .tup _, _, h => by simp [chkL] at h
  | .dic0, _, h => by simp [chkL] at h
  | .bin _ _ _, _, h => by simp [chkL] at h
  | .neg _, _, h => by simp [chkL] at h
  | .not _, _, h => by simp [chkL] at h
  | .and _ _, _, h => by simp [chkL] at h
  | .or _ _, _, h => by simp [chkL] at h
  | .cmp _ _ _, _, h => by simp [chkL] at h
  | .chn _ _ _ _ _, _, h => by simp [chkL] at h
  | .ife _ _ _, _, h => by simp [chkL] at h
  | .isi _ _, _, h => by simp [chkL] at h
  | .cal _ _ _, _, h => by simp [chkL] at h
  | .ioA _, _, h => by simp [chkL] at h
  | .borA _, _, h => by simp [chkL] at h
  | .blt _ _, _, h => by simp [chkL] at h
  | .lenP _, _, h => by simp [chkL] at h
  | .sub _ _, _, h => by simp [chkL] at h
  | .subP _ _, _, h => by simp [chkL] at h
  | .slc _ _ _, _, h => by simp [chkL] at h
  | .rev _, _, h => by simp [chkL] at h
  | .rng _, _, h => by simp [chkL] at h
  | .comp _ _ _ _ _, _, h => by simp [chkL] at h
  | .dcmp _ _ _ _ _, _, h => by simp [chkL] at h
  | .items _, _, h => by simp [chkL] at h
  | .scons _ _, _, h => by simp [chkL] at h
  | .lstS _, _, h => by simp [chkL] at h
  | .tupS _, _, h => by simp [chkL] at h
  | .fld _ _ _, _, h => by simp [chkL] at h
  | .fldP _ _ _, _, h => by simp [chkL] at h
  | .get _ _ _, _, h => by simp [chkL] at h
  | .idx _ _, _, h => by simp [chkL] at h
  | .inO _ _ _ _ _, _, h => by simp [chkL] at h
  | .met _ _ _ _ _ _ _, _, h => by simp [chkL] at h
  | .mkO _ _ _ _, _, h => by simp [chkL] at h
  | .popP _ _, _, h => by simp [chkL] at h
  | .dlit _ _, _, h => by simp [chkL] at h
/-- argument lists: their form -/
theorem L_cases {ex : Ex} {l : List Expr} (h : chkL B ex sc fc l = true) : (ex = .nil ∧ l = []) ∨ ∃ e es x l', ex = .cons e es ∧ l = x :: l' ∧ noStar x = true ∧ chkE B e .val sc fc x = true ∧ chkL B es sc fc l' = true := by
  cases ex with
  | nil => cases l with
    | nil => exact .inl ⟨rfl, rfl⟩
    | cons _ _ => simp [chkL] at h
  | cons e es => cases l with
    | nil => simp [chkL] at h
    | cons x l => 
      simp only [chkL, Bool.and_eq_true] at h
      exact .inr ⟨e, es, x, l, rfl, rfl, h.1.1, h.1.2, h.2⟩
  | _ => simp [chkL] at h
theorem one_len : ∀ {ex : Ex} {l : List Expr} {env : En} {p : List D × En}, chkL B ex sc fc l = true → one (ev cal ex env) = .ok p → p.1.length = lenE ex := by
  intro ex
  induction ex with
  | cons e es _ ih =>
    intro l env p h hp
    rcases L_cases h with ⟨hx, _⟩ | ⟨_, _, _, _, hx, rfl, _, _, hl⟩
    · cases hx
    · cases hx
      have hp : one ((ev cal e env).bind fun p => (one (ev cal es p.2)).bind fun q => .ok (.tup (p.1 :: q.1), q.2)) = .ok p := hp
      cases e1 : ev cal e env with
      | exc c d => rw [e1] at hp; cases hp
      | bad => rw [e1] at hp; cases hp
      | ok p1 =>
        rw [e1] at hp
        have hp : one ((one (ev cal es p1.2)).bind fun q => .ok (.tup (p1.1 :: q.1), q.2)) = .ok p := hp
        cases e2 : one (ev cal es p1.2) with
        | exc c d => rw [e2] at hp; cases hp
        | bad => rw [e2] at hp; cases hp
        | ok p2 =>
          rw [e2] at hp
          cases hp
          show (p1.1 :: p2.1).length = lenE es + 1
          rw [List.length_cons, ih hl e2]
  | nil =>
    intro l env p h hp
    cases hp
    rfl
  | _ => intro l env p h; simp [chkL] at h
theorem one_cons (e es : Ex) (env : En) : one (ev cal (.cons e es) env) = (ev cal e env).bind fun p => (one (ev cal es p.2)).bind fun q => .ok (p.1 :: q.1, q.2) := by
  show one ((ev cal e env).bind fun p => (one (ev cal es p.2)).bind fun q => .ok (.tup (p.1 :: q.1), q.2)) = _
  cases ev cal e env with
  | exc c d => rfl
  | bad => rfl
  | ok p1 =>
    show one ((one (ev cal es p1.2)).bind fun q => .ok (.tup (p1.1 :: q.1), q.2)) = (one (ev cal es p1.2)).bind fun q => .ok (p1.1 :: q.1, q.2)
    cases one (ev cal es p1.2) with
    | exc c d => rfl
    | bad => rfl
    | ok p2 => rfl
theorem fold_of {e : Expr} (h : notSet e = true) (env : PySem.Env) (x : Value) : foldedSetIterable e env x = pure x := by
  cases e <;> first | rfl | cases h
theorem plain_of {e : Expr} (h : plainT e = true) (env : PySem.Env) : ∀ whole, isTrue e env whole = (do let v ← whole; standAt e.pos; holding [v] (truthy v)) := by
  intro whole
  cases e with
  | UnaryOp op x p => cases op <;> first | rfl | cases h
  | _ => first | rfl | cases h
theorem So.of {ex : Ex} {m : Md} {e : Expr} (hm : md m e = true) (h : PE X e (tR X (frE ex) (ev cal ex))) (hv : ∀ i, ex = .var i → PE X e (tVar i)) : So cal X ex m e := by
  cases m with
  | val => exact h
  | tst => exact t_val h (plain_of hm X.env)
  | itr => exact ⟨fun tg => s_iter h fun i hi => ⟨hv i hi, fun env => by subst hi; rfl⟩, fold_of hm X.env⟩
theorem So.of' {ex : Ex} {m : Md} {e : Expr} (hm : md m e = true) (h : PE X e (tR X (frE ex) (ev cal ex))) (hv : ∀ i, ex ≠ .var i) : So cal X ex m e := So.of hm h fun i hi => absurd hi (hv i)
theorem mark_of {op : CmpOp} {e : Expr} (h : notSet e = true) : behindInMarks op e = false := by
  cases e <;> first | rfl | cases h
theorem ix_of {e : Expr} (h : plainIx e = true) : PlainIx e := by
  intro o i
  cases e <;> first | rfl | cases h
theorem ownp_snd (own : List Nat) : (ownp B own).map (·.2) = own := by
  unfold ownp
  rw [List.map_map]
  induction own with
  | nil => rfl
  | cons x l ih => rw [List.map_cons, ih]; rfl
end
end Dm
set_option Elab.async false
set_option linter.all false
set_option maxRecDepth 100000
set_option maxHeartbeats 1000000
namespace Dm
open PySem PySem.Spec PyProof.Rows L2
section
variable {B : Bx} {cal : Nat → List D → Res (D × List D)} {k : Nat}
def SE (B : Bx) (cal : Nat → List D → Res (D × List D)) (k : Nat) (ex : Ex) : Prop := ∀ m sc fc X e, Cok B cal k sc fc X → chkE B ex m sc fc e = true → So cal X ex m e
def SL (B : Bx) (cal : Nat → List D → Res (D × List D)) (k : Nat) (ex : Ex) : Prop := ∀ sc fc X l, Cok B cal k sc fc X → chkL B ex sc fc l = true → PA X l (tRA X fun env => one (ev cal ex env))
def SA (B : Bx) (cal : Nat → List D → Res (D × List D)) (k : Nat) (ex : Ex) : Prop := ∀ sc fc X l, Cok B cal k sc fc X → chkA B ex sc fc l = true → PA X l (tRC X ex fun env => one (ev cal ex env))
def SD (B : Bx) (cal : Nat → List D → Res (D × List D)) (k : Nat) (ex : Ex) : Prop := ∀ sc fc X l, Cok B cal k sc fc X → chkD B ex sc fc l = true → PA X l (tRA X fun env => one (ev cal ex env))
def SK (B : Bx) (cal : Nat → List D → Res (D × List D)) (k : Nat) (ex : Ex) : Prop := ∀ ks sc fc X l, Cok B cal k sc fc X → chkK B ex ks sc fc l = true → PK X l (tRA X fun env => one (ev cal ex env))
def SR (B : Bx) (cal : Nat → List D → Res (D × List D)) (k : Nat) (ex : Ex) : Prop := ∀ ks sc fc X l l' pos, Cok B cal k sc fc X → chkP B ex ks sc fc l l' = true → PD X pos l l' ks (fun env => one (ev cal ex env))
def SP (B : Bx) (cal : Nat → List D → Res (D × List D)) (k : Nat) (ex : Ex) : Prop := SE B cal k ex ∧ SL B cal k ex ∧ SA B cal k ex ∧ SD B cal k ex ∧ SK B cal k ex ∧ SR B cal k ex
theorem SP.of {ex : Ex} (hL : ∀ sc fc l, chkL B ex sc fc l = false) (hA : ∀ sc fc l, chkA B ex sc fc l = false) (hD : ∀ sc fc l, chkD B ex sc fc l = false) (hK : ∀ ks sc fc l, chkK B ex ks sc fc l = false) (hP : ∀ ks sc fc l l', chkP B ex ks sc fc l l' = false) (h : SE B cal k ex) : SP B cal k ex :=
  ⟨h, fun sc fc X l _ z => (by rw [hL] at z; cases z), fun sc fc X l _ z => (by rw [hA] at z; cases z), fun sc fc X l _ z => (by rw [hD] at z; cases z), fun ks sc fc X l _ z => (by rw [hK] at z; cases z), fun ks sc fc X l l' pos _ z => (by rw [hP] at z; cases z)⟩
theorem and2 {a b : Bool} (h : (a && b) = true) : a = true ∧ b = true := Bool.and_eq_true_iff.mp h
theorem each_len (es : List Expr) (env : PySem.Env) : (assignEach es env).length = es.length := by
  induction es with
  | nil => rfl
  | cons e es ih => cases e <;> (show (assignEach es env).length + 1 = es.length + 1; rw [ih])
theorem asg_cons {e : Expr} (h : noStar e = true) (es : List Expr) (env : PySem.Env) : assignEach (e :: es) env = (false, assign e env) :: assignEach es env := by
  cases e <;> first | rfl | cases h
def GE (B : Bx) (cal : Nat → List D → Res (D × List D)) (k : Nat) (t : Ex) : Prop := (∀ sc fc X e, Cok B cal k sc fc X → chkG B t sc fc e = true → PG X e (tG X t)) ∧
  (∀ sc fc X es, Cok B cal k sc fc X → chkGs B t sc fc es = true → PGs X es (tGs X t) ∧ (assignEach es X.env).findIdx? (·.1) = none ∧ ∀ ds env env', bindT t (.tup ds) env = some env' → ds.length = es.length)
theorem GE.of {t : Ex} (h1 : ∀ sc fc e, chkG B t sc fc e = false) (h2 : ∀ sc fc es, chkGs B t sc fc es = false) : GE B cal k t :=
  ⟨fun sc fc X e _ z => (by rw [h1] at z; cases z), fun sc fc X e _ z => (by rw [h2] at z; cases z)⟩
theorem ge_all : ∀ t : Ex, GE B cal k t := by
  intro t
  induction t with
  | var i =>
    refine ⟨fun sc fc X e c h => ?_, fun sc fc X es c h => by simp [chkGs] at h⟩
    unfold chkG at h
    cases e with
    | Name x p =>
      obtain ⟨h1, h2⟩ := and2 h
      have h1 : B.N[i]? = some x := by simpa using h1
      have hl : L2.Loc X.env.scope x ∧ (X.fn x = true ∨ X.env.scope.names.lookup x = some .local) := by
        rw [c.sc]
        unfold loc at h2
        unfold L2.Loc
        split at h2
        · rename_i e; exact ⟨.inl e, .inr e⟩
        · rename_i e; exact ⟨.inr e, .inl (c.fn x h2)⟩
        · cases h2
      exact g_name (c.N ▸ c.nd) (c.N ▸ h1) hl.1 hl.2
    | _ => cases h
  | tup ts ih =>
    refine ⟨fun sc fc X e c h => ?_, fun sc fc X es c h => by simp [chkGs] at h⟩
    unfold chkG at h
    cases e with
    | Tuple es k' p =>
      obtain ⟨h1, h2, h3⟩ := ih.2 sc fc X es c h
      exact g_tup c.calm h1 (each_len es X.env) h2 h3
    | _ => cases h
  | nil =>
    refine ⟨fun sc fc X e c h => by simp [chkG] at h, fun sc fc X es c h => ?_⟩
    cases es with
    | nil => exact ⟨g_nil, rfl, fun ds env env' h => by
        cases ds with
        | nil => rfl
        | cons _ _ => cases h⟩
    | cons _ _ => simp [chkGs] at h
  | cons t ts ih1 ih2 =>
    refine ⟨fun sc fc X e c h => by simp [chkG] at h, fun sc fc X es c h => ?_⟩
    cases es with
    | nil => simp [chkGs] at h
    | cons e es =>
      unfold chkGs at h
      obtain ⟨h, h3⟩ := and2 h
      obtain ⟨h1, h2⟩ := and2 h
      obtain ⟨q1, q2, q3⟩ := ih2.2 sc fc X es c h3
      refine ⟨g_cons (ih1.1 sc fc X e c h2) q1 (by rw [asg_cons h1]; rfl), ?_, fun ds env env' h => ?_⟩
      · rw [asg_cons h1, List.findIdx?_cons]
        simp [q2]
      · cases ds with
        | nil => cases h
        | cons d ds =>
          have h : (match bindT t d env with
            | some env' => bindT ts (.tup ds) env'
            | none => none) = some env' := h
          split at h
          · rw [List.length_cons, List.length_cons, q3 _ _ _ h]
          · cases h
  | _ => exact GE.of (fun _ _ _ => by simp [chkG]) (fun _ _ _ => by simp [chkGs])
theorem comp_parts {sc : Scope} {fc : Option Scope} {X : Cx} {elt tgt iter cond : Ex} {own : List Nat} {x tg it : Expr} {ifs : List Expr} {scope : Scope} (c : Cok B cal k sc fc X) (h1 : SE B cal k elt) (h2 : SE B cal k iter) (h3 : SE B cal k cond)
    (hi : chkE B iter .itr sc fc it = true) (hg : chkG B tgt (relS scope sc) (some scope) tg = true) (he : chkE B elt .val (relS scope sc) (some scope) x = true) (hc : (match ifs with
      | [] => isYes cond
      | [c] => chkE B cond .tst (relS scope sc) (some scope) c
      | _ => false) = true) :
    (PI X tg it (tRI X iter (ev cal iter)) ∧ (∀ x, foldedSetIterable it X.env x = pure x)) ∧
    (∀ (s : Shared) (H : Hp) (C : Addr) (cl : List (Str × Addr)) (fp : List Addr), PG (X.blk s H scope (compEnvC scope cl C X.env) fp) tg (tG X tgt)) ∧
    (∀ (s : Shared) (H : Hp) (C : Addr) (cl : List (Str × Addr)) (fp : List Addr), PTs (X.blk s H scope (compEnvC scope cl C X.env) fp) ifs (tRT X fun env => truR (ev cal cond env))) ∧
    (∀ (s : Shared) (H : Hp) (C : Addr) (cl : List (Str × Addr)) (fp : List Addr), PE (X.blk s H scope (compEnvC scope cl C X.env) fp) x (tR X false (ev cal elt))) := by
  have q := h2 .itr sc fc X it c hi
  refine ⟨⟨q.1 tg, q.2⟩, fun s H C cl fp => (ge_all tgt).1 _ _ _ _ (c.blk s H C cl fp) hg, fun s H C cl fp => ?_, fun s H C cl fp => peWeak (h1 .val _ _ _ x (c.blk s H C cl fp) he)⟩
  cases ifs with
  | nil =>
    have hc : isYes cond = true := hc
    have : cond = .cB true := by cases cond <;> simp_all [isYes]
    subst this
    exact ⟨fun pins s' σ H' Q I ⟨F, env, g, rel, o⟩ => pts_nil.run pins s' σ H' Q I (o H' (Pst.refl rel))⟩
  | cons c0 l =>
    cases l with
    | nil => exact pts_one (h3 .tst _ _ _ c0 (c.blk s H C cl fp) hc)
    | cons _ _ => cases hc
theorem var_of {ex : Ex} {X : Cx} {sc : Scope} {fc : Option Scope} {m : Md} {e : Expr} (c : Cok B cal k sc fc X) (h : chkE B ex m sc fc e = true) : ∀ i, ex = .var i → PE X e (tVar i) := fun i hi => by
  subst hi
  unfold chkE at h
  obtain ⟨_, h⟩ := and2 h
  cases e with
  | Name x p =>
    obtain ⟨h1, h2, h3, h4⟩ := c.vis h
    exact pe_var h1 h2 h3 h4
  | _ => cases h
theorem comp_R {X : Cx} {R : TE → Prop} {elt tgt iter cond : Ex} {own : List Nat} (rn : Rn R) (hs : (tgSlots tgt).all (fun i => decide (i ∈ own)) = true)
    (base : R (tLc (tRI X iter (ev cal iter)) (tG X tgt) (tRT X fun env => truR (ev cal cond env)) (tR X false (ev cal elt)) ((ownp B own).map (·.2)))) : R (tR X true (ev cal (.comp elt tgt iter cond own))) := by
  have := s_compR (ownp := ownp B own) (it := iter) (tgt := tgt) (fi := ev cal iter) (fc := ev cal cond) (fe := ev cal elt) rn base (fun i hi env => by subst hi; rfl) (fun i hi => by
    rw [ownp_snd]
    simpa using (List.all_eq_true.mp hs) i hi)
  rw [ownp_snd] at this
  exact this
end
end Dm
set_option Elab.async false
set_option linter.all false
set_option maxRecDepth 100000
set_option maxHeartbeats 1000000
namespace Dm
open PySem PySem.Spec PyProof.Rows L2
section
variable {B : Bx} {cal : Nat → List D → Res (D × List D)} {k : Nat}
theorem tst_same {X : Cx} {e : Expr} {f g : En → Res (Bool × En)} (h : PT X e (tRT X f)) (q : ∀ env, g env = f env) : PT X e (tRT X g) := by
  have : g = f := funext q
  rw [this]; exact h
theorem pa_same {X : Cx} {l : List Expr} {f g : En → Res (List D × En)} (h : PA X l (tRA X f)) (q : ∀ env, g env = f env) : PA X l (tRA X g) := by
  have : g = f := funext q
  rw [this]; exact h
theorem pc_same {X : Cx} {l : List Expr} {a : Ex} {f g : En → Res (List D × En)} (h : PA X l (tRC X a f)) (q : ∀ env, g env = f env) : PA X l (tRC X a g) := by
  have : g = f := funext q
  rw [this]; exact h
theorem tr_and (a b : Ex) (env : En) : truR (ev cal (.and a b) env) = (truR (ev cal a env)).bind fun p => if p.1 then truR (ev cal b p.2) else .ok (false, p.2) := by
  show truR ((ev cal a env).bind fun p => match tru p.1 with
    | some true => ev cal b p.2
    | some false => .ok p
    | none => .bad) = _
  cases e1 : ev cal a env with
  | exc c d => rfl
  | bad => rfl
  | ok p =>
    show truR (match tru p.1 with
    | some true => ev cal b p.2
    | some false => .ok p
    | none => .bad) = (match tru p.1 with | some b => Res.ok (b, p.2) | none => .bad).bind fun p => if p.1 then truR (ev cal b p.2) else .ok (false, p.2)
    cases t : tru p.1 with
    | none => rfl
    | some v =>
      cases v with
      | true => rfl
      | false =>
        show (match tru p.1 with | some b => Res.ok (b, p.2) | none => .bad) = .ok (false, p.2)
        rw [t]
theorem tr_or (a b : Ex) (env : En) : truR (ev cal (.or a b) env) = (truR (ev cal a env)).bind fun p => if p.1 then .ok (true, p.2) else truR (ev cal b p.2) := by
  show truR ((ev cal a env).bind fun p => match tru p.1 with
    | some true => .ok p
    | some false => ev cal b p.2
    | none => .bad) = _
  cases e1 : ev cal a env with
  | exc c d => rfl
  | bad => rfl
  | ok p =>
    show truR (match tru p.1 with
    | some true => .ok p
    | some false => ev cal b p.2
    | none => .bad) = (match tru p.1 with | some b => Res.ok (b, p.2) | none => .bad).bind fun p => if p.1 then .ok (true, p.2) else truR (ev cal b p.2)
    cases t : tru p.1 with
    | none => rfl
    | some v =>
      cases v with
      | false => rfl
      | true =>
        show (match tru p.1 with | some b => Res.ok (b, p.2) | none => .bad) = .ok (true, p.2)
        rw [t]
theorem tr_not (a : Ex) (env : En) : truR (ev cal (.not a) env) = (truR (ev cal a env)).bind fun p => .ok (!p.1, p.2) := by
  show truR ((truR (ev cal a env)).bind fun p => .ok (.bl (!p.1), p.2)) = _
  cases truR (ev cal a env) <;> rfl
theorem tr_optB (o : Option Bool) (env : En) : truR (optB o env) = match o with | some k => .ok (k, env) | none => .bad := by
  cases o <;> rfl
theorem tr_bind {α : Type} (r : Res α) (f : α → Res (D × En)) : truR (r.bind f) = r.bind fun p => truR (f p) := by cases r <;> rfl
theorem so_var (i : Nat) : SE B cal k (.var i) := fun m sc fc X e c h => by
  have hv := var_of c h
  unfold chkE at h
  have hm := (and2 h).1
  replace h := (and2 h).2
  cases e with
  | Name x p =>
    obtain ⟨h1, h2, h3, h4⟩ := c.vis h
    exact So.of hm (s_var h1 h2 h3 h4) hv
  | _ => cases h
theorem so_con (x : Str) (cv : Cv) : SE B cal k (.con x cv) := fun m sc fc X e c h => by
  unfold chkE at h
  have hm := (and2 h).1
  replace h := (and2 h).2
  cases e with
  | Name y p =>
    have h3 := (and2 h).2
    replace h := (and2 h).1
    obtain ⟨h1, h2⟩ := and2 h
    have h1 : y = x := by simpa using h1
    subst h1
    obtain ⟨u, hu, hr⟩ := c.con y cv (by simpa using h3)
    obtain ⟨g1, g2⟩ := c.gl h2
    refine So.of' hm (s_con (v := cv.v) (d := cv.d) (pe_glob g1 hu hr g2) fun F env σ H g => ?_) (fun i z => nomatch z)
    cases cv with
    | int i => exact .int i
    | str i => exact .str i
  | _ => cases h
theorem so_cI (i : Int) : SE B cal k (.cI i) := fun m sc fc X e c h => by
  unfold chkE at h
  have hm := (and2 h).1
  replace h := (and2 h).2
  cases e with
  | Constant v a p =>
    cases v with
    | int j =>
      have h : i = j := by simpa using h
      subst h
      exact So.of' hm (s_con pe_int fun F env σ H g => .int i) (fun i z => nomatch z)
    | _ => cases h
  | _ => cases h
theorem so_cS (i : Str) : SE B cal k (.cS i) := fun m sc fc X e c h => by
  unfold chkE at h
  have hm := (and2 h).1
  replace h := (and2 h).2
  cases e with
  | Constant v a p =>
    cases v with
    | str j =>
      have h : i = j := by simpa using h
      subst h
      exact So.of' hm (s_con pe_str fun F env σ H g => .str i) (fun i z => nomatch z)
    | _ => cases h
  | _ => cases h
theorem so_cB (i : Bool) : SE B cal k (.cB i) := fun m sc fc X e c h => by
  unfold chkE at h
  have hm := (and2 h).1
  replace h := (and2 h).2
  cases e with
  | Constant v a p =>
    cases v with
    | bool j =>
      have h : i = j := by simpa using h
      subst h
      exact So.of' hm (s_con pe_bl fun F env σ H g => .bl i) (fun i z => nomatch z)
    | _ => cases h
  | _ => cases h
theorem so_cN : SE B cal k .cN := fun m sc fc X e c h => by
  unfold chkE at h
  have hm := (and2 h).1
  replace h := (and2 h).2
  cases e with
  | Constant v a p =>
    cases v with
    | none => exact So.of' hm (s_con pe_non fun F env σ H g => .non) (fun i z => nomatch z)
    | _ => cases h
  | _ => cases h
theorem so_lst {es : Ex} (ih : SL B cal k es) : SE B cal k (.lst es) := fun m sc fc X e c h => by
  unfold chkE at h
  have hm := (and2 h).1
  replace h := (and2 h).2
  cases e with
  | List l p =>
    obtain ⟨h1, h2⟩ := and2 h
    have h1 : lenE es ≤ 1000 := by simpa using h1
    exact So.of' hm (s_lst (ih sc fc X l c h2) fun env p hp => by rw [one_len h2 hp]; rw [sizeLine_eq]; omega) (fun i z => nomatch z)
  | _ => cases h
theorem so_tup {es : Ex} (ih : SL B cal k es) : SE B cal k (.tup es) := fun m sc fc X e c h => by
  unfold chkE at h
  have hm := (and2 h).1
  replace h := (and2 h).2
  cases e with
  | Tuple l j p =>
    obtain ⟨h1, h2⟩ := and2 h
    have h1 : lenE es ≤ 1000 := by simpa using h1
    exact So.of' hm (peWeak (s_tup (ih sc fc X l c h2) fun env p hp => by rw [one_len h2 hp]; rw [sizeLine_eq]; omega)) (fun i z => nomatch z)
  | _ => cases h
theorem so_dic0 : SE B cal k .dic0 := fun m sc fc X e c h => by
  unfold chkE at h
  have hm := (and2 h).1
  replace h := (and2 h).2
  split at h
  · exact So.of' hm s_dic0 (fun i z => nomatch z)
  · cases h
theorem so_bin {op : Operator} {a b : Ex} (ha : SE B cal k a) (hb : SE B cal k b) : SE B cal k (.bin op a b) := fun m sc fc X e c h => by
  unfold chkE at h
  have hm := (and2 h).1
  replace h := (and2 h).2
  cases e with
  | BinOp x op' y p =>
    have h3 := (and2 h).2
    replace h := (and2 h).1
    obtain ⟨h1, h2⟩ := and2 h
    have h1 : op = op' := by simpa using h1
    subst h1
    exact So.of' hm (s_bin (ha .val sc fc X x c h2) (hb .val sc fc X y c h3)) (fun i z => nomatch z)
  | _ => cases h
theorem so_neg {a : Ex} (ha : SE B cal k a) : SE B cal k (.neg a) := fun m sc fc X e c h => by
  unfold chkE at h
  have hm := (and2 h).1
  replace h := (and2 h).2
  cases e with
  | UnaryOp op x p =>
    cases op with
    | USub => exact So.of' hm (peWeak (s_neg (ha .val sc fc X x c h))) (fun i z => nomatch z)
    | _ => cases h
  | _ => cases h
theorem so_not {a : Ex} (ha : SE B cal k a) : SE B cal k (.not a) := fun m sc fc X e c h => by
  unfold chkE at h
  cases e with
  | UnaryOp op x p =>
    cases op with
    | Not =>
      cases m with
      | val => exact peWeak (s_not (ha .val sc fc X x c h))
      | tst =>
      exact tst_same (t_not (ha .tst sc fc X x c h)) (tr_not a)
      | itr => cases h
    | _ => cases h
  | _ => cases h
theorem so_and {a b : Ex} (ha : SE B cal k a) (hb : SE B cal k b) : SE B cal k (.and a b) := fun m sc fc X e c h => by
  unfold chkE at h
  split at h
  · rename_i x y rest pos
    cases m with
    | val =>
      obtain ⟨h1, h2⟩ := and2 h
      cases rest with
      | nil => exact s_and (ha .val sc fc X x c h1) (s_one (hb .val sc fc X y c h2))
      | cons z zs => exact s_and (ha .val sc fc X x c h1) (hb .val sc fc X _ c h2)
    | tst =>
      obtain ⟨h1, h2⟩ := and2 h
      cases rest with
      | nil => exact tst_same (t_and (ha .tst sc fc X x c h1) (t_one (hb .tst sc fc X y c h2))) (tr_and a b)
      | cons z zs => exact tst_same (t_and (ha .tst sc fc X x c h1) (hb .tst sc fc X _ c h2)) (tr_and a b)
    | itr => cases h
  · cases h
theorem so_or {a b : Ex} (ha : SE B cal k a) (hb : SE B cal k b) : SE B cal k (.or a b) := fun m sc fc X e c h => by
  unfold chkE at h
  split at h
  · rename_i x y rest pos
    cases m with
    | val =>
      obtain ⟨h1, h2⟩ := and2 h
      cases rest with
      | nil => exact s_or (ha .val sc fc X x c h1) (s_one (hb .val sc fc X y c h2))
      | cons z zs => exact s_or (ha .val sc fc X x c h1) (hb .val sc fc X _ c h2)
    | tst =>
      obtain ⟨h1, h2⟩ := and2 h
      cases rest with
      | nil => exact tst_same (t_or (ha .tst sc fc X x c h1) (t_one (hb .tst sc fc X y c h2))) (tr_or a b)
      | cons z zs => exact tst_same (t_or (ha .tst sc fc X x c h1) (hb .tst sc fc X _ c h2)) (tr_or a b)
    | itr => cases h
  · cases h
theorem so_cmp {op : CmpOp} {a b : Ex} (ha : SE B cal k a) (hb : SE B cal k b) : SE B cal k (.cmp op a b) := fun m sc fc X e c h => by
  unfold chkE at h
  split at h
  · rename_i x op' y pos
    have h5 := (and2 h).2
    replace h := (and2 h).1
    have h4 := (and2 h).2
    replace h := (and2 h).1
    have h3 := (and2 h).2
    replace h := (and2 h).1
    obtain ⟨h1, h2⟩ := and2 h
    have h2 : op = op' := by simpa using h2
    subst h2
    cases m with
    | val => exact peWeak (s_cmp c.hu (ha .val sc fc X x c h4) (hb .val sc fc X y c h5) (mark_of h3))
    | tst =>
      exact tst_same (t_cmp c.hu (ha .val sc fc X x c h4) (hb .val sc fc X y c h5) (mark_of h3)) fun env => by
        show truR ((ev cal a env).bind fun p => (ev cal b p.2).bind fun q => optB (cmpD op p.1 q.1) q.2) = _
        rw [tr_bind]
        congr 1; funext p
        rw [tr_bind]
        congr 1; funext q
        exact tr_optB _ _
    | itr => cases h1
  · cases h
theorem so_chn {op op2 : CmpOp} {a b c' : Ex} (ha : SE B cal k a) (hb : SE B cal k b) (hc : SE B cal k c') : SE B cal k (.chn op op2 a b c') := fun m sc fc X e c h => by
  unfold chkE at h
  split at h
  · rename_i x o1 o2 y z pos
    have h8 := (and2 h).2
    replace h := (and2 h).1
    have h7 := (and2 h).2
    replace h := (and2 h).1
    have h6 := (and2 h).2
    replace h := (and2 h).1
    have h5 := (and2 h).2
    replace h := (and2 h).1
    have h4 := (and2 h).2
    replace h := (and2 h).1
    have h3 := (and2 h).2
    replace h := (and2 h).1
    obtain ⟨h1, h2⟩ := and2 h
    have h2 : op = o1 := by simpa using h2
    have h3 : op2 = o2 := by simpa using h3
    subst h2 h3
    have hm : lastMarks [op, op2] [y, z] = false := mark_of h5
    cases m with
    | val => exact peWeak (s_chn c.hu (ha .val sc fc X x c h6) (hb .val sc fc X y c h7) (hc .val sc fc X z c h8) hm)
    | tst =>
      exact tst_same (t_chn c.hu (ha .val sc fc X x c h6) (hb .val sc fc X y c h7) (hc .val sc fc X z c h8) hm) fun env => by
        show truR ((ev cal a env).bind fun p => (ev cal b p.2).bind fun q => match cmpD op p.1 q.1 with
          | some true => (ev cal c' q.2).bind fun r => optB (cmpD op2 q.1 r.1) r.2
          | some false => .ok (.bl false, q.2)
          | none => .bad) = _
        rw [tr_bind]
        congr 1; funext p
        rw [tr_bind]
        congr 1; funext q
        cases cmpD op p.1 q.1 with
        | none => rfl
        | some v =>
          cases v with
          | false => rfl
          | true =>
            show truR ((ev cal c' q.2).bind fun r => optB (cmpD op2 q.1 r.1) r.2) = _
            rw [tr_bind]
            dsimp only
            congr 1; funext r
            exact tr_optB _ _
    | itr => cases h1
  · cases h
theorem so_ife {c' a b : Ex} (hc : SE B cal k c') (ha : SE B cal k a) (hb : SE B cal k b) : SE B cal k (.ife c' a b) := fun m sc fc X e c h => by
  unfold chkE at h
  have hm := (and2 h).1
  replace h := (and2 h).2
  cases e with
  | IfExp x y z p =>
    have h3 := (and2 h).2
    replace h := (and2 h).1
    obtain ⟨h1, h2⟩ := and2 h
    exact So.of' hm (s_ife (hc .tst sc fc X x c h1) (ha .val sc fc X y c h2) (hb .val sc fc X z c h3)) (fun i z => nomatch z)
  | _ => cases h
theorem ty_blt {t : String} (h : t ∈ okTys) : (t : Str) ∈ blts := by
  simp only [okTys, List.mem_cons, List.not_mem_nil, or_false] at h
  rcases h with rfl | rfl | rfl | rfl | rfl | rfl <;> decide +kernel
theorem so_isi {a : Ex} {tys : List String} (ha : SE B cal k a) : SE B cal k (.isi a tys) := fun m sc fc X e c h => by
  unfold chkE at h
  have hm := (and2 h).1
  replace h := (and2 h).2
  split at h
  · rename_i f p x t pt pos
    have h5 := (and2 h).2
    replace h := (and2 h).1
    have h4 := (and2 h).2
    replace h := (and2 h).1
    have h3 := (and2 h).2
    replace h := (and2 h).1
    obtain ⟨h1, h2⟩ := and2 h
    have h1 : f = "isinstance" := by simpa using h1
    subst h1
    split at h5
    · rename_i t'
      have h7 := (and2 h5).2
      replace h5 := (and2 h5).1
      have h6 := (and2 h5).2
      replace h5 := (and2 h5).1
      have h5 : t = (t' : Str) := by simpa using h5
      have h6 : t' ∈ okTys := by simpa using h6
      subst h5
      refine So.of' hm (peSame (s_isi1 (ha .val sc fc X x c h4) h6 (c.gl h2).1 (c.nb _ (by decide +kernel)) (c.gl h7).1 (c.nb _ (ty_blt h6)) (star_of h3 _ _)) fun env => ?_) (fun i z => nomatch z)
      show ((ev cal a env).bind fun p => if p.1.isIns then Res.bad else Res.ok (D.bl ([t'].any (isTy p.1)), p.2)) = _
      congr 1; funext p
      simp only [List.any_cons, List.any_nil, Bool.or_false]
    · cases h5
  · rename_i f p x t pt u pu j pp pos
    have h5 := (and2 h).2
    replace h := (and2 h).1
    have h4 := (and2 h).2
    replace h := (and2 h).1
    have h3 := (and2 h).2
    replace h := (and2 h).1
    obtain ⟨h1, h2⟩ := and2 h
    have h1 : f = "isinstance" := by simpa using h1
    subst h1
    split at h5
    · rename_i t' u'
      have q6 := (and2 h5).2
      replace h5 := (and2 h5).1
      have q5 := (and2 h5).2
      replace h5 := (and2 h5).1
      have q4 := (and2 h5).2
      replace h5 := (and2 h5).1
      have q3 := (and2 h5).2
      replace h5 := (and2 h5).1
      obtain ⟨q1, q2⟩ := and2 h5
      have q1 : t = (t' : Str) := by simpa using q1
      have q2 : t' ∈ okTys := by simpa using q2
      have q4 : u = (u' : Str) := by simpa using q4
      have q5 : u' ∈ okTys := by simpa using q5
      subst q1 q4
      exact So.of' hm (s_isi2 (ha .val sc fc X x c h4) q2 q5 (c.gl h2).1 (c.nb _ (by decide +kernel)) (c.gl q3).1 (c.nb _ (ty_blt q2)) (c.gl q6).1 (c.nb _ (ty_blt q5)) (star_of h3 _ _)) (fun i z => nomatch z)
    · cases h5
  · cases h
theorem so_blt {bt : Blt} {args : Ex} (ih : SL B cal k args) : SE B cal k (.blt bt args) := fun m sc fc X e c h => by
  unfold chkE at h
  have hm := (and2 h).1
  replace h := (and2 h).2
  split at h
  · rename_i x p y l pos
    have h3 := (and2 h).2
    replace h := (and2 h).1
    obtain ⟨h1, h2⟩ := and2 h
    have h1 : x = (bltF bt).1 := by simpa using h1
    subst h1
    have ns := nostar_L h3
    have ns2 : NoStar l := by
      rcases L_cases h3 with ⟨_, z⟩ | ⟨_, _, _, _, _, z, _, _, q⟩
      · cases z
      · cases z; exact nostar_L q
    exact So.of' hm (s_blt c.calm (fun _ => ⟨c.gd, c.hu⟩) (ih sc fc X _ c h3) (c.gl h2).1 (c.nb _ (by cases bt <;> decide +kernel)) ns ns2) (fun i z => nomatch z)
  · cases h
theorem so_lenP {i : Nat} : SE B cal k (.lenP i) := fun m sc fc X e c h => by
  unfold chkE at h
  have hm := (and2 h).1
  replace h := (and2 h).2
  split at h
  · have h3 := (and2 h).2
    replace h := (and2 h).1
    obtain ⟨h1, h2⟩ := and2 h
    rename_i f _ x _ _
    have h1 : f = "len" := by simpa using h1
    subst h1
    obtain ⟨g1, g2, g3, g4⟩ := c.vis h3
    exact So.of' hm (s_lenP g1 g2 g3 g4 (c.gl h2).1 (c.nb _ (by decide +kernel))) (fun i z => nomatch z)
  · cases h
theorem so_sub {a b : Ex} (ha : SE B cal k a) (hb : SE B cal k b) : SE B cal k (.sub a b) := fun m sc fc X e c h => by
  unfold chkE at h
  have hm := (and2 h).1
  replace h := (and2 h).2
  cases e with
  | Subscript x y p =>
    have h3 := (and2 h).2
    replace h := (and2 h).1
    obtain ⟨h1, h2⟩ := and2 h
    exact So.of' hm (s_sub c.hu (ha .val sc fc X x c h2) (hb .val sc fc X y c h3) (ix_of h1)) (fun i z => nomatch z)
  | _ => cases h
theorem so_subP {i : Nat} {b : Ex} (hb : SE B cal k b) : SE B cal k (.subP i b) := fun m sc fc X e c h => by
  unfold chkE at h
  have hm := (and2 h).1
  replace h := (and2 h).2
  split at h
  · have h3 := (and2 h).2
    replace h := (and2 h).1
    obtain ⟨h1, h2⟩ := and2 h
    obtain ⟨g1, g2, g3, g4⟩ := c.vis h1
    exact So.of' hm (s_subP c.hu g1 g2 g3 g4 (hb .val sc fc X _ c h3) (ix_of h2)) (fun i z => nomatch z)
  · cases h
theorem part_of {lo : Ex} (h : isNil lo = false) : ∀ d, partD lo d = match d with | .int i => some (some i) | _ => none := by
  intro d
  cases lo <;> first | rfl | cases h
theorem so_part {sc : Scope} {fc : Option Scope} {X : Cx} {lo : Ex} {l : Option Expr} (hl : SE B cal k lo) (c : Cok B cal k sc fc X) (h : (match l with
      | none => isNil lo
      | some l => chkE B lo .val sc fc l) = true) : PO X l (tRP X lo (ev cal lo)) := by
  cases l with
  | none =>
    have h : isNil lo = true := h
    have : lo = .nil := by cases lo <;> simp_all [isNil]
    subst this
    exact p_none
  | some e =>
    have h : chkE B lo .val sc fc e = true := h
    refine p_some (part_of ?_) (hl .val sc fc X e c h)
    cases lo <;> first | rfl | (simp [chkE] at h)
theorem so_slc {a lo hi : Ex} (ha : SE B cal k a) (hl : SE B cal k lo) (hh : SE B cal k hi) : SE B cal k (.slc a lo hi) := fun m sc fc X e c h => by
  unfold chkE at h
  have hm := (and2 h).1
  replace h := (and2 h).2
  split at h
  · have h3 := (and2 h).2
    replace h := (and2 h).1
    obtain ⟨h1, h2⟩ := and2 h
    exact So.of' hm (s_slc (ha .val sc fc X _ c h1) (so_part hl c h2) (so_part hh c h3)) (fun i z => nomatch z)
  · cases h
theorem so_rev {a : Ex} (ha : SE B cal k a) : SE B cal k (.rev a) := fun m sc fc X e c h => by
  unfold chkE at h
  have hm := (and2 h).1
  replace h := (and2 h).2
  split at h
  · rename_i x j _ _ _ _ _
    obtain ⟨h1, h2⟩ := and2 h
    have h1 : j = 1 := by simpa using h1
    subst h1
    exact So.of' hm (s_rev (ha .val sc fc X _ c h2)) (fun i z => nomatch z)
  · cases h
theorem so_rng {a : Ex} (ha : SE B cal k a) : SE B cal k (.rng a) := fun m sc fc X e c h => by
  unfold chkE at h
  split at h
  · rename_i f _ x _
    have h5 := (and2 h).2
    replace h := (and2 h).1
    have h4 := (and2 h).2
    replace h := (and2 h).1
    have h3 := (and2 h).2
    replace h := (and2 h).1
    obtain ⟨h1, h2⟩ := and2 h
    have h1 : m = .itr := by simpa using h1
    have h2 : f = "range" := by simpa using h2
    subst h1 h2
    exact ⟨fun tg => s_rng (ha .val sc fc X _ c h5) (NoStar.of h4 .nil) (c.gl h3).1 (c.nb _ (by decide +kernel)), fun x => rfl⟩
  · cases h
theorem so_comp {elt tgt iter cond : Ex} {own : List Nat} (h1 : SE B cal k elt) (h2 : SE B cal k iter) (h3 : SE B cal k cond) : SE B cal k (.comp elt tgt iter cond own) := fun m sc fc X e c h => by
  unfold chkE at h
  have hm := (and2 h).1
  replace h := (and2 h).2
  split at h
  · rename_i x tg it ifs j scope pos
    have q7 := (and2 h).2
    replace h := (and2 h).1
    have q6 := (and2 h).2
    replace h := (and2 h).1
    have q5 := (and2 h).2
    replace h := (and2 h).1
    have q4 := (and2 h).2
    replace h := (and2 h).1
    have q3 := (and2 h).2
    replace h := (and2 h).1
    obtain ⟨q1, q2⟩ := and2 h
    have q1 : j = 0 := by simpa using q1
    subst q1
    obtain ⟨⟨p1, p2⟩, p3, p4, p5⟩ := comp_parts (own := own) c h1 h2 h3 q2 q4 q5 q7
    have ok : BlkOk X.N X.env.scope scope (ownp B own) := by rw [c.N, c.sc]; exact blkOk_by q3
    exact So.of' hm (comp_R rn_pe q6 (pe_lc c.calm (c.N ▸ c.nd) p1 ok p3 p4 p5 p2)) (fun i z => nomatch z)
  · cases h
theorem so_dcmp {key val tgt iter : Ex} {own : List Nat} (h1 : SE B cal k key) (h1' : SE B cal k val) (h2 : SE B cal k iter) : SE B cal k (.dcmp key val tgt iter own) := fun m sc fc X e c h => by
  unfold chkE at h
  have hm := (and2 h).1
  replace h := (and2 h).2
  split at h
  · rename_i x y tg it j scope pos
    have q7 := (and2 h).2
    replace h := (and2 h).1
    have q6 := (and2 h).2
    replace h := (and2 h).1
    have q5 := (and2 h).2
    replace h := (and2 h).1
    have q4 := (and2 h).2
    replace h := (and2 h).1
    have q3 := (and2 h).2
    replace h := (and2 h).1
    obtain ⟨q1, q2⟩ := and2 h
    have q1 : j = 0 := by simpa using q1
    subst q1
    have q := h2 .itr sc fc X it c q2
    have ok : BlkOk X.N X.env.scope scope (ownp B own) := by rw [c.N, c.sc]; exact blkOk_by q3
    have := s_dcmp (pos := pos) (tgt := tgt) (ownp := ownp B own) c.calm (c.N ▸ c.nd) (q.1 tg) (fun i hi env => by subst hi; rfl) ok (fun s H C cl fp => (ge_all tgt).1 _ _ _ _ (c.blk s H C cl fp) q4)
      (fun s H C cl fp => peWeak (h1 .val _ _ _ x (c.blk s H C cl fp) q5)) (fun s H C cl fp => peWeak (h1' .val _ _ _ y (c.blk s H C cl fp) q6)) q.2 (fun i hi => by rw [ownp_snd]; simpa using (List.all_eq_true.mp q7) i hi)
    rw [ownp_snd] at this
    exact So.of' hm this (fun i z => nomatch z)
  · cases h
theorem base_of {o : Expr} {at_ : Str} {env : PySem.Env} (h : isCall o = false) : attributeBase o at_ env (eval o env) = eval o env := by
  cases o <;> first | rfl | cases h
theorem so_items {a : Ex} (ha : SE B cal k a) : SE B cal k (.items a) := fun m sc fc X e c h => by
  unfold chkE at h
  have hm := (and2 h).1
  replace h := (and2 h).2
  split at h
  · rename_i f _ x at_ apos cpos _
    have h6 := (and2 h).2
    replace h := (and2 h).1
    have h5 := (and2 h).2
    replace h := (and2 h).1
    have h4 := (and2 h).2
    replace h := (and2 h).1
    have h3 := (and2 h).2
    replace h := (and2 h).1
    obtain ⟨h1, h2⟩ := and2 h
    have h1 : f = "list" := by simpa using h1
    have h3 : at_ = "items" := by simpa using h3
    have h4 : isCall x = false := by simpa using h4
    subst h1 h3
    exact So.of' hm (s_items c.calm (ha .val sc fc X _ c h6) (c.gl h2).1 (c.nb _ (by decide +kernel)) (base_of h4) h5) (fun i z => nomatch z)
  · cases h
theorem base_sup {o : Expr} {at_ : Str} {env : PySem.Env} (h : isSup o = false) : attributeBase o at_ env (eval o env) = eval o env := by
  cases o with
  | Call f args kws pos =>
    cases f with
    | Name id p =>
      cases args with
      | nil =>
        cases kws with
        | nil => cases h
        | cons _ _ => rfl
      | cons _ _ => rfl
    | _ => rfl
  | _ => rfl
theorem one_scons (e es : Ex) (env : En) : one (ev cal (.scons e es) env) = (ev cal e env).bind fun p => match seqOf p.1 with
    | some xs => (one (ev cal es p.2)).bind fun q => .ok (xs ++ q.1, q.2)
    | none => .bad := by
  show one ((ev cal e env).bind fun p => match seqOf p.1 with
    | some xs => (one (ev cal es p.2)).bind fun q => .ok (.tup (xs ++ q.1), q.2)
    | none => .bad) = _
  cases ev cal e env with
  | exc c d => rfl
  | bad => rfl
  | ok p1 =>
    show one (match seqOf p1.1 with
    | some xs => (one (ev cal es p1.2)).bind fun q => .ok (.tup (xs ++ q.1), q.2)
    | none => .bad) = (match seqOf p1.1 with
    | some xs => (one (ev cal es p1.2)).bind fun q => .ok (xs ++ q.1, q.2)
    | none => .bad)
    cases seqOf p1.1 with
    | none => rfl
    | some xs =>
      dsimp only
      cases one (ev cal es p1.2) with
      | exc c d => rfl
      | bad => rfl
      | ok p2 => rfl
theorem so_lstS {es : Ex} (ih : SD B cal k es) : SE B cal k (.lstS es) := fun m sc fc X e c h => by
  unfold chkE at h
  have hm := (and2 h).1
  replace h := (and2 h).2
  cases e with
  | List l pos =>
    refine So.of' hm ?_ (fun i z => nomatch z)
    exact peImp (pe_lst (ih sc fc X l c h)) fun σ H Q ⟨F, env, g, rel, o⟩ => ⟨F, env, g, rel, o.seqA fun p vs H1 e1 ps rvs o1 => by
      have o1 : Out true F p.2 σ H1 (if p.1.length ≤ sizeLine then .ok (.lst p.1, p.2) else .bad) Q := o1
      by_cases hl : p.1.length ≤ sizeLine
      · rw [if_pos hl] at o1
        exact ⟨by rw [rvs.length]; exact hl, fun q nq => Out.newL ps.rel o1 rvs (by rw [rvs.length]; exact hl) nq⟩
      · rw [if_neg hl] at o1; exact o1.elim⟩
  | _ => cases h
theorem so_tupS {es : Ex} (ih : SD B cal k es) : SE B cal k (.tupS es) := fun m sc fc X e c h => by
  unfold chkE at h
  have hm := (and2 h).1
  replace h := (and2 h).2
  cases e with
  | Tuple l k' pos =>
    refine So.of' hm ?_ (fun i z => nomatch z)
    exact peImp (pe_tup (ih sc fc X l c h)) fun σ H Q ⟨F, env, g, rel, o⟩ => ⟨F, env, g, rel, o.seqA fun p vs H1 e1 ps rvs o1 => by
      have o1 : Out true F p.2 σ H1 (if p.1.length ≤ sizeLine then .ok (.tup p.1, p.2) else .bad) Q := o1
      by_cases hl : p.1.length ≤ sizeLine
      · rw [if_pos hl] at o1
        exact ⟨by rw [rvs.length]; exact hl, fun q nq => Out.newT ps.rel o1 rvs (by rw [rvs.length]; exact hl) nq⟩
      · rw [if_neg hl] at o1; exact o1.elim⟩
  | _ => cases h
theorem so_fld {c : Nat} {f : Str} {a : Ex} (ha : SE B cal k a) : SE B cal k (.fld c f a) := fun m sc fc X e ck h => by
  unfold chkE at h
  have hm := (and2 h).1
  replace h := (and2 h).2
  cases e with
  | Attribute x g pos =>
    have h4 := (and2 h).2
    replace h := (and2 h).1
    have h3 := (and2 h).2
    replace h := (and2 h).1
    obtain ⟨h1, h2⟩ := and2 h
    have h1 : g = f := by simpa using h1
    have h2 : isSup x = false := by simpa using h2
    have h3 : (c, f) ∈ B.at_ := by simpa using h3
    subst h1
    exact So.of' hm (s_fld (ha .val sc fc X x ck h4) (base_sup h2) (ck.at_ _ _ h3).1 (ck.at_ _ _ h3).2) (fun i z => nomatch z)
  | _ => cases h
theorem so_fldP {c i : Nat} {f : Str} : SE B cal k (.fldP c f i) := fun m sc fc X e ck h => by
  unfold chkE at h
  have hm := (and2 h).1
  replace h := (and2 h).2
  split at h
  · rename_i x _ g _
    have h3 := (and2 h).2
    replace h := (and2 h).1
    obtain ⟨h1, h2⟩ := and2 h
    have h1 : g = f := by simpa using h1
    have h2 : (c, f) ∈ B.at_ := by simpa using h2
    subst h1
    obtain ⟨g1, g2, g3, g4⟩ := ck.vis h3
    exact So.of' hm (s_fldP g1 g2 g3 g4 (ck.at_ _ _ h2).1 (ck.at_ _ _ h2).2) (fun i z => nomatch z)
  · cases h
theorem so_get {a y z : Ex} (ha : SE B cal k a) (hb : SE B cal k y) (hc : SE B cal k z) : SE B cal k (.get a y z) := fun m sc fc X e ck h => by
  unfold chkE at h
  have hm := (and2 h).1
  replace h := (and2 h).2
  split at h
  · rename_i o g apos y z cpos
    have h8 := (and2 h).2
    replace h := (and2 h).1
    have h7 := (and2 h).2
    replace h := (and2 h).1
    have h6 := (and2 h).2
    replace h := (and2 h).1
    have h5 := (and2 h).2
    replace h := (and2 h).1
    have h4 := (and2 h).2
    replace h := (and2 h).1
    have h3 := (and2 h).2
    replace h := (and2 h).1
    obtain ⟨h1, h2⟩ := and2 h
    have h1 : g = "get" := by simpa using h1
    have h2 : isSup o = false := by simpa using h2
    subst h1
    have tr : backTo cpos (starEach [y, z] X.env) = [(false, eval y X.env), (false, eval z X.env)] := by
      rw [star_of h4, star_of h5]
      rfl
    have m2 : M2 X o "get" apos y z cpos := ⟨base_sup h2, by rw [tr]; rfl, h3, tr⟩
    exact So.of' hm (s_dget (by have := ck.hu; omega) (ha .val sc fc X o ck h6) (hb .val sc fc X y ck h7) (hc .val sc fc X z ck h8) m2) (fun i z => nomatch z)
  · cases h
theorem so_idx {a y : Ex} (ha : SE B cal k a) (hb : SE B cal k y) : SE B cal k (.idx a y) := fun m sc fc X e ck h => by
  unfold chkE at h
  have hm := (and2 h).1
  replace h := (and2 h).2
  split at h
  · rename_i o g apos y cpos
    have h6 := (and2 h).2
    replace h := (and2 h).1
    have h5 := (and2 h).2
    replace h := (and2 h).1
    have h4 := (and2 h).2
    replace h := (and2 h).1
    have h3 := (and2 h).2
    replace h := (and2 h).1
    obtain ⟨h1, h2⟩ := and2 h
    have h1 : g = "index" := by simpa using h1
    have h2 : isSup o = false := by simpa using h2
    subst h1
    exact So.of' hm (s_idx (ha .val sc fc X o ck h5) (hb .val sc fc X y ck h6) (base_sup h2) (NoStar.of h4 .nil) h3) (fun i z => nomatch z)
  · cases h
theorem so_popP {i : Nat} {a : Ex} (ha : SE B cal k a) : SE B cal k (.popP i a) := fun m sc fc X e ck h => by
  unfold chkE at h
  have hm := (and2 h).1
  replace h := (and2 h).2
  split at h
  · rename_i x _ g apos y cpos
    have h5 := (and2 h).2
    replace h := (and2 h).1
    have h4 := (and2 h).2
    replace h := (and2 h).1
    have h3 := (and2 h).2
    replace h := (and2 h).1
    obtain ⟨h1, h2⟩ := and2 h
    have h1 : g = "pop" := by simpa using h1
    subst h1
    obtain ⟨g1, g2, g3, g4⟩ := ck.vis h2
    exact So.of' hm (s_popP g1 g2 g3 g4 (ha .val sc fc X y ck h5) (NoStar.of h3 .nil) h4) (fun i z => nomatch z)
  · cases h
theorem p_len {sc : Scope} {fc : Option Scope} : ∀ {ex : Ex} {ks : List Str} {l : List (Option Expr)} {l' : List Expr}, chkP B ex ks sc fc l l' = true → l.all (·.isSome) = true ∧ l.length = l'.length ∧ ks.length = l.length := by
  intro ex
  induction ex with
  | nil =>
    intro ks l l' h
    unfold chkP at h
    split at h
    · exact ⟨rfl, rfl, rfl⟩
    · cases h
  | cons e es _ ih =>
    intro ks l l' h
    unfold chkP at h
    split at h
    · obtain ⟨a, b, c⟩ := ih (and2 h).2
      exact ⟨by rw [List.all_cons, a]; rfl, by rw [List.length_cons, List.length_cons, b], by rw [List.length_cons, List.length_cons, c]⟩
    · cases h
  | _ => intro ks l l' h; simp [chkP] at h
theorem so_dlit {ks : List Str} {vs : Ex} (ih : SR B cal k vs) : SE B cal k (.dlit ks vs) := fun m sc fc X e ck h => by
  unfold chkE at h
  have hm := (and2 h).1
  replace h := (and2 h).2
  split at h
  · rename_i y keys values pos
    obtain ⟨h1, h2⟩ := and2 h
    have h1 : keys.length ≤ 14 := by simpa using h1
    obtain ⟨a, b, c⟩ := p_len h2
    refine So.of' hm ?_ (fun i z => nomatch z)
    exact s_dlit (ih ks sc fc X _ values pos ck h2) a b (fun z => nomatch z) (by rw [List.length_cons]; omega) (by rw [c, List.length_cons]; omega)
  · cases h
theorem so_cal {f : Nat} {args : Ex} {fresh : Bool} (ih : SA B cal k args) : SE B cal k (.cal f args fresh) := fun m sc fc X e c h => by
  unfold chkE at h
  have hm := (and2 h).1
  replace h := (and2 h).2
  split at h
  · rename_i x p l pos
    split at h
    · rename_i fn hfn
      have h5 := (and2 h).2
      replace h := (and2 h).1
      have h4 := (and2 h).2
      replace h := (and2 h).1
      have h3 := (and2 h).2
      replace h := (and2 h).1
      obtain ⟨h1, h2⟩ := and2 h
      have h1 : B.nm[f]? = some (.glo x) := by simpa using h1
      have h3 : fn.fresh = fresh := by simpa using h3
      obtain ⟨a, fd, ps, ⟨e1, e2, e4⟩, e3⟩ := c.fns f fn _ hfn h1 (fun z => nomatch z)
      rw [h3] at e3
      have q := ih sc fc X l c h5
      have hfr : frE (.cal f args fresh) = fresh := by cases fresh <;> rfl
      refine So.of' hm ?_ (fun i z => nomatch z)
      rw [hfr]
      cases l with
      | nil =>
        have : args = .nil := by cases args <;> simp_all [chkA]
        subst this
        have : fn.ks = [] := by
          simp only [okArgs, Bool.and_eq_true] at h4
          have := h4.1.1
          cases hk : fn.ks with
          | nil => rfl
          | cons k' _ => rw [hk] at this; cases k' <;> simp [matchA] at this
        rw [this] at e3
        exact s_cal0 e3 c.room0 c.gd (c.gl h2).1 e1 e2 e4 (c.gl h2).2
      | cons y l =>
        have ns : noStar y = true ∧ NoStar l := by
          have gen : ∀ {ex : Ex} {l : List Expr}, chkA B ex sc fc l = true → NoStar l := by
            intro ex
            induction ex with
            | nil => intro l h; cases l with
              | nil => exact .nil
              | cons _ _ => simp [chkA] at h
            | cons e es _ ih => intro l h; cases l with
              | nil => exact .nil
              | cons x l =>
                unfold chkA at h
                obtain ⟨q1, q2⟩ := and2 h
                refine NoStar.of ?_ (ih q2)
                cases e <;> first | exact (and2 q1).1 | (cases x <;> first | rfl | cases q1)
            | _ => intro l h; simp [chkA] at h
          have := gen h5
          refine ⟨?_, ?_⟩
          · cases args <;> first | (simp [chkA] at h5; done) | skip
            rename_i e es
            unfold chkA at h5
            obtain ⟨q1, q2⟩ := and2 h5
            cases e <;> first | exact (and2 q1).1 | (cases y <;> first | rfl | cases q1)
          · cases args <;> first | (simp [chkA] at h5; done) | skip
            rename_i e es
            unfold chkA at h5
            exact gen (and2 h5).2
        exact s_cal e3 c.room0 c.gd (c.gl h2).1 e1 e2 e4 h4 q (c.gl h2).2 (star_of ns.1 _ _) (ns.2.any _ _)
    · cases h
  · cases h
theorem nostar_A {sc : Scope} {fc : Option Scope} : ∀ {ex : Ex} {l : List Expr}, chkA B ex sc fc l = true → NoStar l := by
  intro ex
  induction ex with
  | nil => intro l h; cases l with
    | nil => exact .nil
    | cons _ _ => simp [chkA] at h
  | cons e es _ ih => intro l h; cases l with
    | nil => exact .nil
    | cons x l =>
      unfold chkA at h
      obtain ⟨q1, q2⟩ := and2 h
      refine NoStar.of ?_ (ih q2)
      cases e <;> first | exact (and2 q1).1 | (cases x <;> first | rfl | cases q1)
  | _ => intro l h; simp [chkA] at h
theorem nostar_A1 {sc : Scope} {fc : Option Scope} {ex : Ex} {y : Expr} {l : List Expr} (h : chkA B ex sc fc (y :: l) = true) : noStar y = true ∧ NoStar l := by
  refine ⟨?_, ?_⟩
  · cases ex <;> first | (simp [chkA] at h; done) | skip
    rename_i e es
    unfold chkA at h
    obtain ⟨q1, q2⟩ := and2 h
    cases e <;> first | exact (and2 q1).1 | (cases y <;> first | rfl | cases q1)
  · cases ex <;> first | (simp [chkA] at h; done) | skip
    rename_i e es
    unfold chkA at h
    exact nostar_A (and2 h).2
theorem isRecv_of (io : Bool) (i : Nat) : isRecv (rcvE io i) i := by
  cases io
  · exact .inl rfl
  · exact .inr rfl
theorem meth_form {x m : Str} {p apos pos : Pos} {l : List Expr} {env : PySem.Env} (hs : NoStar l) (hl : l.length < 30) (hline : (apos.endLine == pos.line) = true) :
    eval (.Call (.Attribute (.Name x p) m apos) l [] pos) env = (do
      let ov ← eval (.Name x p) env
      standAt apos.atName
      let (f, first) ← holding [ov] (getMethod ov m (do return (← importBound (.Name x p) env).getD true))
      callWith pos f first (backTo pos (starEach l env)) (backToKw pos (keywordEach [] env))) := by
  have few : methodCallForm (l.length + ([] : List Keyword).length) (backTo pos (starEach l env)) (backToKw pos (keywordEach [] env)) = true := by
    have a := hs.all env pos
    unfold methodCallForm
    simp only [Bool.and_eq_true, decide_eq_true_eq]
    refine ⟨⟨?_, rfl⟩, ?_⟩
    · exact a
    · show l.length + 0 + 0 < 30
      omega
  show (do
    let ov ← eval (.Name x p) env
    standAt apos.atName
    methodCall (.Name x p) m apos pos env ov (l.length + ([] : List Keyword).length) (backTo pos (starEach l env)) (backToKw pos (keywordEach [] env))) = _
  unfold methodCall calleeOf methodCallPos
  rw [few, hline]
  simp only [if_true, Bool.not_true, Bool.false_or, pure_bind]
theorem so_met {c f i : Nat} {g : Str} {io : Bool} {args : Ex} {fresh : Bool} (ih : SA B cal k args) : SE B cal k (.met c g f io i args fresh) := fun m sc fc X e ck h => by
  unfold chkE at h
  have hm := (and2 h).1
  replace h := (and2 h).2
  split at h
  · rename_i x p hh apos l pos
    have h4 := (and2 h).2
    replace h := (and2 h).1
    have h3 := (and2 h).2
    replace h := (and2 h).1
    have h2 := (and2 h).2
    replace h := (and2 h).1
    have hl := (and2 h).2
    replace h := (and2 h).1
    obtain ⟨h1, hline⟩ := and2 h
    have h1 : hh = g := by simpa using h1
    have hl : l.length < 30 := by simpa using hl
    subst h1
    split at h3
    · rename_i fn hfn
      have h7 := (and2 h3).2
      replace h3 := (and2 h3).1
      obtain ⟨h5, h6⟩ := and2 h3
      have h5 : B.nm[f]? = some (.met c hh) := by simpa using h5
      have h6 : fn.fresh = fresh := by simpa using h6
      obtain ⟨a, fd, ps, ⟨e1, e2, e4⟩, e3⟩ := ck.fns f fn _ hfn h5 (fun z => nomatch z)
      rw [h6] at e3
      obtain ⟨g1, g2, g3, g4⟩ := ck.vis h2
      have q := ih sc fc X l ck h4
      have hfr : frE (.met c hh f io i args fresh) = fresh := by cases fresh <;> rfl
      refine So.of' hm ?_ (fun i z => nomatch z)
      rw [hfr]
      cases l with
      | nil =>
        have : args = .nil := by cases args <;> simp_all [chkA]
        subst this
        exact s_meth0 (isRecv_of io i) g1 g2 g3 g4 e1 e2 e3 ck.room0 ck.gd e4 h7 (meth_form .nil hl hline)
      | cons y l =>
        have ns := nostar_A1 h4
        exact s_meth (isRecv_of io i) g1 g2 g3 g4 e1 e2 e3 ck.room0 ck.gd e4 h7 q (star_of ns.1 _ _) (ns.2.any _ _) (meth_form (NoStar.of ns.1 ns.2) hl hline)
    · cases h3
  · cases h
theorem kws_of {sc : Scope} {fc : Option Scope} {env : PySem.Env} {pos : Pos} : ∀ {ex : Ex} {ks : List Str} {l : List Keyword}, chkK B ex ks sc fc l = true →
    (backToKw pos (keywordEach l env)).all (·.1.isSome) = true ∧ (backToKw pos (keywordEach l env)).filterMap (·.1) = ks ∧ (backToKw pos (keywordEach l env)).any (·.1.isNone) = false := by
  intro ex
  induction ex with
  | nil =>
    intro ks l h
    unfold chkK at h
    split at h
    · exact ⟨rfl, rfl, rfl⟩
    · cases h
  | cons e es _ ih =>
    intro ks l h
    unfold chkK at h
    split at h
    · rename_i k' ks' n x p l'
      have h3 := (and2 h).2
      replace h := (and2 h).1
      obtain ⟨h1, h2⟩ := and2 h
      have h1 : n = k' := by simpa using h1
      subst h1
      obtain ⟨a, b, c⟩ := ih h3
      refine ⟨?_, ?_, ?_⟩
      · show (true && _) = true
        rw [Bool.true_and]
        exact a
      · show n :: _ = n :: ks'
        rw [← b]
        rfl
      · show (false || _) = false
        rw [Bool.false_or]
        exact c
    · cases h
  | _ => intro ks l h; simp [chkK] at h
theorem kw_len {sc : Scope} {fc : Option Scope} : ∀ {ex : Ex} {ks : List Str} {l : List Keyword} {env : En} {p : List D × En}, chkK B ex ks sc fc l = true → one (ev cal ex env) = .ok p → p.1.length = ks.length := by
  intro ex
  induction ex with
  | nil =>
    intro ks l env p h hp
    unfold chkK at h
    split at h
    · cases hp; rfl
    · cases h
  | cons e es _ ih =>
    intro ks l env p h hp
    unfold chkK at h
    split at h
    · have h3 := (and2 h).2
      rw [one_cons] at hp
      cases e1 : ev cal e env with
      | exc c d => rw [e1] at hp; cases hp
      | bad => rw [e1] at hp; cases hp
      | ok p1 =>
        rw [e1] at hp
        have hp : (one (ev cal es p1.2)).bind (fun q => .ok (p1.1 :: q.1, q.2)) = .ok p := hp
        cases e2 : one (ev cal es p1.2) with
        | exc c d => rw [e2] at hp; cases hp
        | bad => rw [e2] at hp; cases hp
        | ok p2 =>
          rw [e2] at hp
          cases hp
          show (p1.1 :: p2.1).length = _
          rw [List.length_cons, List.length_cons, ih h3 e2]
    · cases h
  | _ => intro ks l env p h; simp [chkK] at h
theorem so_mkO {c f : Nat} {args kws : Ex} (ih : SL B cal k args) (ih2 : SK B cal k kws) : SE B cal k (.mkO c f args kws) := fun m sc fc X e ck h => by
  unfold chkE at h
  have hm := (and2 h).1
  replace h := (and2 h).2
  split at h
  · rename_i x p y l kl pos
    have h4 := (and2 h).2
    replace h := (and2 h).1
    have h3 := (and2 h).2
    replace h := (and2 h).1
    obtain ⟨h1, h2⟩ := and2 h
    have h1 : x = clsName c := by simpa using h1
    subst h1
    split at h3
    · rename_i fn c' n ks hfn hnm
      have h9 := (and2 h3).2
      replace h3 := (and2 h3).1
      have h8 := (and2 h3).2
      replace h3 := (and2 h3).1
      have h7 := (and2 h3).2
      replace h3 := (and2 h3).1
      obtain ⟨h5, h6⟩ := and2 h3
      have h5 : c' = c := by simpa using h5
      have h6 : fn.ks = .io :: List.replicate (n + ks.length) .dat := by simpa using h6
      have h7 : fn.fresh = false := by simpa using h7
      have h8 : lenE args = n := by simpa using h8
      subst h5
      obtain ⟨a, fd, ps, ⟨e1, e2, gg, gV, e4, e5⟩, e3⟩ := ck.fns f fn _ hfn hnm (fun z => nomatch z)
      rw [h6, h7] at e3
      obtain ⟨k1, k2, k3⟩ := kws_of (env := X.env) (pos := pos) h9
      have ns := nostar_L h4
      have ns1 : noStar y = true ∧ NoStar l := by
        rcases L_cases h4 with ⟨_, z⟩ | ⟨_, _, _, _, _, z, q, _, q2⟩
        · cases z
        · cases z; exact ⟨q, nostar_L q2⟩
      refine So.of' hm ?_ (fun i z => nomatch z)
      exact s_mk (n := n) e1 e3 ck.room ck.gd (ck.gl h2).1 e2 e4 e5 rfl (ih sc fc X _ ck h4) (ih2 ks sc fc X kl ck h9) (fun env q z => by rw [one_len h4 z, h8]) (fun env q z => kw_len h9 z) k1 k2 (ck.gl h2).2 (star_of ns1.1 _ _) (by rw [ns.any, k3]; rfl)
    · cases h3
  · cases h
theorem t_inO {X : Cx} {a b : Expr} {fr fr' : Bool} {pos : Pos} {fa fb : En → Res (D × En)} {f : Addr} {fd : FuncData} {ps : List Str} {k c : Nat} {r : List D → Res (D × List D)} {neg : Bool} (hm : Meth X.K (clOf X.K c) "__contains__" f) (F : FnG X.prog X.w X.K X.mg X.base k f fd ps (spF X.K (clOf X.K) [.bor, .dat] false r)) (hr : Room k X.A) (gd : X.A.guards = some []) (hb : Binds X.K fd ps []) (ha : PE X a (tR X fr fa)) (hbb : PE X b (tR X fr' fb)) (hmk : behindInMarks (if neg then CmpOp.NotIn else .In) b = false) :
    PT X (.Compare a [if neg then CmpOp.NotIn else .In] [b] pos) (tRT X fun env => truR ((fa env).bind fun p => (fb p.2).bind fun q => inO r c neg p.1 q.1 q.2)) := by
  have conv : ∀ {F : Fx} {env : En} {σ : SV} {H : Hp} {d1 d2 : D} {Q : Bool → Hp → Prop}, OutT F env σ H (truR (inO r c neg d1 d2 env)) Q → Out true F env σ H (inO r c neg d1 d2 env) fun v H' => ∃ k, v = .bl k ∧ Q k H' := by
    intro F env σ H d1 d2 Q o
    cases d2 with
    | ins c' fl =>
      have o : OutT F env σ H (truR (if c' = c then (match r [.ins c' fl, d1] with
        | .ok (.bl b, []) => .ok (.bl (if neg then !b else b), env)
        | .exc c d => .exc c d
        | _ => .bad) else .bad)) Q := o
      show Out true F env σ H (if c' = c then (match r [.ins c' fl, d1] with
        | .ok (.bl b, []) => .ok (.bl (if neg then !b else b), env)
        | .exc c d => .exc c d
        | _ => .bad) else .bad) _
      by_cases hc : c' = c
      · rw [if_pos hc] at o ⊢
        cases er : r [.ins c' fl, d1] with
        | bad => rw [er] at o; exact o
        | exc c d => rw [er] at o; exact o
        | ok q =>
          rw [er] at o
          obtain ⟨d, outs⟩ := q
          cases outs with
          | nil =>
            cases d with
            | bl bb =>
              intro v H' ps rv _
              cases rv
              exact ⟨_, rfl, o H' ps⟩
            | _ => exact o.elim
          | cons _ _ => cases d <;> exact o.elim
      · rw [if_neg hc] at o
        exact o.elim
    | _ => exact o.elim
  have seqT : ∀ {F : Fx} {env : En} {σ : SV} {H : Hp} {r : Res (D × En)} {g : D × En → Res (D × En)} {Q : Bool → Hp → Prop} {Q1 : VK}, OutT F env σ H (truR (r.bind g)) Q → (∀ p v H1, Pst F env p.2 σ H H1 → RepF F p.2 σ H1 v p.1 → OutT F p.2 σ H1 (truR (g p)) Q → Q1 v H1) → Out false F env σ H r Q1 := by
    intro F env σ H r g Q Q1 o kk
    cases r with
    | exc c d => exact o
    | bad => exact o
    | ok p => exact fun v H1 ps rv _ => kk p v H1 ps rv (OutT.shift ps o)
  cases neg with
  | false => exact ptImp (pt_cmpR (op_inO hm F hr gd hb) (peWeak ha) (peWeak hbb) hmk) fun σ H Q ⟨F', env, g, rel, o⟩ => ⟨F', env, g, rel, seqT o fun p v H1 ps rv o1 => ⟨F', p.2, g, ps.rel, seqT o1 fun q u H2 ps2 ru o2 => inO_fin g ps2.rel (ps2.rep rv) ru (conv o2)⟩⟩
  | true => exact ptImp (pt_cmpR (op_notInO hm F hr gd hb) (peWeak ha) (peWeak hbb) hmk) fun σ H Q ⟨F', env, g, rel, o⟩ => ⟨F', env, g, rel, seqT o fun p v H1 ps rv o1 => ⟨F', p.2, g, ps.rel, seqT o1 fun q u H2 ps2 ru o2 => inO_fin g ps2.rel (ps2.rep rv) ru (conv o2)⟩⟩
theorem so_inO {neg : Bool} {c f : Nat} {a b : Ex} (ha : SE B cal k a) (hb : SE B cal k b) : SE B cal k (.inO neg c f a b) := fun m sc fc X e ck h => by
  unfold chkE at h
  split at h
  · rename_i x op y pos
    have h6 := (and2 h).2
    replace h := (and2 h).1
    have h5 := (and2 h).2
    replace h := (and2 h).1
    have h4 := (and2 h).2
    replace h := (and2 h).1
    have h3 := (and2 h).2
    replace h := (and2 h).1
    obtain ⟨h1, h2⟩ := and2 h
    have h1 : m ≠ .itr := by simpa using h1
    have h2 : op = if neg then CmpOp.NotIn else .In := by simpa using h2
    subst h2
    split at h4
    · rename_i fn hfn
      have h9 := (and2 h4).2
      replace h4 := (and2 h4).1
      obtain ⟨h7, h8⟩ := and2 h4
      have h7 : B.nm[f]? = some (.met c "__contains__") := by simpa using h7
      have h8 : fn.ks = [.bor, .dat] := by simpa using h8
      have h9 : fn.fresh = false := by simpa using h9
      obtain ⟨a', fd, ps, ⟨e1, e2, e4⟩, e3⟩ := ck.fns f fn _ hfn h7 (fun z => nomatch z)
      rw [h8, h9] at e3
      cases m with
      | val => exact s_inO e2 e3 ck.room0 ck.gd e4 (ha .val sc fc X x ck h5) (hb .val sc fc X y ck h6) (mark_of h3)
      | tst => exact t_inO e2 e3 ck.room0 ck.gd e4 (ha .val sc fc X x ck h5) (hb .val sc fc X y ck h6) (mark_of h3)
      | itr => exact absurd rfl h1
    · cases h4
  · cases h
theorem so_all : ∀ ex : Ex, SP B cal k ex := by
  intro ex
  induction ex with
  | nil =>
    refine ⟨fun m sc fc X e c h => by simp [chkE] at h, fun sc fc X l c h => ?_, fun sc fc X l c h => ?_, fun sc fc X l c h => ?_, fun ks sc fc X l c h => ?_, fun ks sc fc X l l' pos c h => ?_⟩
    · cases l with
      | nil => exact s_nil
      | cons _ _ => simp [chkL] at h
    · cases l with
      | nil => exact c_nil
      | cons _ _ => simp [chkA] at h
    · cases l with
      | nil => exact s_nil
      | cons _ _ => simp [chkD] at h
    · cases l with
      | nil => exact s_kwNil
      | cons _ _ => cases ks <;> simp [chkK] at h
    · unfold chkP at h
      split at h
      · exact pd_nil
      · cases h
  | cons e es ih1 ih2 =>
    refine ⟨fun m sc fc X e c h => by simp [chkE] at h, fun sc fc X l c h => ?_, fun sc fc X l c h => ?_, fun sc fc X l c h => ?_, fun ks sc fc X l c h => ?_, fun ks sc fc X l l' pos c h => ?_⟩
    · cases l with
      | nil => simp [chkL] at h
      | cons x l =>
        unfold chkL at h
        have h3 := (and2 h).2
        replace h := (and2 h).1
        obtain ⟨h1, h2⟩ := and2 h
        exact pa_same (s_cons (ih1.1 .val sc fc X x c h2) (ih2.2.1 sc fc X l c h3) (star_of h1 _ _)) (one_cons e es)
    · cases l with
      | nil => simp [chkA] at h
      | cons x l =>
        have rest := fun h => ih2.2.2.1 sc fc X l c h
        have dat : isLent e = false → (noStar x && chkE B e .val sc fc x) = true → chkA B es sc fc l = true → PA X (x :: l) (tRC X (.cons e es) fun env => one (ev cal (.cons e es) env)) := fun hl h1 h2 => by
          obtain ⟨q1, q2⟩ := and2 h1
          exact pc_same (c_dat hl (ih1.1 .val sc fc X x c q2) (rest h2) (star_of q1 _ _)) (one_cons e es)
        unfold chkA at h
        obtain ⟨h1, h2⟩ := and2 h
        cases e with
        | ioA i =>
          cases x with
          | Name y p =>
            obtain ⟨g1, g2, g3, g4⟩ := c.vis h1
            exact pc_same (c_io g1 g2 g3 g4 (rest h2) rfl) (one_cons _ es)
          | _ => cases h1
        | borA i =>
          cases x with
          | Name y p =>
            obtain ⟨g1, g2, g3, g4⟩ := c.vis h1
            exact pc_same (c_bor g1 g2 g3 g4 (rest h2) rfl) (one_cons _ es)
          | _ => cases h1
        | _ => exact dat rfl h1 h2
    · cases l with
      | nil => simp [chkD] at h
      | cons x l =>
        unfold chkD at h
        have h3 := (and2 h).2
        replace h := (and2 h).1
        obtain ⟨h1, h2⟩ := and2 h
        exact pa_same (s_cons (ih1.1 .val sc fc X x c h2) (ih2.2.2.2.1 sc fc X l c h3) (star_of h1 _ _)) (one_cons e es)
    · unfold chkK at h
      split at h
      · rename_i k' ks' n x p l'
        have h3 := (and2 h).2
        replace h := (and2 h).1
        obtain ⟨h1, h2⟩ := and2 h
        have z := s_kwCons (nm := some n) (kpos := p) (ih1.1 .val sc fc X x c h2) (ih2.2.2.2.2.1 ks' sc fc X l' c h3)
        have e0 : (fun env => one (ev cal (.cons e es) env)) = fun env => (ev cal e env).bind fun p => (one (ev cal es p.2)).bind fun q => .ok (p.1 :: q.1, q.2) := funext fun env => one_cons e es env
        rw [e0]
        exact z
      · cases h
    · unfold chkP at h
      split at h
      · rename_i k' ks' n kk kp l0 x l0'
        have h3 := (and2 h).2
        replace h := (and2 h).1
        obtain ⟨h1, h2⟩ := and2 h
        have h1 : n = k' := by simpa using h1
        subst h1
        have z := pd_cons (kk := kk) (kp := kp) (k := n) (ih1.1 .val sc fc X x c h2) (ih2.2.2.2.2.2 ks' sc fc X l0 l0' pos c h3)
        have e0 : (fun env => one (ev cal (.cons e es) env)) = fun env => (ev cal e env).bind fun p => (one (ev cal es p.2)).bind fun q => .ok (p.1 :: q.1, q.2) := funext fun env => one_cons e es env
        rw [e0]
        exact z
      · cases h
  | scons e es ih1 ih2 =>
    refine ⟨fun m sc fc X e c h => by simp [chkE] at h, fun sc fc X l c h => by simp [chkL] at h, fun sc fc X l c h => by simp [chkA] at h, fun sc fc X l c h => ?_, fun ks sc fc X l c h => by simp [chkK] at h, fun ks sc fc X l l' pos c h => by simp [chkP] at h⟩
    unfold chkD at h
    split at h
    · rename_i x p l'
      obtain ⟨h1, h2⟩ := and2 h
      exact pa_same (s_star (p := p) (ih1.1 .val sc fc X x c h1) (ih2.2.2.2.1 sc fc X l' c h2)) (one_scons e es)
    · cases h
  | lstS es ih => exact SP.of (fun _ _ _ => by simp [chkL]) (fun _ _ _ => by simp [chkA]) (fun _ _ _ => by simp [chkD]) (fun _ _ _ _ => by simp [chkK]) (fun _ _ _ _ _ => by simp [chkP]) (so_lstS ih.2.2.2.1)
  | tupS es ih => exact SP.of (fun _ _ _ => by simp [chkL]) (fun _ _ _ => by simp [chkA]) (fun _ _ _ => by simp [chkD]) (fun _ _ _ _ => by simp [chkK]) (fun _ _ _ _ _ => by simp [chkP]) (so_tupS ih.2.2.2.1)
  | fld c f a h1 => exact SP.of (fun _ _ _ => by simp [chkL]) (fun _ _ _ => by simp [chkA]) (fun _ _ _ => by simp [chkD]) (fun _ _ _ _ => by simp [chkK]) (fun _ _ _ _ _ => by simp [chkP]) (so_fld h1.1)
  | fldP c f i => exact SP.of (fun _ _ _ => by simp [chkL]) (fun _ _ _ => by simp [chkA]) (fun _ _ _ => by simp [chkD]) (fun _ _ _ _ => by simp [chkK]) (fun _ _ _ _ _ => by simp [chkP]) so_fldP
  | get a k x h1 h2 h3 => exact SP.of (fun _ _ _ => by simp [chkL]) (fun _ _ _ => by simp [chkA]) (fun _ _ _ => by simp [chkD]) (fun _ _ _ _ => by simp [chkK]) (fun _ _ _ _ _ => by simp [chkP]) (so_get h1.1 h2.1 h3.1)
  | idx a b h1 h2 => exact SP.of (fun _ _ _ => by simp [chkL]) (fun _ _ _ => by simp [chkA]) (fun _ _ _ => by simp [chkD]) (fun _ _ _ _ => by simp [chkK]) (fun _ _ _ _ _ => by simp [chkP]) (so_idx h1.1 h2.1)
  | inO neg c f a b h1 h2 => exact SP.of (fun _ _ _ => by simp [chkL]) (fun _ _ _ => by simp [chkA]) (fun _ _ _ => by simp [chkD]) (fun _ _ _ _ => by simp [chkK]) (fun _ _ _ _ _ => by simp [chkP]) (so_inO h1.1 h2.1)
  | met c m f io i args fresh h1 => exact SP.of (fun _ _ _ => by simp [chkL]) (fun _ _ _ => by simp [chkA]) (fun _ _ _ => by simp [chkD]) (fun _ _ _ _ => by simp [chkK]) (fun _ _ _ _ _ => by simp [chkP]) (so_met h1.2.2.1)
  | mkO c f args kws h1 h2 => exact SP.of (fun _ _ _ => by simp [chkL]) (fun _ _ _ => by simp [chkA]) (fun _ _ _ => by simp [chkD]) (fun _ _ _ _ => by simp [chkK]) (fun _ _ _ _ _ => by simp [chkP]) (so_mkO h1.2.1 h2.2.2.2.2.1)
  | popP i a h1 => exact SP.of (fun _ _ _ => by simp [chkL]) (fun _ _ _ => by simp [chkA]) (fun _ _ _ => by simp [chkD]) (fun _ _ _ _ => by simp [chkK]) (fun _ _ _ _ _ => by simp [chkP]) (so_popP h1.1)
  | dlit ks vs h1 => exact SP.of (fun _ _ _ => by simp [chkL]) (fun _ _ _ => by simp [chkA]) (fun _ _ _ => by simp [chkD]) (fun _ _ _ _ => by simp [chkK]) (fun _ _ _ _ _ => by simp [chkP]) (so_dlit h1.2.2.2.2.2)
  | var i => exact SP.of (fun _ _ _ => by simp [chkL]) (fun _ _ _ => by simp [chkA]) (fun _ _ _ => by simp [chkD]) (fun _ _ _ _ => by simp [chkK]) (fun _ _ _ _ _ => by simp [chkP]) (so_var i)
  | con x c => exact SP.of (fun _ _ _ => by simp [chkL]) (fun _ _ _ => by simp [chkA]) (fun _ _ _ => by simp [chkD]) (fun _ _ _ _ => by simp [chkK]) (fun _ _ _ _ _ => by simp [chkP]) (so_con x c)
  | cI i => exact SP.of (fun _ _ _ => by simp [chkL]) (fun _ _ _ => by simp [chkA]) (fun _ _ _ => by simp [chkD]) (fun _ _ _ _ => by simp [chkK]) (fun _ _ _ _ _ => by simp [chkP]) (so_cI i)
  | cS i => exact SP.of (fun _ _ _ => by simp [chkL]) (fun _ _ _ => by simp [chkA]) (fun _ _ _ => by simp [chkD]) (fun _ _ _ _ => by simp [chkK]) (fun _ _ _ _ _ => by simp [chkP]) (so_cS i)
  | cB i => exact SP.of (fun _ _ _ => by simp [chkL]) (fun _ _ _ => by simp [chkA]) (fun _ _ _ => by simp [chkD]) (fun _ _ _ _ => by simp [chkK]) (fun _ _ _ _ _ => by simp [chkP]) (so_cB i)
  | cN => exact SP.of (fun _ _ _ => by simp [chkL]) (fun _ _ _ => by simp [chkA]) (fun _ _ _ => by simp [chkD]) (fun _ _ _ _ => by simp [chkK]) (fun _ _ _ _ _ => by simp [chkP]) so_cN
  | lst es ih => exact SP.of (fun _ _ _ => by simp [chkL]) (fun _ _ _ => by simp [chkA]) (fun _ _ _ => by simp [chkD]) (fun _ _ _ _ => by simp [chkK]) (fun _ _ _ _ _ => by simp [chkP]) (so_lst ih.2.1)
  | tup es ih => exact SP.of (fun _ _ _ => by simp [chkL]) (fun _ _ _ => by simp [chkA]) (fun _ _ _ => by simp [chkD]) (fun _ _ _ _ => by simp [chkK]) (fun _ _ _ _ _ => by simp [chkP]) (so_tup ih.2.1)
  | dic0 => exact SP.of (fun _ _ _ => by simp [chkL]) (fun _ _ _ => by simp [chkA]) (fun _ _ _ => by simp [chkD]) (fun _ _ _ _ => by simp [chkK]) (fun _ _ _ _ _ => by simp [chkP]) so_dic0
  | bin op a b h1 h2 => exact SP.of (fun _ _ _ => by simp [chkL]) (fun _ _ _ => by simp [chkA]) (fun _ _ _ => by simp [chkD]) (fun _ _ _ _ => by simp [chkK]) (fun _ _ _ _ _ => by simp [chkP]) (so_bin h1.1 h2.1)
  | neg a h1 => exact SP.of (fun _ _ _ => by simp [chkL]) (fun _ _ _ => by simp [chkA]) (fun _ _ _ => by simp [chkD]) (fun _ _ _ _ => by simp [chkK]) (fun _ _ _ _ _ => by simp [chkP]) (so_neg h1.1)
  | not a h1 => exact SP.of (fun _ _ _ => by simp [chkL]) (fun _ _ _ => by simp [chkA]) (fun _ _ _ => by simp [chkD]) (fun _ _ _ _ => by simp [chkK]) (fun _ _ _ _ _ => by simp [chkP]) (so_not h1.1)
  | and a b h1 h2 => exact SP.of (fun _ _ _ => by simp [chkL]) (fun _ _ _ => by simp [chkA]) (fun _ _ _ => by simp [chkD]) (fun _ _ _ _ => by simp [chkK]) (fun _ _ _ _ _ => by simp [chkP]) (so_and h1.1 h2.1)
  | or a b h1 h2 => exact SP.of (fun _ _ _ => by simp [chkL]) (fun _ _ _ => by simp [chkA]) (fun _ _ _ => by simp [chkD]) (fun _ _ _ _ => by simp [chkK]) (fun _ _ _ _ _ => by simp [chkP]) (so_or h1.1 h2.1)
  | cmp op a b h1 h2 => exact SP.of (fun _ _ _ => by simp [chkL]) (fun _ _ _ => by simp [chkA]) (fun _ _ _ => by simp [chkD]) (fun _ _ _ _ => by simp [chkK]) (fun _ _ _ _ _ => by simp [chkP]) (so_cmp h1.1 h2.1)
  | chn op op2 a b c h1 h2 h3 => exact SP.of (fun _ _ _ => by simp [chkL]) (fun _ _ _ => by simp [chkA]) (fun _ _ _ => by simp [chkD]) (fun _ _ _ _ => by simp [chkK]) (fun _ _ _ _ _ => by simp [chkP]) (so_chn h1.1 h2.1 h3.1)
  | ife c a b h1 h2 h3 => exact SP.of (fun _ _ _ => by simp [chkL]) (fun _ _ _ => by simp [chkA]) (fun _ _ _ => by simp [chkD]) (fun _ _ _ _ => by simp [chkK]) (fun _ _ _ _ _ => by simp [chkP]) (so_ife h1.1 h2.1 h3.1)
  | isi a tys h1 => exact SP.of (fun _ _ _ => by simp [chkL]) (fun _ _ _ => by simp [chkA]) (fun _ _ _ => by simp [chkD]) (fun _ _ _ _ => by simp [chkK]) (fun _ _ _ _ _ => by simp [chkP]) (so_isi h1.1)
  | cal f args fresh h1 => exact SP.of (fun _ _ _ => by simp [chkL]) (fun _ _ _ => by simp [chkA]) (fun _ _ _ => by simp [chkD]) (fun _ _ _ _ => by simp [chkK]) (fun _ _ _ _ _ => by simp [chkP]) (so_cal h1.2.2.1)
  | ioA i => exact SP.of (fun _ _ _ => by simp [chkL]) (fun _ _ _ => by simp [chkA]) (fun _ _ _ => by simp [chkD]) (fun _ _ _ _ => by simp [chkK]) (fun _ _ _ _ _ => by simp [chkP]) (fun m sc fc X e c h => by simp [chkE] at h)
  | borA i => exact SP.of (fun _ _ _ => by simp [chkL]) (fun _ _ _ => by simp [chkA]) (fun _ _ _ => by simp [chkD]) (fun _ _ _ _ => by simp [chkK]) (fun _ _ _ _ _ => by simp [chkP]) (fun m sc fc X e c h => by simp [chkE] at h)
  | blt b args h1 => exact SP.of (fun _ _ _ => by simp [chkL]) (fun _ _ _ => by simp [chkA]) (fun _ _ _ => by simp [chkD]) (fun _ _ _ _ => by simp [chkK]) (fun _ _ _ _ _ => by simp [chkP]) (so_blt h1.2.1)
  | lenP i => exact SP.of (fun _ _ _ => by simp [chkL]) (fun _ _ _ => by simp [chkA]) (fun _ _ _ => by simp [chkD]) (fun _ _ _ _ => by simp [chkK]) (fun _ _ _ _ _ => by simp [chkP]) so_lenP
  | sub a b h1 h2 => exact SP.of (fun _ _ _ => by simp [chkL]) (fun _ _ _ => by simp [chkA]) (fun _ _ _ => by simp [chkD]) (fun _ _ _ _ => by simp [chkK]) (fun _ _ _ _ _ => by simp [chkP]) (so_sub h1.1 h2.1)
  | subP i b h1 => exact SP.of (fun _ _ _ => by simp [chkL]) (fun _ _ _ => by simp [chkA]) (fun _ _ _ => by simp [chkD]) (fun _ _ _ _ => by simp [chkK]) (fun _ _ _ _ _ => by simp [chkP]) (so_subP h1.1)
  | slc a lo hi h1 h2 h3 => exact SP.of (fun _ _ _ => by simp [chkL]) (fun _ _ _ => by simp [chkA]) (fun _ _ _ => by simp [chkD]) (fun _ _ _ _ => by simp [chkK]) (fun _ _ _ _ _ => by simp [chkP]) (so_slc h1.1 h2.1 h3.1)
  | rev a h1 => exact SP.of (fun _ _ _ => by simp [chkL]) (fun _ _ _ => by simp [chkA]) (fun _ _ _ => by simp [chkD]) (fun _ _ _ _ => by simp [chkK]) (fun _ _ _ _ _ => by simp [chkP]) (so_rev h1.1)
  | rng a h1 => exact SP.of (fun _ _ _ => by simp [chkL]) (fun _ _ _ => by simp [chkA]) (fun _ _ _ => by simp [chkD]) (fun _ _ _ _ => by simp [chkK]) (fun _ _ _ _ _ => by simp [chkP]) (so_rng h1.1)
  | comp elt tgt iter cond own h1 h2 h3 h4 => exact SP.of (fun _ _ _ => by simp [chkL]) (fun _ _ _ => by simp [chkA]) (fun _ _ _ => by simp [chkD]) (fun _ _ _ _ => by simp [chkK]) (fun _ _ _ _ _ => by simp [chkP]) (so_comp h1.1 h3.1 h4.1)
  | dcmp key val tgt iter own h1 h2 h3 h4 => exact SP.of (fun _ _ _ => by simp [chkL]) (fun _ _ _ => by simp [chkA]) (fun _ _ _ => by simp [chkD]) (fun _ _ _ _ => by simp [chkK]) (fun _ _ _ _ _ => by simp [chkP]) (so_dcmp h1.1 h2.1 h4.1)
  | items a h1 => exact SP.of (fun _ _ _ => by simp [chkL]) (fun _ _ _ => by simp [chkA]) (fun _ _ _ => by simp [chkD]) (fun _ _ _ _ => by simp [chkK]) (fun _ _ _ _ _ => by simp [chkP]) (so_items h1.1)
end
end Dm
set_option Elab.async false
set_option linter.all false
set_option maxRecDepth 100000
set_option maxHeartbeats 1000000
namespace Dm
open PySem PySem.Spec PyProof.Rows L2
section
variable {B : Bx} {cal : Nat → List D → Res (D × List D)} {k : Nat} {sc : Scope} {X : Cx}
theorem ps_same {st : Stmt} {f g : En → Res Fl} (h : PS X st (tS X f)) (q : ∀ env, g env = f env) : PS X st (tS X g) := by
  have : g = f := funext q
  rw [this]; exact h
theorem pss_same {l : List Stmt} {f g : En → Res Fl} (h : PSs X l (tS X f)) (q : ∀ env, g env = f env) : PSs X l (tS X g) := by
  have : g = f := funext q
  rw [this]; exact h
theorem pss_one {st : Stmt} {f : En → Res Fl} (h : PS X st (tS X f)) : PSs X [st] (tS X f) := pss_same (ss_seq h ss_skip) fun env => by
  unfold seqF
  cases f env with
  | ok fl => cases fl <;> rfl
  | exc c d => rfl
  | bad => rfl
/-- a loop over anything but a dict -/
theorem ss_forR {it tgt : Ex} {tg iter : Expr} {body : List Stmt} {pos : Pos} {fi : En → Res (D × En)} {fbd : En → Res Fl} (hc : X.calm = true) (hp : PassesOwn (model X.prog X.w) X.A X.env X.xe) (hi : PI X tg iter (tRI X it fi)) (hg : PG X tg (tG X tgt)) (hb : PSs X body (tS X fbd)) (hs : ∀ x, foldedSetIterable iter X.env x = pure x) :
    PS X (.For tg iter body [] pos) (tS X fun env => (fi env).bind fun p => match rows p.1 with
      | some xs => forGo tgt fbd xs p.2
      | none => .bad) := by
  let fi' : En → Res (D × En) := fun env => (fi env).bind fun p => match p.1 with
    | .dic _ => .bad
    | _ => .ok p
  have nd : ∀ env p, fi' env = .ok p → ∀ kvs, p.1 ≠ .dic kvs := fun env p h kvs z => by
    have h : ((fi env).bind fun p => match p.1 with
      | .dic _ => Res.bad
      | _ => .ok p) = .ok p := h
    cases e1 : fi env with
    | exc c d => rw [e1] at h; cases h
    | bad => rw [e1] at h; cases h
    | ok q =>
      rw [e1] at h
      obtain ⟨d, env1⟩ := q
      have h : (match d with
        | .dic _ => Res.bad
        | _ => .ok (d, env1)) = .ok p := h
      cases d <;> (first | cases h | skip) <;> cases z
  have hi' : PI X tg iter (tRI X it fi') := ⟨fun pins s σ H R I ⟨F, env, g, rel, o⟩ => hi.run pins s σ H R I ⟨F, env, g, rel, by
    have o : OutI it F env σ H ((fi env).bind fun p => match p.1 with
      | .dic _ => Res.bad
      | _ => .ok p) R := o
    cases e1 : fi env with
    | exc c d => rw [e1] at o; exact o
    | bad => rw [e1] at o; exact o
    | ok q =>
      rw [e1] at o
      obtain ⟨d, env1⟩ := q
      cases d with
      | dic kvs => exact o.elim
      | _ => exact o⟩⟩
  refine ps_same (ss_for hc hp hi' nd hg hb hs) fun env => ?_
  show _ = ((fi env).bind fun p => match p.1 with
      | .dic _ => Res.bad
      | _ => .ok p).bind _
  cases fi env with
  | exc c d => rfl
  | bad => rfl
  | ok q =>
    obtain ⟨d, env1⟩ := q
    cases d <;> rfl
theorem swap_of {e : Expr} (h : notComp e = true) (t : Option Expr) (l : Nat) (env : PySem.Env) : swapsWith e t l env = pure false := by
  cases e <;> first | rfl | cases h
theorem loc_of {fc : Option Scope} {y : Str} (c : Cok B cal k sc fc X) (h : loc sc fc y = true) : L2.Loc X.env.scope y ∧ (X.fn y = true ∨ X.env.scope.names.lookup y = some .local) := by
  rw [c.sc]
  unfold loc at h
  unfold L2.Loc
  split at h
  · rename_i e; exact ⟨.inl e, .inr e⟩
  · rename_i e; exact ⟨.inr e, .inl (c.fn y h)⟩
  · cases h
theorem sw_out {x : Expr} {y : Str} {py : Pos} {l : Nat} {env : PySem.Env} (h : env.scope.names.lookup y ≠ some .local) : swapsWith x (some (.Name y py)) l env = pure false := by
  have hk : (env.kindOf y == some .local) = false := by
    unfold Env.kindOf
    cases e : env.scope.names.lookup y with
    | none => rfl
    | some v =>
      cases v with
      | «local» => exact absurd e h
      | _ => rfl
  cases x <;> first | rfl | (unfold swapsWith; simp only [hk, Bool.and_false, Bool.false_and])
/-- name = value -/
theorem so_set {i : Nat} {y : Str} {py pos : Pos} {x : Expr} {e : Ex} (c : Cok B cal k sc none X) (h1 : B.N[i]? = some y) (h2 : loc sc none y = true) (h3 : chkE B e .val sc none x = true) (h4 : (notComp x || lcIn sc y py x || lcOut sc y) = true) :
    PS X (.Assign [.Name y py] x pos) (tAsg (tR X (frE e) (ev cal e)) (gName i)) := by
  obtain ⟨l1, l2⟩ := loc_of c h2
  cases hn : notComp x with
  | true => exact ps_set (c.N ▸ c.nd) (c.N ▸ h1) l1 ((so_all e).1 .val sc none X x c h3) (swap_of hn _ _ _) l2
  | false =>
    rw [hn] at h4
    cases ho : lcOut sc y with
    | true =>
      have ho : sc.names.lookup y ≠ some .local := by simpa [lcOut] using ho
      exact ps_set (c.N ▸ c.nd) (c.N ▸ h1) l1 ((so_all e).1 .val sc none X x c h3) (sw_out (by rw [c.sc]; exact ho)) l2
    | false =>
    rw [ho] at h4
    have h4 : lcIn sc y py x = true := by simpa using h4
    cases x with
    | ListComp x' gs scope p =>
      cases e <;> simp only [chkE, Bool.and_false, Bool.false_eq_true] at h3
      rename_i elt tgt iter cond own
      have h := (and2 h3).2
      split at h
      · rename_i _ tg it ifs j _ _ heq
        cases heq
        have q7 := (and2 h).2
        replace h := (and2 h).1
        have q6 := (and2 h).2
        replace h := (and2 h).1
        have q5 := (and2 h).2
        replace h := (and2 h).1
        have q4 := (and2 h).2
        replace h := (and2 h).1
        have q3 := (and2 h).2
        replace h := (and2 h).1
        obtain ⟨q1, q2⟩ := and2 h
        have q1 : j = 0 := by simpa using q1
        subst q1
        obtain ⟨⟨p1, p2⟩, p3, p4, p5⟩ := comp_parts (own := own) c (so_all elt).1 (so_all iter).1 (so_all cond).1 q2 q4 q5 q7
        have ok : BlkOk X.N X.env.scope scope (ownp B own) := by rw [c.N, c.sc]; exact blkOk_by q3
        simp only [lcIn, Bool.and_eq_true, decide_eq_true_eq, Bool.not_eq_true'] at h4
        obtain ⟨⟨⟨z1, z2⟩, z3⟩, z4⟩ := h4
        have hy : X.env.scope.names.lookup y = some .local := by rw [c.sc]; exact z2
        have hk : X.env.scope.kind = .function := by rw [c.sc]; exact z1
        exact comp_R (B := B) rn_set q6 (ps_setLc c.calm (c.N ▸ c.nd) (c.N ▸ h1) hy (sw_true hk hy z3 z4) p1 ok p3 p4 p5 p2)
      · cases h
    | _ => cases h4
def SS (B : Bx) (cal : Nat → List D → Res (D × List D)) (k : Nat) (sm : Sm) : Prop := ∀ sc X, Cok B cal k sc none X → PassesOwn (model X.prog X.w) X.A X.env X.xe →
  (∀ l, chkS B sc sm l = true → PSs X l (tS X (exS cal sm))) ∧ (∀ s, isSt sm = true → chkS B sc sm [s] = true → PS X s (tS X (exS cal sm)))
theorem SS.of {sm : Sm} (h1 : ∀ sc l, chkS B sc sm l = true → ∃ s, l = [s]) (h2 : ∀ sc X s, Cok B cal k sc none X → PassesOwn (model X.prog X.w) X.A X.env X.xe → chkS B sc sm [s] = true → PS X s (tS X (exS cal sm))) : SS B cal k sm := fun sc X c hp =>
  ⟨fun l h => by
    obtain ⟨s, rfl⟩ := h1 sc l h
    exact pss_one (h2 sc X s c hp h), fun s _ h => h2 sc X s c hp h⟩
theorem ss_all : ∀ sm : Sm, SS B cal k sm := by
  intro sm
  induction sm with
  | skip =>
    refine fun sc X c hp => ⟨fun l h => ?_, fun s h => by cases h⟩
    cases l with
    | nil => exact ss_skip
    | cons _ _ => simp [chkS] at h
  | seq a b iha ihb =>
    refine fun sc X c hp => ⟨fun l h => ?_, fun s h => by cases h⟩
    unfold chkS at h
    split at h
    · exact ss_frz ((ihb sc X c hp).1 l h)
    · exact ss_fgt ((ihb sc X c hp).1 l h)
    · split at h
      · obtain ⟨h, h3⟩ := and2 h
        obtain ⟨h1, h2⟩ := and2 h
        exact ss_seq ((iha sc X c hp).2 _ h1 h2) ((ihb sc X c hp).1 _ h3)
      · cases h
  | frz i => exact SS.of (fun sc l h => by simp [chkS] at h) (fun sc X s c hp h => by simp [chkS] at h)
  | fgt i => exact SS.of (fun sc l h => by simp [chkS] at h) (fun sc X s c hp h => by simp [chkS] at h)
  | whl n c' body ih =>
    refine SS.of (fun sc l h => by unfold chkS at h; split at h <;> first | exact ⟨_, rfl⟩ | cases h) (fun sc X s c hp h => ?_)
    unfold chkS at h
    split at h
    · rename_i x y pos heq
      cases heq
      obtain ⟨h1, h2⟩ := and2 h
      exact ss_whl hp ((so_all c').1 .tst sc none X _ c h1) ((ih sc X c hp).1 _ h2)
    · cases h
  | aug op i e =>
    refine SS.of (fun sc l h => by unfold chkS at h; split at h <;> first | exact ⟨_, rfl⟩ | cases h) (fun sc X s c hp h => ?_)
    unfold chkS at h
    split at h
    · rename_i x px o y pos heq
      cases heq
      have h5 := (and2 h).2
      replace h := (and2 h).1
      have h4 := (and2 h).2
      replace h := (and2 h).1
      have h3 := (and2 h).2
      replace h := (and2 h).1
      obtain ⟨h1, h2⟩ := and2 h
      have h1 : o = op := by simpa using h1
      have h3 : B.N[i]? = some x := by simpa using h3
      subst h1
      have hl : L2.Loc X.env.scope x ∧ (X.fn x = true ∨ X.env.scope.names.lookup x = some .local) := by
        rw [c.sc]
        unfold loc at h4
        unfold L2.Loc
        split at h4
        · rename_i e; exact ⟨.inl e, .inr e⟩
        · rename_i e; exact ⟨.inr e, .inl (c.fn x h4)⟩
        · cases h4
      exact ss_aug (by cases o <;> first | rfl | cases h2) (c.N ▸ c.nd) (c.N ▸ h3) hl.1 ((so_all e).1 .val sc none X _ c h5) hl.2
    · cases h
  | setF i c' f e =>
    refine SS.of (fun sc l h => by unfold chkS at h; split at h <;> first | exact ⟨_, rfl⟩ | cases h) (fun sc X s c hp h => ?_)
    unfold chkS at h
    split at h
    · rename_i x px g pg y pos heq
      cases heq
      have h4 := (and2 h).2
      replace h := (and2 h).1
      have h3 := (and2 h).2
      replace h := (and2 h).1
      obtain ⟨h1, h2⟩ := and2 h
      have h1 : g = f := by simpa using h1
      have h2 : (c', f) ∈ B.at_ := by simpa using h2
      subst h1
      obtain ⟨g1, g2, g3, g4⟩ := c.vis h3
      exact ss_setF g1 g2 g3 g4 (c.at_ _ _ h2).1 (c.at_ _ _ h2).2 ((so_all e).1 .val sc none X _ c h4)
    · cases h
  | rai c' e =>
    refine SS.of (fun sc l h => by unfold chkS at h; split at h <;> first | exact ⟨_, rfl⟩ | cases h) (fun sc X s c hp h => ?_)
    refine ss_never fun env => ?_
    show (∃ c d, ((ev cal e env).bind fun p => Res.exc c' p.1) = .exc c d) ∨ ((ev cal e env).bind fun p => Res.exc c' p.1) = .bad
    cases ev cal e env with
    | ok p => exact .inl ⟨_, _, rfl⟩
    | exc c d => exact .inl ⟨_, _, rfl⟩
    | bad => exact .inr rfl
  | asg tgt e =>
    refine SS.of (fun sc l h => by unfold chkS at h; split at h <;> first | exact ⟨_, rfl⟩ | cases h) (fun sc X s c hp h => ?_)
    unfold chkS at h
    split at h
    · rename_i tg x pos heq
      cases heq
      cases tgt with
      | var i =>
        cases tg with
        | Name y py =>
          have h4 := (and2 h).2
          replace h := (and2 h).1
          have h3 := (and2 h).2
          replace h := (and2 h).1
          obtain ⟨h1, h2⟩ := and2 h
          exact ss_asg (so_set c (by simpa using h1) h2 h3 h4)
        | _ => cases h
      | tup ts =>
        have h4 := (and2 h).2
        replace h := (and2 h).1
        have h3 := (and2 h).2
        replace h := (and2 h).1
        obtain ⟨h1, h2⟩ := and2 h
        have hg := (ge_all (.tup ts)).1 sc none X tg c h3
        cases tg with
        | Tuple es j p =>
          refine ss_asgT ((so_all e).1 .val sc none X x c h4) hg (by unfold swapsWithSole; exact swap_of h2 _ _ _) ?_ rfl
          cases x <;> first | rfl | cases h1
        | _ => simp [chkG] at h3
      | _ => cases h
    · cases h
  | par oa ob i j a b =>
    refine SS.of (fun sc l h => by unfold chkS at h; split at h <;> first | exact ⟨_, rfl⟩ | cases h) (fun sc X s c hp h => ?_)
    unfold chkS at h
    split at h
    · rename_i x px y py kt pt u v k2 pt2 pos heq
      cases heq
      obtain ⟨h, h10⟩ := and2 h
      obtain ⟨h, h9⟩ := and2 h
      obtain ⟨h, h8⟩ := and2 h
      obtain ⟨h, h7⟩ := and2 h
      obtain ⟨h, h6⟩ := and2 h
      obtain ⟨h, h5⟩ := and2 h
      obtain ⟨h, h4⟩ := and2 h
      obtain ⟨h, h3⟩ := and2 h
      obtain ⟨h1, h2⟩ := and2 h
      have h1 : B.N[i]? = some x := by simpa using h1
      have h2 : B.N[j]? = some y := by simpa using h2
      have h3 : i ≠ j := by simpa using h3
      have h8 : isStarE u = false := by simpa using h8
      have h9 : isStarE v = false := by simpa using h9
      obtain ⟨x1, x2⟩ := loc_of c h4
      obtain ⟨y1, y2⟩ := loc_of c h5
      have kx : ∀ z, X.env.kindOf z = sc.names.lookup z := fun z => by
        unfold Env.kindOf
        rw [c.sc]
      have hpa : ∀ {fr fr' : Bool}, PE X u (tR X fr (ev cal a)) → PE X v (tR X fr' (ev cal b)) → PA X [u, v] (tCons (tR X fr (ev cal a)) (tCons (tR X fr' (ev cal b)) tNil)) := fun p1 p2 =>
        pa_cons p1 (pa_cons p2 pa_nil (by cases v <;> first | rfl | cases h9)) (by cases u <;> first | rfl | cases h8)
      have pu : PE X u (tR X (frE a) (ev cal a)) := (so_all a).1 .val sc none X u c h6
      have pv : PE X v (tR X (frE b) (ev cal b)) := (so_all b).1 .val sc none X v c h7
      have key : ∀ {fr fr' : Bool} {f : En → Res Fl}, PE X u (tR X fr (ev cal a)) → PE X v (tR X fr' (ev cal b)) → (∀ env fr d e, f env ≠ .ok (.rt fr d e)) → (∀ (E : Ends) (σ : L2.St) (H : Hp), tS X f E σ H → tPar i j (tCons (tR X fr (ev cal a)) (tCons (tR X fr' (ev cal b)) tNil)) E σ H) → PS X (.Assign [.Tuple [.Name x px, .Name y py] kt pt] (.Tuple [u, v] k2 pt2) pos) (tS X f) := fun p1 p2 hf imp => by
        by_cases hxl : sc.names.lookup x = some .local
        · by_cases hyl : sc.names.lookup y = some .local
          · simp only [hxl, hyl, ne_eq, not_true_eq_false, decide_false, Bool.false_or, Bool.and_eq_true, Bool.not_eq_true'] at h10
            obtain ⟨⟨⟨q1, q2⟩, q3⟩, q4⟩ := h10
            exact psImp (ps_par c.calm (c.N ▸ c.nd) (c.N ▸ h1) (c.N ▸ h2) h3 (by rw [c.sc]; exact hxl) (by rw [c.sc]; exact hyl) (hpa p1 p2) (swap_yes (c.kd rfl) (by rw [kx]; exact hxl) (by rw [kx]; exact hyl) q1 q2 h8 h9 q3 q4)) imp
          · exact psImp (ps_parT c.calm (c.N ▸ c.nd) (c.N ▸ h1) (c.N ▸ h2) x1 y1 x2 y2 (hpa p1 p2) (swap_no (.inr (by rw [kx]; exact hyl)))) (parT_imp hf imp)
        · exact psImp (ps_parT c.calm (c.N ▸ c.nd) (c.N ▸ h1) (c.N ▸ h2) x1 y1 x2 y2 (hpa p1 p2) (swap_no (.inl (by rw [kx]; exact hxl)))) (parT_imp hf imp)
      have noRt : ∀ (g : D → D × En → Res Fl) (hg : ∀ d q fr e r, g d q ≠ .ok (.rt fr e r)) (env : En) fr d e, ((ev cal a env).bind fun p => (ev cal b p.2).bind fun q => g p.1 q) ≠ .ok (.rt fr d e) := fun g hg env fr d e z => by
        cases e1 : ev cal a env with
        | exc _ _ => rw [e1] at z; cases z
        | bad => rw [e1] at z; cases z
        | ok p =>
          rw [e1] at z
          have z : ((ev cal b p.2).bind fun q => g p.1 q) = .ok (.rt fr d e) := z
          cases e2 : ev cal b p.2 with
          | exc _ _ => rw [e2] at z; cases z
          | bad => rw [e2] at z; cases z
          | ok q => rw [e2] at z; exact hg _ _ _ _ _ z
      cases oa with
      | false =>
        cases ob with
        | false => exact key (peWeak pu) (peWeak pv) (noRt _ (fun d q fr e r => par_noD)) parD_imp
        | true =>
          cases hb : frE b with
          | true =>
            have e0 : exS cal (.par false true i j a b) = fun env => (ev cal a env).bind fun p => (ev cal b p.2).bind fun q => parDO i j p.1 q := by
              funext env
              simp [exS, parR, hb]
            rw [e0]
            rw [hb] at pv
            exact key (peWeak pu) pv (noRt _ (fun d q fr e r => par_noDO)) parDO_imp
          | false =>
            have e0 : exS cal (.par false true i j a b) = fun env => (ev cal a env).bind fun p => (ev cal b p.2).bind fun q => (fun _ _ => .bad : D → D × En → Res Fl) p.1 q := by
              funext env
              simp [exS, parR, hb]
            rw [e0]
            exact key (peWeak pu) (peWeak pv) (noRt (fun _ _ => .bad) (fun d q fr e r z => by cases z)) parB_imp
      | true =>
        cases ob with
        | false =>
          cases ha : frE a with
          | true =>
            have e0 : exS cal (.par true false i j a b) = fun env => (ev cal a env).bind fun p => (ev cal b p.2).bind fun q => parOD i j p.1 q := by
              funext env
              simp [exS, parR, ha]
            rw [e0]
            rw [ha] at pu
            exact key pu (peWeak pv) (noRt _ (fun d q fr e r => par_noOD)) parOD_imp
          | false =>
            have e0 : exS cal (.par true false i j a b) = fun env => (ev cal a env).bind fun p => (ev cal b p.2).bind fun q => (fun _ _ => .bad : D → D × En → Res Fl) p.1 q := by
              funext env
              simp [exS, parR, ha]
            rw [e0]
            exact key (peWeak pu) (peWeak pv) (noRt (fun _ _ => .bad) (fun d q fr e r z => by cases z)) parB_imp
        | true =>
          cases hab : (frE a && frE b) with
          | true =>
            have e0 : exS cal (.par true true i j a b) = fun env => (ev cal a env).bind fun p => (ev cal b p.2).bind fun q => parO i j p.1 q := by
              funext env
              simp [exS, parR, hab]
            rw [e0]
            obtain ⟨q1, q2⟩ := and2 hab
            rw [q1] at pu
            rw [q2] at pv
            exact key pu pv (noRt _ (fun d q fr e r => par_noO)) parO_imp
          | false =>
            have e0 : exS cal (.par true true i j a b) = fun env => (ev cal a env).bind fun p => (ev cal b p.2).bind fun q => (fun _ _ => .bad : D → D × En → Res Fl) p.1 q := by
              funext env
              simp [exS, parR, hab]
            rw [e0]
            exact key (peWeak pu) (peWeak pv) (noRt (fun _ _ => .bad) (fun d q fr e r z => by cases z)) parB_imp
    · cases h
  | asgO i e =>
    refine SS.of (fun sc l h => by unfold chkS at h; split at h <;> first | exact ⟨_, rfl⟩ | cases h) (fun sc X s c hp h => ?_)
    unfold chkS at h
    split at h
    · rename_i y py x pos heq
      cases heq
      have h4 := (and2 h).2
      replace h := (and2 h).1
      have h3 := (and2 h).2
      replace h := (and2 h).1
      obtain ⟨h1, h2⟩ := and2 h
      exact ss_asgO rfl (so_set c (by simpa using h1) h2 h3 h4)
    · cases h
  | app i e =>
    refine SS.of (fun sc l h => by unfold chkS at h; split at h <;> first | exact ⟨_, rfl⟩ | cases h) (fun sc X s c hp h => ?_)
    unfold chkS at h
    split at h
    · rename_i x pn at_ apos y cpos pos heq
      cases heq
      have h5 := (and2 h).2
      replace h := (and2 h).1
      have h4 := (and2 h).2
      replace h := (and2 h).1
      have h3 := (and2 h).2
      replace h := (and2 h).1
      obtain ⟨h1, h2⟩ := and2 h
      have h1 : at_ = "append" := by simpa using h1
      subst h1
      obtain ⟨g1, g2, g3, g4⟩ := c.vis h2
      exact ss_app g1 g2 g3 g4 ((so_all e).1 .val sc none X _ c h4) (NoStar.of h3 .nil) h5
    · cases h
  | ext i e =>
    refine SS.of (fun sc l h => by unfold chkS at h; split at h <;> first | exact ⟨_, rfl⟩ | cases h) (fun sc X s c hp h => ?_)
    unfold chkS at h
    split at h
    · rename_i x pn at_ apos y cpos pos heq
      cases heq
      have h5 := (and2 h).2
      replace h := (and2 h).1
      have h4 := (and2 h).2
      replace h := (and2 h).1
      have h3 := (and2 h).2
      replace h := (and2 h).1
      obtain ⟨h1, h2⟩ := and2 h
      have h1 : at_ = "extend" := by simpa using h1
      subst h1
      obtain ⟨g1, g2, g3, g4⟩ := c.vis h2
      exact ss_ext g1 g2 g3 g4 ((so_all e).1 .val sc none X _ c h4) (NoStar.of h3 .nil) h5
    · cases h
  | setI i k' e =>
    refine SS.of (fun sc l h => by unfold chkS at h; split at h <;> first | exact ⟨_, rfl⟩ | cases h) (fun sc X s c hp h => ?_)
    unfold chkS at h
    split at h
    · rename_i x pn y pt z pos heq
      cases heq
      have h5 := (and2 h).2
      replace h := (and2 h).1
      have h4 := (and2 h).2
      replace h := (and2 h).1
      have h3 := (and2 h).2
      replace h := (and2 h).1
      obtain ⟨h1, h2⟩ := and2 h
      obtain ⟨g1, g2, g3, g4⟩ := c.vis h1
      exact ss_setI c.hu g1 g2 g3 g4 ((so_all e).1 .val sc none X _ c h4) ((so_all k').1 .val sc none X _ c h3) (fun v => by cases y <;> first | rfl | cases h2) (by unfold swapsWithSole; exact swap_of h5 _ _ _) (by cases z <;> rfl) rfl
    · cases h
  | exp e =>
    refine SS.of (fun sc l h => by unfold chkS at h; split at h <;> first | exact ⟨_, rfl⟩ | cases h) (fun sc X s c hp h => ?_)
    unfold chkS at h
    split at h
    · rename_i x pos heq
      cases heq
      obtain ⟨h1, h2⟩ := and2 h
      exact ss_exp ((so_all e).1 .val sc none X _ c h2) (swap_of h1 _ _ _)
    · cases h
  | ret e =>
    refine SS.of (fun sc l h => by unfold chkS at h; split at h <;> first | exact ⟨_, rfl⟩ | cases h) (fun sc X s c hp h => ?_)
    unfold chkS at h
    split at h
    · rename_i x pos heq
      cases heq
      exact ss_ret ((so_all e).1 .val sc none X _ c h)
    · cases h
  | retO i =>
    refine SS.of (fun sc l h => by unfold chkS at h; split at h <;> first | exact ⟨_, rfl⟩ | cases h) (fun sc X s c hp h => ?_)
    unfold chkS at h
    split at h
    · rename_i x pn pos heq
      cases heq
      obtain ⟨g1, g2, g3, g4⟩ := c.vis h
      exact ss_retO g1 g2 g3 g4
    · cases h
  | retN =>
    refine SS.of (fun sc l h => by unfold chkS at h; split at h <;> first | exact ⟨_, rfl⟩ | cases h) (fun sc X s c hp h => ?_)
    unfold chkS at h
    split at h
    · rename_i pos heq
      cases heq
      exact ss_retN
    · cases h
  | ite c' a b iha ihb =>
    refine SS.of (fun sc l h => by unfold chkS at h; split at h <;> first | exact ⟨_, rfl⟩ | cases h) (fun sc X s c hp h => ?_)
    unfold chkS at h
    split at h
    · rename_i x y z pos heq
      cases heq
      have h3 := (and2 h).2
      replace h := (and2 h).1
      obtain ⟨h1, h2⟩ := and2 h
      exact ss_ite ((so_all c').1 .tst sc none X _ c h1) ((iha sc X c hp).1 _ h2) ((ihb sc X c hp).1 _ h3)
    · cases h
  | «for» tgt iter body ih =>
    refine SS.of (fun sc l h => by unfold chkS at h; split at h <;> first | exact ⟨_, rfl⟩ | cases h) (fun sc X s c hp h => ?_)
    unfold chkS at h
    split at h
    · rename_i tg it y pos heq
      cases heq
      have h3 := (and2 h).2
      replace h := (and2 h).1
      obtain ⟨h1, h2⟩ := and2 h
      have q := (so_all iter).1 .itr sc none X _ c h2
      exact ss_forR c.calm hp (q.1 tg) ((ge_all tgt).1 sc none X tg c h1) ((ih sc X c hp).1 _ h3) q.2
    · cases h
end
end Dm
set_option Elab.async false
set_option linter.all false
set_option maxRecDepth 100000
set_option maxHeartbeats 1000000
namespace Dm
open PySem PySem.Spec PyProof.Rows L2
def tabOf (fs : List Fn) : Tab := fun i => fs[i]?
/-- what is told of a def: where it stands, its text -/
structure DefOk (K : PySem.W.Frag) (mg : Str → Option Value) (nm : List Pl) (fs : List Fn) (con : List (Str × Cv)) (at_ : List (Nat × Str)) (fn : Fn) (p : Pl) : Prop where
  ex : ∃ (a : Addr) (fd : FuncData) (ps N : List Str) (x qual : Str) (params : Arguments) (body : List Stmt) (scope : Scope) (dvs : List V) (kws : List (Str × V)), PlAt K mg p a fd ps ∧ FunD K x qual params body scope dvs kws a fd ∧ FnScope N ps scope ∧
    ps.length = fn.ks.length ∧ N.length = fn.ns ∧ fn.ks.length ≤ fn.ns ∧ chkS ⟨N, nm, fs, con, at_⟩ scope fn.body body = true
theorem spF_bad {K : PySem.W.Frag} {cl : Nat → Addr} {ks : List Pk} {fresh : Bool} {r : List D → Res (D × List D)} {vs : List V} {H : Hp} {Q : VK} {E : XK} (hr : ∀ ds, r ds = .bad) (h : spF K cl ks fresh r vs H Q E) : False := by
  obtain ⟨C, ds, _, _, _, _, _, h⟩ := h
  rw [hr ds] at h
  exact h
theorem bk_of {sc : Scope} {env : PySem.Env} (h : sc.kind = .function) (e : env.scope = sc := by rfl) : env.blockKind = .function := by
  unfold Env.blockKind
  rw [e, h]
  rfl
theorem fn_one {P : Program} {w : World} {K : PySem.W.Frag} {mg : Str → Option Value} {base : Heap} {nm : List Pl} {fs : List Fn} {con : List (Str × Cv)} {at_ : List (Nat × Str)} {n f : Nat} {fn : Fn} {x : Str} {a : Addr} {fd : FuncData} {ps N : List Str} {qual : Str} {params : Arguments} {body : List Stmt} {scope : Scope} {dvs : List V} {kws : List (Str × V)} (nb : ∀ x ∈ blts, mg x = none) (hc : ∀ x c, con.lookup x = some c → ∃ u, mg x = some u ∧ RelV c.v u) (hat : ∀ c f, (c, f) ∈ at_ → Cls K (clOf K c) ∧ NoAttr K (clOf K c) f)
    (ih : ∀ (f : Nat) fn p, fs[f]? = some fn → nm[f]? = some p → p ≠ .abs → ∃ a fd ps, PlAt K mg p a fd ps ∧ FnG P w K mg base (2 * n) a fd ps (spF K (clOf K) fn.ks fn.fresh (calF (tabOf fs) n f)))
    (h1 : fs[f]? = some fn) (F : FunD K x qual params body scope dvs kws a fd) (S : FnScope N ps scope) (l1 : ps.length = fn.ks.length) (l2 : N.length = fn.ns) (l3 : fn.ks.length ≤ fn.ns) (ck : chkS ⟨N, nm, fs, con, at_⟩ scope fn.body body = true) :
    FnG P w K mg base (2 * n + 1 + 1) a fd ps (spF K (clOf K) fn.ks fn.fresh (calF (tabOf fs) (n + 1) f)) := by
  refine ok_G F S (fun vs H Q E h => ?_) (fun cdv A outer s H vs Q E hr gd h => ?_)
  · obtain ⟨C, ds, lv, _⟩ := h
    rw [lv, l1]
  · have ck' : Cok ⟨N, nm, fs, con, at_⟩ (calF (tabOf fs) n) (2 * n) scope none (cxOf CX0 P w K mg base N qual scope a cdv A outer s H E) := ⟨rfl, S.nd, rfl, fun _ _ => rfl, rfl, nb, hc, hr, gd, fun _ => bk_of S.kind, ih, hat⟩
    have hp : PassesOwn (model (cxOf CX0 P w K mg base N qual scope a cdv A outer s H E).prog (cxOf CX0 P w K mg base N qual scope a cdv A outer s H E).w) (cxOf CX0 P w K mg base N qual scope a cdv A outer s H E).A (cxOf CX0 P w K mg base N qual scope a cdv A outer s H E).env (cxOf CX0 P w K mg base N qual scope a cdv A outer s H E).xe := passes_of rfl
    refine ⟨tS (cxOf CX0 P w K mg base N qual scope a cdv A outer s H E) (exS (calF (tabOf fs) n) fn.body), ((ss_all fn.body) scope _ ck' hp).1 body ck, ?_⟩
    have e : calF (tabOf fs) (n + 1) f = runF (calF (tabOf fs) n) fn := by
      funext ds
      show (match fs[f]? with
        | some fn => runF (calF (tabOf fs) n) fn ds
        | none => .bad) = _
      rw [h1]
    rw [e] at h
    exact sp_body (cl := clOf K) rfl rfl rfl l2 l3 h
theorem fns_ok {P : Program} {w : World} {K : PySem.W.Frag} {mg : Str → Option Value} {base : Heap} {nm : List Pl} {fs : List Fn} {con : List (Str × Cv)} {at_ : List (Nat × Str)} (nb : ∀ x ∈ blts, mg x = none) (hc : ∀ x c, con.lookup x = some c → ∃ u, mg x = some u ∧ RelV c.v u) (hat : ∀ c f, (c, f) ∈ at_ → Cls K (clOf K c) ∧ NoAttr K (clOf K c) f)
    (hd : ∀ (f : Nat) fn p, fs[f]? = some fn → nm[f]? = some p → p ≠ .abs → DefOk K mg nm fs con at_ fn p) : ∀ n : Nat, ∀ (f : Nat) fn p, fs[f]? = some fn → nm[f]? = some p → p ≠ .abs → ∃ a fd ps, PlAt K mg p a fd ps ∧ FnG P w K mg base (2 * n) a fd ps (spF K (clOf K) fn.ks fn.fresh (calF (tabOf fs) n f))
  | 0, f, fn, p, h1, h2, h3 => by
    obtain ⟨a, fd, ps, N, x, qual, params, body, scope, dvs, kws, e1, F, S, l1, l2, l3, ck⟩ := (hd f fn p h1 h2 h3).ex
    exact ⟨a, fd, ps, e1, ⟨fun vs H Q E h => (spF_bad (fun _ => rfl) h).elim, fun A outer s H args us vs Q E _ _ _ _ _ h => (spF_bad (fun _ => rfl) h).elim⟩⟩
  | n + 1, f, fn, p, h1, h2, h3 => by
    have ih := fns_ok (P := P) (w := w) (base := base) nb hc hat hd n
    obtain ⟨a, fd, ps, N, x, qual, params, body, scope, dvs, kws, e1, F, S, l1, l2, l3, ck⟩ := (hd f fn p h1 h2 h3).ex
    exact ⟨a, fd, ps, e1, fn_one nb hc hat ih h1 F S l1 l2 l3 ck⟩
/-- of a heap that holds, what its objects' sizes are need not be told -/
theorem fn_hl {P : Program} {w : World} {K : PySem.W.Frag} {mg : Str → Option Value} {base : Heap} {k : Nat} {f : Addr} {fd : FuncData} {ps : List Str} {sp : Sp} (F : FnG P w K mg base k f fd ps sp) :
    FnG P w K mg base k f fd ps (fun vs H Q E => vs.length = ps.length ∧ (HL H → sp vs H Q E)) :=
  ⟨fun vs H Q E h => h.1, fun A outer s H args us vs Q E hr gd e0 hb hv h => F.runG A outer s H args us vs Q E hr gd e0 hb hv (h.2 (hl_of e0.hok))⟩
/-- the law's def: from its answers to its promise -/
theorem law_sp {K : PySem.W.Frag} {H : Hp} {a : Addr} {ns : List Int} {r : List D → Res (D × List D)} (hS : SqL K H a (ns.map V.int)) (hz : HL H) (hr : r [.scr ns] = .ok (.bl true, [])) :
    spF K (clOf K) [.dat] false r [.ref a] H (fun v _ => v = .bl true) fun _ _ _ => False := by
  have noIO : ∀ b, ¬ IOof [.dat] [V.ref a] b := fun b ⟨i, h, _⟩ => by
    cases i with
    | zero => simp at h
    | succ i => simp at h
  refine ⟨fun _ => False, [.scr ns], rfl, .dat (.scr (hS.imp (fun r => ⟨r, fun z => z.elim id (noIO a)⟩) id)) .nil, fun i j b h => ?_, hz, fun _ z => z.elim, ?_⟩
  · cases i with
    | zero => simp at h
    | succ i => simp at h
  · rw [hr]
    intro v H' _ _ _ _ rv _
    cases rv
    rfl
/-- the defs, one by one -/
inductive DefsOk (K : PySem.W.Frag) (mg : Str → Option Value) (nm : List Pl) (fs : List Fn) (con : List (Str × Cv)) (at_ : List (Nat × Str)) : List Fn → List Pl → Prop
  | nil : DefsOk K mg nm fs con at_ [] []
  | cons {fn : Fn} {x : Pl} {l : List Fn} {xs : List Pl} : DefOk K mg nm fs con at_ fn x → DefsOk K mg nm fs con at_ l xs → DefsOk K mg nm fs con at_ (fn :: l) (x :: xs)
  | abs {fn : Fn} {l : List Fn} {xs : List Pl} : DefsOk K mg nm fs con at_ l xs → DefsOk K mg nm fs con at_ (fn :: l) (.abs :: xs)
theorem DefsOk.get {K : PySem.W.Frag} {mg : Str → Option Value} {nm : List Pl} {fs : List Fn} {con : List (Str × Cv)} {at_ : List (Nat × Str)} : ∀ {l : List Fn} {xs : List Pl}, DefsOk K mg nm fs con at_ l xs → ∀ (f : Nat) fn x, l[f]? = some fn → xs[f]? = some x → x ≠ .abs → DefOk K mg nm fs con at_ fn x
  | _, _, .nil, f, fn, x, h, _, _ => by simp at h
  | _, _, .cons d q, 0, fn, x, h, h', _ => by
    simp at h h'
    subst h h'
    exact d
  | _, _, .cons d q, f + 1, fn, x, h, h', n => DefsOk.get q f fn x (by simpa using h) (by simpa using h') n
  | _, _, .abs q, 0, fn, x, h, h', n => by
    simp at h h'
    exact absurd h'.symm n
  | _, _, .abs q, f + 1, fn, x, h, h', n => DefsOk.get q f fn x (by simpa using h) (by simpa using h') n
theorem con_get {mg : Str → Option Value} : ∀ {con : List (Str × Cv)}, (∀ p ∈ con, ∃ u, mg p.1 = some u ∧ RelV p.2.v u) → ∀ x c, con.lookup x = some c → ∃ u, mg x = some u ∧ RelV c.v u
  | [], _, x, c, h => by cases h
  | (y, d) :: r, g, x, c, h => by
    rw [List.lookup_cons] at h
    cases e : x == y with
    | true =>
      simp only [e] at h
      cases h
      have := g (y, d) (List.mem_cons_self ..)
      rw [eq_of_beq e]
      exact this
    | false =>
      simp only [e] at h
      exact con_get (fun p hp => g p (List.mem_cons_of_mem _ hp)) x c h
theorem law_all {P : Program} {w : World} {K : PySem.W.Frag} {mg : Str → Option Value} {nm : List Pl} {fs : List Fn} {con : List (Str × Cv)} {at_ : List (Nat × Str)} {n L : Nat} {fn : Fn} {x y : Str} {fa : Addr} {fd : FuncData} {N : List Str} {qual : Str} {params : Arguments} {body : List Stmt} {scope : Scope} {m : Nat} (nb : ∀ x ∈ blts, mg x = none) (hc : ∀ p ∈ con, ∃ u, mg p.1 = some u ∧ RelV p.2.v u) (hat : ∀ c f, (c, f) ∈ at_ → Cls K (clOf K c) ∧ NoAttr K (clOf K c) f) (hd : DefsOk K mg nm fs con at_ fs nm)
    (h1 : fs[L]? = some fn) (hk : fn.ks = [.dat]) (hf : fn.fresh = false) (F : FunD K x qual params body scope [] [] fa fd) (S : FnScope N [y] scope) (l2 : N.length = fn.ns) (l3 : 1 ≤ fn.ns) (ck : chkS ⟨N, nm, fs, con, at_⟩ scope fn.body body = true)
    (ans : ∀ ns : List Int, ns.length ≤ m → calF (tabOf fs) (n + 1) L [.scr ns] = .ok (.bl true, [])) :
    ∃ sp : Sp, (∀ (H : Hp) (a : Addr) (ns : List Int), ns.length ≤ m → Only H → SqL K H a (ns.map V.int) → sp [.ref a] H (fun v _ => v = .bl true) fun _ _ _ => False) ∧ ∀ base : Heap, FnG P w K mg base (2 * n + 1 + 1) fa fd [y] sp := by
  have hc' := con_get hc
  refine ⟨fun vs H Q E => vs.length = [y].length ∧ (HL H → spF K (clOf K) [.dat] false (calF (tabOf fs) (n + 1) L) vs H Q E), fun H a ns hl _ hS => ⟨rfl, fun hz => law_sp hS hz (ans ns hl)⟩, fun base => fn_hl ?_⟩
  have := fn_one (P := P) (w := w) (base := base) nb hc' hat (fns_ok nb hc' hat hd.get n) h1 F S (by rw [hk]; rfl) l2 (by rw [hk]; exact l3) ck
  rw [hk, hf] at this
  exact this
end Dm
set_option Elab.async false
set_option linter.all false
set_option maxRecDepth 100000
set_option maxHeartbeats 0
namespace K70
open PySem Dm
/-- is_word -/
def f0 : Fn := { ks := [.dat], ns := 2, fresh := false, body :=
    (.seq (.ite (.or (.not (.isi (.var 0) ["str"])) (.not (.chn .LtE .LtE (.cI 1) (.blt .len (.cons (.var 0) .nil)) (.con "MOST_LETTERS" (.int 8)))))
    (.seq (.ret (.cB false))
    .skip)
    .skip)
    (.seq (.ret (.blt .all (.cons (.comp (.cmp .In (.var 1) (.con "LETTERS" (.str ⟨⟨[97, 98, 99, 100, 101, 102, 103, 104, 105, 106, 107, 108, 109, 110, 111, 112, 113, 114, 115, 116, 117, 118, 119, 120, 121, 122]⟩⟩))) (.var 1) (.var 0) (.cB true) [1]) .nil)))
    .skip)) }
/-- is_row -/
def f1 : Fn := { ks := [.dat], ns := 1, fresh := false, body :=
    (.seq (.ret (.isi (.var 0) ["list", "tuple"]))
    .skip) }
/-- are_unlike -/
def f2 : Fn := { ks := [.dat], ns := 2, fresh := false, body :=
    (.seq (.ret (.cmp .Eq (.blt .len (.cons (.dcmp (.var 1) (.cB true) (.var 1) (.var 0) [1]) .nil)) (.blt .len (.cons (.var 0) .nil))))
    .skip) }
/-- are_words -/
def f3 : Fn := { ks := [.dat, .dat, .dat], ns := 4, fresh := false, body :=
    (.seq (.ite (.or (.not (.cal 1 (.cons (.var 0) .nil) false)) (.or (.not (.chn .LtE .LtE (.var 1) (.blt .len (.cons (.var 0) .nil)) (.var 2))) (.not (.blt .all (.cons (.comp (.cal 0 (.cons (.var 3) .nil) false) (.var 3) (.var 0) (.cB true) [3]) .nil)))))
    (.seq (.ret (.cB false))
    .skip)
    .skip)
    (.seq (.ret (.cal 2 (.cons (.var 0) .nil) false))
    .skip)) }
/-- is_build_of -/
def f4 : Fn := { ks := [.dat, .dat], ns := 3, fresh := false, body :=
    (.seq (.ite (.or (.not (.isi (.var 1) ["tuple"])) (.not (.blt .all (.cons (.comp (.cal 0 (.cons (.var 2) .nil) false) (.var 2) (.var 1) (.cB true) [2]) .nil))))
    (.seq (.ret (.cB false))
    .skip)
    .skip)
    (.seq (.ret (.cmp .Eq (.var 1) (.blt .tuple (.cons (.comp (.var 2) (.var 2) (.var 0) (.cmp .In (.var 2) (.var 1)) [2]) .nil))))
    .skip)) }
/-- is_triple -/
def f5 : Fn := { ks := [.dat, .dat], ns := 2, fresh := false, body :=
    (.seq (.ite (.or (.not (.isi (.var 1) ["tuple"])) (.or (.cmp .NotEq (.blt .len (.cons (.var 1) .nil)) (.cI 3)) (.not (.cal 4 (.cons (.var 0) (.cons (.sub (.var 1) (.cI 0)) .nil)) false))))
    (.seq (.ret (.cB false))
    .skip)
    .skip)
    (.seq (.ret (.and (.cal 0 (.cons (.sub (.var 1) (.cI 1)) .nil) false) (.and (.cmp .In (.sub (.var 1) (.cI 1)) (.var 0)) (.and (.cmp .NotIn (.sub (.var 1) (.cI 1)) (.sub (.var 1) (.cI 0))) (.isi (.sub (.var 1) (.cI 2)) ["bool"])))))
    .skip)) }
/-- look_at_names -/
def f6 : Fn := { ks := [.dat], ns := 1, fresh := false, body :=
    (.seq (.ite (.not (.cal 3 (.cons (.var 0) (.cons (.cI 1) (.cons (.con "MOST_SKILLS" (.int 12)) .nil))) false))
    (.seq (.rai 0 .cN)
    .skip)
    .skip)
    .skip) }
/-- are_triples -/
def f7 : Fn := { ks := [.dat, .dat], ns := 3, fresh := false, body :=
    (.seq (.ret (.and (.cal 1 (.cons (.var 1) .nil) false) (.blt .all (.cons (.comp (.cal 5 (.cons (.var 0) (.cons (.var 2) .nil)) false) (.var 2) (.var 1) (.cB true) [2]) .nil))))
    .skip) }
/-- look_at_seen -/
def f8 : Fn := { ks := [.dat, .dat], ns := 2, fresh := false, body :=
    (.seq (.exp (.cal 6 (.cons (.var 0) .nil) false))
    (.seq (.ite (.not (.cal 7 (.cons (.var 0) (.cons (.var 1) .nil)) false))
    (.seq (.rai 0 .cN)
    .skip)
    .skip)
    .skip)) }
/-- most_wanted -/
def f9 : Fn := { ks := [.dat, .dat, .dat], ns := 8, fresh := true, body :=
    (.seq (.asg (.var 3) (.comp (.var 4) (.tup (.cons (.var 4) (.cons (.var 5) (.cons (.var 6) .nil)))) (.var 1) (.and (.cmp .Eq (.var 5) (.var 2)) (.var 6)) [4, 5, 6]))
    (.seq (.ret (.blt .tuple (.cons (.comp (.var 7) (.var 7) (.var 0) (.and (.cmp .NotEq (.var 7) (.var 2)) (.blt .all (.cons (.comp (.cmp .In (.var 7) (.var 4)) (.var 4) (.var 3) (.cB true) [4]) .nil))) [7]) .nil)))
    .skip)) }
/-- refused_rows -/
def f10 : Fn := { ks := [.dat, .dat, .dat], ns := 8, fresh := true, body :=
    (.seq (.asg (.var 3) (.cal 9 (.cons (.var 0) (.cons (.var 1) (.cons (.var 2) .nil))) true))
    (.seq (.ret (.comp (.comp (.var 4) (.var 4) (.var 3) (.cmp .NotIn (.var 4) (.var 5)) [4]) (.tup (.cons (.var 5) (.cons (.var 6) (.cons (.var 7) .nil)))) (.var 1) (.and (.cmp .Eq (.var 6) (.var 2)) (.not (.var 7))) [5, 6, 7]))
    .skip)) }
/-- is_explained -/
def f11 : Fn := { ks := [.dat, .dat], ns := 3, fresh := false, body :=
    (.seq (.ret (.not (.blt .any (.cons (.comp (.cmp .In (.lst .nil) (.cal 10 (.cons (.var 0) (.cons (.var 1) (.cons (.var 2) .nil))) true)) (.var 2) (.var 0) (.cB true) [2]) .nil))))
    .skip) }
/-- greatest_wants -/
def f12 : Fn := { ks := [.dat, .dat], ns := 3, fresh := false, body :=
    (.seq (.exp (.cal 8 (.cons (.var 0) (.cons (.var 1) .nil)) false))
    (.seq (.ite (.not (.cal 11 (.cons (.var 0) (.cons (.var 1) .nil)) false))
    (.seq (.ret .cN)
    .skip)
    .skip)
    (.seq (.ret (.dcmp (.var 2) (.cal 9 (.cons (.var 0) (.cons (.var 1) (.cons (.var 2) .nil))) true) (.var 2) (.var 0) [2]))
    .skip))) }
/-- look_at_question -/
def f13 : Fn := { ks := [.dat, .dat, .dat], ns := 3, fresh := false, body :=
    (.seq (.exp (.cal 8 (.cons (.var 0) (.cons (.var 1) .nil)) false))
    (.seq (.ite (.or (.not (.cal 0 (.cons (.var 2) .nil) false)) (.cmp .NotIn (.var 2) (.var 0)))
    (.seq (.rai 0 .cN)
    .skip)
    .skip)
    .skip)) }
/-- must -/
def f14 : Fn := { ks := [.dat, .dat, .dat], ns := 5, fresh := true, body :=
    (.seq (.exp (.cal 13 (.cons (.var 0) (.cons (.var 1) (.cons (.var 2) .nil))) false))
    (.seq (.ite (.not (.cal 11 (.cons (.var 0) (.cons (.var 1) .nil)) false))
    (.seq (.ret (.lst .nil))
    .skip)
    .skip)
    (.seq (.asg (.var 3) (.cal 10 (.cons (.var 0) (.cons (.var 1) (.cons (.var 2) .nil))) true))
    (.seq (.ret (.comp (.var 4) (.var 4) (.var 0) (.cmp .In (.lst (.cons (.var 4) .nil)) (.var 3)) [4]))
    .skip)))) }
/-- may -/
def f15 : Fn := { ks := [.dat, .dat, .dat], ns := 3, fresh := false, body :=
    (.seq (.exp (.cal 13 (.cons (.var 0) (.cons (.var 1) (.cons (.var 2) .nil))) false))
    (.seq (.ret (.ife (.cal 11 (.cons (.var 0) (.cons (.var 1) .nil)) false) (.blt .list (.cons (.cal 9 (.cons (.var 0) (.cons (.var 1) (.cons (.var 2) .nil))) true) .nil)) (.lst .nil)))
    .skip)) }
/-- next_ask -/
def f16 : Fn := { ks := [.dat, .dat, .dat], ns := 3, fresh := false, body :=
    (.seq (.ret (.cmp .NotEq (.cal 15 (.cons (.var 0) (.cons (.var 1) (.cons (.var 2) .nil))) false) (.cal 14 (.cons (.var 0) (.cons (.var 1) (.cons (.var 2) .nil))) true)))
    .skip) }
/-- _law_pool -/
def f17 : Fn := { ks := [.dat, .dat], ns := 5, fresh := true, body :=
    (.seq (.asg (.var 2) (.cI 0))
    (.seq (.ite (.cmp .Lt (.var 1) (.blt .len (.cons (.var 0) .nil)))
    (.seq (.asg (.var 2) (.sub (.var 0) (.var 1)))
    .skip)
    .skip)
    (.seq (.asg (.var 3) (.blt .max2 (.cons (.blt .int (.cons (.var 2) .nil)) (.cons (.blt .int (.cons (.bin .Sub (.neg (.cI 1)) (.var 2)) .nil)) .nil))))
    (.seq (.asg (.var 4) (.bin .Mod (.blt .int (.cons (.bin .Mult (.bin .Add (.bin .Add (.bin .Add (.bin .Mod (.blt .int (.cons (.var 3) .nil)) (.cI 2147483629)) (.bin .Mult (.bin .Mult (.cI 7919) (.var 1)) (.var 1))) (.bin .Mult (.cI 31) (.var 1))) (.cI 17)) (.cI 48271)) .nil)) (.cI 2147483647)))
    (.seq (.ret (.lst (.cons (.bin .Mult (.var 3) (.blt .int (.cons (.cmp .GtE (.var 3) (.bin .Pow (.cI 10) (.cI 18))) .nil))) (.cons (.var 4) .nil))))
    .skip))))) }
/-- _law_take -/
def f18 : Fn := { ks := [.io, .dat], ns := 3, fresh := false, body :=
    (.seq (.ite (.cmp .Gt (.subP 0 (.cI 0)) (.cI 0))
    (.seq (.asg (.var 2) (.bin .Mod (.blt .int (.cons (.subP 0 (.cI 0)) .nil)) (.var 1)))
    (.seq (.setI 0 (.cI 0) (.bin .FloorDiv (.subP 0 (.cI 0)) (.var 1)))
    (.seq (.ret (.var 2))
    .skip)))
    .skip)
    (.seq (.setI 0 (.cI 1) (.bin .Mod (.blt .int (.cons (.bin .Add (.bin .Mult (.subP 0 (.cI 1)) (.cI 39373)) (.cI 7)) .nil)) (.cI 2147483647)))
    (.seq (.ret (.bin .Mod (.blt .int (.cons (.bin .FloorDiv (.bin .Mod (.blt .int (.cons (.bin .Mult (.subP 0 (.cI 1)) (.subP 0 (.cI 1))) .nil)) (.cI 2147483629)) (.cI 32)) .nil)) (.var 1)))
    .skip))) }
/-- _law_one -/
def f19 : Fn := { ks := [.io, .dat], ns := 2, fresh := false, body :=
    (.seq (.ret (.sub (.var 1) (.cal 18 (.cons (.ioA 0) (.cons (.blt .len (.cons (.var 1) .nil)) .nil)) false)))
    .skip) }
/-- _law_told_names -/
def f20 : Fn := { ks := [.io, .dat], ns := 3, fresh := true, body :=
    (.seq (.asg (.var 2) (.cal 19 (.cons (.ioA 0) (.cons (.lst (.cons (.lst (.cons (.cS ⟨⟨[97]⟩⟩) (.cons (.cS ⟨⟨[98]⟩⟩) (.cons (.cS ⟨⟨[99]⟩⟩) (.cons (.cS ⟨⟨[100]⟩⟩) .nil))))) (.cons (.lst (.cons (.cS ⟨⟨[122]⟩⟩) (.cons (.cS ⟨⟨[97, 98, 99, 100, 101, 102, 103, 104]⟩⟩) (.cons (.cS ⟨⟨[97]⟩⟩) (.cons (.cS ⟨⟨[98]⟩⟩) .nil))))) (.cons (.lst (.cons (.cS ⟨⟨[100]⟩⟩) (.cons (.cS ⟨⟨[99]⟩⟩) (.cons (.cS ⟨⟨[98]⟩⟩) (.cons (.cS ⟨⟨[97]⟩⟩) .nil))))) .nil)))) .nil)) false))
    (.seq (.ret (.blt .tuple (.cons (.slc (.var 2) .nil (.bin .Add (.cI 1) (.cal 18 (.cons (.ioA 0) (.cons (.var 1) .nil)) false))) .nil)))
    .skip)) }
/-- _law_parts -/
def f21 : Fn := { ks := [.dat], ns := 4, fresh := false, body :=
    (.seq (.asg (.var 1) (.lst (.cons (.tup .nil) .nil)))
    (.seq (.for (.var 2) (.var 0)
    (.seq (.asg (.var 1) (.bin .Add (.var 1) (.comp (.bin .Add (.var 3) (.tup (.cons (.var 2) .nil))) (.var 3) (.var 1) (.cB true) [3])))
    (.seq (.fgt 2)
    .skip)))
    (.seq (.ret (.var 1))
    .skip))) }
/-- _law_answers -/
def f22 : Fn := { ks := [.io, .dat, .dat], ns := 11, fresh := true, body :=
    (.seq (.asgO 3 .dic0)
    (.seq (.for (.var 4) (.var 1)
    (.seq (.setI 3 (.var 4) (.cal 19 (.cons (.ioA 0) (.cons (.cal 21 (.cons (.comp (.var 10) (.var 10) (.var 1) (.cmp .NotEq (.var 10) (.var 4)) [10]) .nil) false) .nil)) false))
    .skip))
    (.seq (.asgO 5 (.lst .nil))
    (.seq (.for (.var 6) (.rng (.var 2))
    (.seq (.asg (.var 7) (.cal 19 (.cons (.ioA 0) (.cons (.var 1) .nil)) false))
    (.seq (.asg (.var 8) (.cal 19 (.cons (.ioA 0) (.cons (.cal 21 (.cons (.comp (.var 10) (.var 10) (.var 1) (.cmp .NotEq (.var 10) (.var 7)) [10]) .nil) false) .nil)) false))
    (.seq (.asg (.var 9) (.cmp .Eq (.comp (.var 4) (.var 4) (.subP 3 (.var 7)) (.cmp .NotIn (.var 4) (.var 8)) [4]) (.lst .nil)))
    (.seq (.app 5 (.tup (.cons (.var 8) (.cons (.var 7) (.cons (.ife (.cmp .Gt (.cal 18 (.cons (.ioA 0) (.cons (.cI 12) .nil)) false) (.cI 0)) (.var 9) (.not (.var 9))) .nil)))))
    .skip)))))
    (.seq (.retO 5)
    .skip))))) }
/-- _law_fitting -/
def f23 : Fn := { ks := [.dat, .dat, .dat], ns := 9, fresh := false, body :=
    (.seq (.asg (.var 3) (.lst .nil))
    (.seq (.for (.var 4) (.cal 21 (.cons (.comp (.var 6) (.var 6) (.var 0) (.cmp .NotEq (.var 6) (.var 2)) [6]) .nil) false)
    (.seq (.asg (.var 5) (.comp (.var 7) (.var 7) (.var 1) (.and (.cmp .Eq (.sub (.var 7) (.cI 1)) (.var 2)) (.cmp .NotEq (.sub (.var 7) (.cI 2)) (.cmp .Eq (.comp (.var 8) (.var 8) (.var 4) (.cmp .NotIn (.var 8) (.sub (.var 7) (.cI 0))) [8]) (.lst .nil)))) [7]))
    (.seq (.asg (.var 3) (.bin .Add (.var 3) (.bin .Mult (.lst (.cons (.var 4) .nil)) (.blt .int (.cons (.cmp .Eq (.var 5) (.lst .nil)) .nil)))))
    (.seq (.fgt 4)
    (.seq (.fgt 5)
    .skip)))))
    (.seq (.ret (.var 3))
    .skip))) }
/-- _law_union -/
def f24 : Fn := { ks := [.dat, .dat], ns := 4, fresh := true, body :=
    (.seq (.ret (.comp (.var 2) (.var 2) (.var 0) (.cmp .NotEq (.comp (.var 3) (.var 3) (.var 1) (.cmp .In (.var 2) (.var 3)) [3]) (.lst .nil)) [2]))
    .skip) }
/-- _law_common -/
def f25 : Fn := { ks := [.dat, .dat], ns := 4, fresh := true, body :=
    (.seq (.ret (.comp (.var 2) (.var 2) (.var 0) (.cmp .Eq (.comp (.var 3) (.var 3) (.var 1) (.cmp .NotIn (.var 2) (.var 3)) [3]) (.lst .nil)) [2]))
    .skip) }
/-- _law_twelve -/
def f26 : Fn := { ks := [], ns := 2, fresh := false, body :=
    (.seq (.asg (.var 0) (.lst (.cons (.cS ⟨⟨[97]⟩⟩) (.cons (.cS ⟨⟨[98]⟩⟩) (.cons (.cS ⟨⟨[99]⟩⟩) (.cons (.cS ⟨⟨[100]⟩⟩) (.cons (.cS ⟨⟨[101]⟩⟩) (.cons (.cS ⟨⟨[102]⟩⟩) (.cons (.cS ⟨⟨[103]⟩⟩) (.cons (.cS ⟨⟨[104]⟩⟩) (.cons (.cS ⟨⟨[105]⟩⟩) (.cons (.cS ⟨⟨[106]⟩⟩) (.cons (.cS ⟨⟨[107]⟩⟩) (.cons (.cS ⟨⟨[108]⟩⟩) .nil))))))))))))))
    (.seq (.asg (.var 1) (.lst (.cons (.tup (.cons (.blt .tuple (.cons (.slc (.var 0) .nil (.cI 6)) .nil)) (.cons (.cS ⟨⟨[108]⟩⟩) (.cons (.cB true) .nil)))) (.cons (.tup (.cons (.blt .tuple (.cons (.slc (.var 0) (.cI 3) (.cI 9)) .nil)) (.cons (.cS ⟨⟨[108]⟩⟩) (.cons (.cB true) .nil)))) (.cons (.tup (.cons (.blt .tuple (.cons (.slc (.var 0) .nil (.cI 5)) .nil)) (.cons (.cS ⟨⟨[108]⟩⟩) (.cons (.cB false) .nil)))) .nil)))))
    (.seq (.ite (.or (.cmp .NotEq (.cal 14 (.cons (.var 0) (.cons (.var 1) (.cons (.cS ⟨⟨[108]⟩⟩) .nil))) true) (.lst (.cons (.cS ⟨⟨[102]⟩⟩) .nil))) (.or (.cmp .NotEq (.cal 15 (.cons (.var 0) (.cons (.var 1) (.cons (.cS ⟨⟨[108]⟩⟩) .nil))) false) (.lst (.cons (.cS ⟨⟨[100]⟩⟩) (.cons (.cS ⟨⟨[101]⟩⟩) (.cons (.cS ⟨⟨[102]⟩⟩) .nil))))) (.not (.cal 16 (.cons (.var 0) (.cons (.var 1) (.cons (.cS ⟨⟨[108]⟩⟩) .nil))) false))))
    (.seq (.ret (.cB false))
    .skip)
    .skip)
    (.seq (.ret (.and (.cmp .Eq (.sub (.cal 12 (.cons (.var 0) (.cons (.var 1) .nil)) false) (.cS ⟨⟨[108]⟩⟩)) (.tup (.cons (.cS ⟨⟨[100]⟩⟩) (.cons (.cS ⟨⟨[101]⟩⟩) (.cons (.cS ⟨⟨[102]⟩⟩) .nil))))) (.cmp .Eq (.cal 15 (.cons (.var 0) (.cons (.var 1) (.cons (.cS ⟨⟨[97]⟩⟩) .nil))) false) (.slc (.var 0) (.cI 1) .nil))))
    .skip)))) }
/-- law -/
def f27 : Fn := { ks := [.dat], ns := 12, fresh := false, body :=
    (.seq (.for (.var 1) (.rng (.blt .max2 (.cons (.cI 1) (.cons (.blt .min2 (.cons (.cI 8) (.cons (.blt .len (.cons (.var 0) .nil)) .nil))) .nil))))
    (.seq (.asgO 2 (.cal 17 (.cons (.var 0) (.cons (.var 1) .nil)) true))
    (.seq (.asg (.var 3) (.cal 20 (.cons (.ioA 2) (.cons (.cI 4) .nil)) true))
    (.seq (.asg (.var 4) (.cal 22 (.cons (.ioA 2) (.cons (.var 3) (.cons (.cal 18 (.cons (.ioA 2) (.cons (.cI 11) .nil)) false) .nil))) true))
    (.seq (.par true false 8 9 .dic0 (.blt .repr (.cons (.var 4) .nil)))
    (.seq (.for (.var 5) (.var 3)
    (.seq (.setI 8 (.var 5) (.cal 23 (.cons (.var 3) (.cons (.var 4) (.cons (.var 5) .nil))) false))
    (.seq (.fgt 5)
    .skip)))
    (.seq (.asg (.var 6) (.cmp .NotEq (.comp (.var 5) (.var 5) (.var 3) (.cmp .Eq (.subP 8 (.var 5)) (.lst .nil)) [5]) (.lst .nil)))
    (.seq (.asgO 7 .dic0)
    (.seq (.for (.var 5) (.var 3)
    (.seq (.setI 7 (.var 5) (.blt .tuple (.cons (.cal 24 (.cons (.var 3) (.cons (.subP 8 (.var 5)) .nil)) true) .nil)))
    (.seq (.fgt 5)
    .skip)))
    (.seq (.frz 7)
    (.seq (.ite (.cmp .NotEq (.cal 12 (.cons (.var 3) (.cons (.var 4) .nil)) false) (.ife (.var 6) .cN (.var 7)))
    (.seq (.ret (.cB false))
    .skip)
    .skip)
    (.seq (.for (.var 5) (.var 3)
    (.seq (.asg (.var 10) (.ife (.var 6) (.lst .nil) (.cal 25 (.cons (.var 3) (.cons (.subP 8 (.var 5)) .nil)) true)))
    (.seq (.asg (.var 11) (.ife (.var 6) (.lst .nil) (.cal 24 (.cons (.var 3) (.cons (.subP 8 (.var 5)) .nil)) true)))
    (.seq (.ite (.or (.cmp .NotEq (.cal 14 (.cons (.var 3) (.cons (.var 4) (.cons (.var 5) .nil))) true) (.var 10)) (.cmp .NotEq (.cal 15 (.cons (.blt .list (.cons (.var 3) .nil)) (.cons (.blt .tuple (.cons (.var 4) .nil)) (.cons (.var 5) .nil))) false) (.var 11)))
    (.seq (.ret (.cB false))
    .skip)
    .skip)
    (.seq (.ite (.cmp .NotEq (.cal 16 (.cons (.var 3) (.cons (.var 4) (.cons (.var 5) .nil))) false) (.cmp .NotEq (.var 10) (.var 11)))
    (.seq (.ret (.cB false))
    .skip)
    .skip)
    (.seq (.fgt 5)
    (.seq (.fgt 10)
    (.seq (.fgt 11)
    .skip))))))))
    (.seq (.ite (.cmp .NotEq (.blt .repr (.cons (.var 4) .nil)) (.var 9))
    (.seq (.ret (.cB false))
    .skip)
    .skip)
    (.seq (.fgt 1)
    (.seq (.fgt 2)
    (.seq (.fgt 3)
    (.seq (.fgt 4)
    (.seq (.fgt 5)
    (.seq (.fgt 6)
    (.seq (.fgt 7)
    (.seq (.fgt 8)
    (.seq (.fgt 9)
    (.seq (.fgt 10)
    (.seq (.fgt 11)
    .skip))))))))))))))))))))))))
    (.seq (.ret (.cal 26 .nil false))
    .skip)) }
def fs : List Fn := [f0, f1, f2, f3, f4, f5, f6, f7, f8, f9, f10, f11, f12, f13, f14, f15, f16, f17, f18, f19] ++ [f20, f21, f22, f23, f24, f25, f26, f27]
def nm : List Pl := ([.glo "is_word", .glo "is_row", .glo "are_unlike", .glo "are_words", .glo "is_build_of", .glo "is_triple", .glo "look_at_names", .glo "are_triples", .glo "look_at_seen", .glo "most_wanted", .glo "refused_rows", .glo "is_explained", .glo "greatest_wants", .glo "look_at_question", .glo "must", .glo "may", .glo "next_ask", .glo "_law_pool", .glo "_law_take", .glo "_law_one"] : List Pl) ++ ([.glo "_law_told_names", .glo "_law_parts", .glo "_law_answers", .glo "_law_fitting", .glo "_law_union", .glo "_law_common", .glo "_law_twelve", .glo "law"] : List Pl)
def at_ : List (Nat × Str) := []
def con : List (Str × Cv) := [("LETTERS", .str ⟨⟨[97, 98, 99, 100, 101, 102, 103, 104, 105, 106, 107, 108, 109, 110, 111, 112, 113, 114, 115, 116, 117, 118, 119, 120, 121, 122]⟩⟩), ("MOST_LETTERS", .int 8), ("MOST_SKILLS", .int 12)]
end K70
set_option Elab.async false
set_option linter.all false
set_option maxRecDepth 100000
set_option maxHeartbeats 1000000
namespace Dm
open PySem
theorem rb_ok {α β : Type} {a : α} {f : α → Res β} : (Res.ok a).bind f = f a := rfl
theorem rb_bad {α β : Type} {f : α → Res β} : (Res.bad : Res α).bind f = .bad := rfl
theorem rb_exc {α β : Type} {c : Nat} {d : D} {f : α → Res β} : (Res.exc c d : Res α).bind f = .exc c d := rfl
def fre : Option Slot → Bool
  | some (.io _) => false
  | some (.bor _) => false
  | some _ => true
  | none => false
theorem setV_fre {env : En} {i : Nat} {d : D} (h : fre (env[i]?) = true) : setV env i d = some (env.set i (.dat d)) := by
  unfold setV
  cases e : env[i]? with
  | none => rw [e] at h; cases h
  | some s => cases s <;> rw [e] at h <;> first | rfl | cases h
theorem wipeOk_fre {env : En} {i : Nat} {is : List Nat} (h : fre (env[i]?) = true) : wipeOk env (i :: is) = wipeOk env is := by
  show (wipeOk env is && _) = _
  cases e : env[i]? with
  | none => rw [e] at h; cases h
  | some s => cases s <;> rw [e] at h <;> first | (simp; done) | cases h
theorem bin_mul_l {i j : Int} (h : -M64 < i ∧ i < M64) : binD .Mult (.int i) (.int j) = some (.int (i * j)) := by
  show (if _ then _ else _) = _
  rw [if_pos (.inl h)]
theorem bin_mul_r {i j : Int} (h : -M64 < j ∧ j < M64) : binD .Mult (.int i) (.int j) = some (.int (i * j)) := by
  show (if _ then _ else _) = _
  rw [if_pos (.inr h)]
theorem bin_add {i j : Int} : binD .Add (.int i) (.int j) = some (.int (i + j)) := rfl
theorem bin_sub {i j : Int} : binD .Sub (.int i) (.int j) = some (.int (i - j)) := rfl
theorem bin_mod {i j : Int} (h : 0 < j) : binD .Mod (.int i) (.int j) = some (.int (i % j)) := by
  show (if _ then _ else _) = _
  rw [if_pos h]
theorem bin_div {i j : Int} (h : 0 < j ∧ j < 1073741824) : binD .FloorDiv (.int i) (.int j) = some (.int (i / j)) := by
  show (if _ then _ else _) = _
  rw [if_pos h]
section
variable {α : Type} {tgt : Ex} {cond elt : En → Res (D × En)} {own : List Nat} {e0 : En}
/-- a comprehension, element by element -/
theorem compGo_of (f : α → D) (p : α → Bool) (g : α → D) : ∀ (xs : List α) (acc : List D),
    (∀ x ∈ xs, ∃ e1 e2, bindT tgt (f x) e0 = some e1 ∧ truR (cond e1) = .ok (p x, e2) ∧ (p x = false → wipeE e2 own = e0) ∧ (p x = true → ∃ e3, elt e2 = .ok (g x, e3) ∧ wipeE e3 own = e0)) →
    compGo tgt cond elt own (xs.map f) e0 acc = .ok (acc ++ (xs.filter p).map g, e0)
  | [], acc, _ => by simp [compGo]
  | x :: xs, acc, h => by
    obtain ⟨e1, e2, h1, h2, h3, h4⟩ := h x (List.mem_cons_self ..)
    rw [List.map_cons, compGo]
    simp only [h1, h2, rb_ok]
    cases hp : p x with
    | false =>
      rw [if_neg (by simp), h3 hp, compGo_of f p g xs acc fun y hy => h y (List.mem_cons_of_mem _ hy), List.filter_cons_of_neg (by simp [hp])]
    | true =>
      obtain ⟨e3, h5, h6⟩ := h4 hp
      rw [if_pos rfl, h5, rb_ok, h6, compGo_of f p g xs (acc ++ [g x]) fun y hy => h y (List.mem_cons_of_mem _ hy), List.filter_cons_of_pos hp, List.map_cons, List.append_assoc]
      rfl
end
section
variable {α : Type} {tgt : Ex} {body : En → Res Fl}
theorem forGo_inv (f : α → D) (I : List α → En → Prop) : ∀ (ts done : List α) (e : En), I done e →
    (∀ t ∈ ts, ∀ done e, I done e → ∃ e1 e2, bindT tgt (f t) e = some e1 ∧ body e1 = .ok (.nx e2) ∧ I (done ++ [t]) e2) →
    ∃ e', forGo tgt body (ts.map f) e = .ok (.nx e') ∧ I (done ++ ts) e'
  | [], done, e, i, _ => ⟨e, rfl, by rw [List.append_nil]; exact i⟩
  | t :: ts, done, e, i, h => by
    obtain ⟨e1, e2, h1, h2, h3⟩ := h t (List.mem_cons_self ..) done e i
    obtain ⟨e', h4, h5⟩ := forGo_inv f I ts (done ++ [t]) e2 h3 fun y hy => h y (List.mem_cons_of_mem _ hy)
    refine ⟨e', ?_, by rw [List.append_assoc] at h5; exact h5⟩
    rw [List.map_cons, forGo]
    simp only [h1, h2, rb_ok]
    exact h4
theorem forGo_all (f : α → D) (I : En → Prop) (p : α → Bool) (fr : Bool) (r : D) : ∀ (ts : List α) (e : En), I e →
    (∀ t ∈ ts, ∀ e, I e → ∃ e1, bindT tgt (f t) e = some e1 ∧ (p t = true → ∃ e2, body e1 = .ok (.nx e2) ∧ I e2) ∧ (p t = false → ∃ e2, body e1 = .ok (.rt fr r e2) ∧ I e2)) →
    ∃ e', forGo tgt body (ts.map f) e = .ok (if ts.all p then .nx e' else .rt fr r e') ∧ I e'
  | [], e, i, _ => ⟨e, rfl, i⟩
  | t :: ts, e, i, h => by
    obtain ⟨e1, h1, h2, h3⟩ := h t (List.mem_cons_self ..) e i
    rw [List.map_cons, forGo, List.all_cons]
    simp only [h1]
    cases hp : p t with
    | true =>
      obtain ⟨e2, h4, i2⟩ := h2 hp
      simp only [h4, rb_ok, Bool.true_and]
      exact forGo_all f I p fr r ts e2 i2 fun y hy => h y (List.mem_cons_of_mem _ hy)
    | false =>
      obtain ⟨e2, h4, i2⟩ := h3 hp
      exact ⟨e2, by simp only [h4, rb_ok, Bool.false_and]; rfl, i2⟩
end
end Dm
set_option Elab.async false
set_option linter.all false
set_option maxRecDepth 100000
set_option maxHeartbeats 1000000
namespace Dm
open PySem
def poolFn : Fn := { ks := [.dat, .dat], ns := 5, fresh := true, body :=
    (.seq (.asg (.var 2) (.cI 0))
    (.seq (.ite (.cmp .Lt (.var 1) (.blt .len (.cons (.var 0) .nil)))
    (.seq (.asg (.var 2) (.sub (.var 0) (.var 1)))
    .skip)
    .skip)
    (.seq (.asg (.var 3) (.blt .max2 (.cons (.blt .int (.cons (.var 2) .nil)) (.cons (.blt .int (.cons (.bin .Sub (.neg (.cI 1)) (.var 2)) .nil)) .nil))))
    (.seq (.asg (.var 4) (.bin .Mod (.blt .int (.cons (.bin .Mult (.bin .Add (.bin .Add (.bin .Add (.bin .Mod (.blt .int (.cons (.var 3) .nil)) (.cI 2147483629)) (.bin .Mult (.bin .Mult (.cI 7919) (.var 1)) (.var 1))) (.bin .Mult (.cI 31) (.var 1))) (.cI 17)) (.cI 48271)) .nil)) (.cI 2147483647)))
    (.seq (.ret (.lst (.cons (.bin .Mult (.var 3) (.blt .int (.cons (.cmp .GtE (.var 3) (.bin .Pow (.cI 10) (.cI 18))) .nil))) (.cons (.var 4) .nil))))
    .skip))))) }
def takeFn : Fn := { ks := [.io, .dat], ns := 3, fresh := false, body :=
    (.seq (.ite (.cmp .Gt (.subP 0 (.cI 0)) (.cI 0))
    (.seq (.asg (.var 2) (.bin .Mod (.blt .int (.cons (.subP 0 (.cI 0)) .nil)) (.var 1)))
    (.seq (.setI 0 (.cI 0) (.bin .FloorDiv (.subP 0 (.cI 0)) (.var 1)))
    (.seq (.ret (.var 2))
    .skip)))
    .skip)
    (.seq (.setI 0 (.cI 1) (.bin .Mod (.blt .int (.cons (.bin .Add (.bin .Mult (.subP 0 (.cI 1)) (.cI 39373)) (.cI 7)) .nil)) (.cI 2147483647)))
    (.seq (.ret (.bin .Mod (.blt .int (.cons (.bin .FloorDiv (.bin .Mod (.blt .int (.cons (.bin .Mult (.subP 0 (.cI 1)) (.subP 0 (.cI 1))) .nil)) (.cI 2147483629)) (.cI 32)) .nil)) (.var 1)))
    .skip))) }
def oneFn (t : Nat) : Fn := { ks := [.io, .dat], ns := 2, fresh := false, body :=
    (.seq (.ret (.sub (.var 1) (.cal t (.cons (.ioA 0) (.cons (.blt .len (.cons (.var 1) .nil)) .nil)) false)))
    .skip) }
def poolOk (P : D) : Prop := ∃ a b : Int, P = .lst [.int a, .int b] ∧ 0 ≤ a ∧ 0 ≤ b ∧ b < 2147483647
theorem take_ok {cal : Nat → List D → Res (D × List D)} {P : D} {m : Int} (h : poolOk P) (h0 : 0 < m) (h1 : m < 1073741824) :
    ∃ (r : Int) (P' : D), runF cal takeFn [P, .int m] = .ok (.int r, [P']) ∧ 0 ≤ r ∧ r < m ∧ poolOk P' := by
  obtain ⟨a, b, rfl, ha, hb, hb'⟩ := h
  by_cases c : 0 < a
  · refine ⟨a % m, .lst [.int (a / m), .int b], ?_, Int.emod_nonneg _ (by omega), Int.emod_lt_of_pos _ h0, a / m, b, rfl, Int.ediv_nonneg ha (by omega), hb, hb'⟩
    simp [runF, takeFn, slotsOf, exS, ev, pk, mk, rb_ok, opt, optB, subD, atD, cmpD, c, truR, tru, optE, bindT, setV, one, bltD, binD, h0, h1, setM, putM, outsOf, frE]
  · have hm : 0 ≤ (b * 39373 + 7) % 2147483647 := Int.emod_nonneg _ (by omega)
    have hm' : (b * 39373 + 7) % 2147483647 < 2147483647 := Int.emod_lt_of_pos _ (by omega)
    refine ⟨(((b * 39373 + 7) % 2147483647) * ((b * 39373 + 7) % 2147483647) % 2147483629 / 32) % m, .lst [.int a, .int ((b * 39373 + 7) % 2147483647)], ?_, Int.emod_nonneg _ (by omega), Int.emod_lt_of_pos _ h0, a, _, rfl, ha, hm, hm'⟩
    have k1 : -M64 < (39373 : Int) ∧ (39373 : Int) < M64 := by decide
    have k2 : -M64 < (b * 39373 + 7) % 2147483647 ∧ (b * 39373 + 7) % 2147483647 < M64 := by unfold M64; omega
    simp [runF, takeFn, slotsOf, exS, ev, pk, mk, rb_ok, opt, optB, subD, atD, cmpD, c, truR, tru, optE, bindT, setV, one, bltD, binD, h0, h1, k1, k2, setM, putM, outsOf, frE]
theorem one_ok {cal : Nat → List D → Res (D × List D)} {t : Nat} {P x : D} {xs : List D} (hx : x = .lst xs ∨ x = .tup xs) (h : poolOk P) (h0 : xs ≠ []) (h1 : xs.length < 1073741824) (hc : cal t = runF cal takeFn ∨ ∃ c, cal t = runF c takeFn) :
    ∃ (y P' : D), runF cal (oneFn t) [P, x] = .ok (y, [P']) ∧ y ∈ xs ∧ poolOk P' := by
  have hp : 0 < xs.length := List.length_pos_iff.mpr h0
  obtain ⟨c, hc⟩ : ∃ c, cal t = runF c takeFn := hc.elim (fun h => ⟨_, h⟩) id
  obtain ⟨r, P', e, r0, r1, hP⟩ := take_ok (cal := c) (m := xs.length) h (by omega) (by omega)
  rw [← hc] at e
  have hr : r.toNat < xs.length := by omega
  refine ⟨xs[r.toNat], P', ?_, List.getElem_mem _, hP⟩
  rcases hx with rfl | rfl <;> simp [runF, oneFn, slotsOf, exS, ev, pk, mk, rb_ok, opt, one, bltD, argsD, e, putOuts, putM, subD, atD, r0, hr, outsOf, frE]
def E18 : Int := 10 ^ 18
theorem pow18 {cal : Nat → List D → Res (D × List D)} {env : En} : ev cal (.bin .Pow (.cI 10) (.cI 18)) env = .ok (.int E18, env) := rfl
def mixI (c : Int) (k : Nat) : Int := ((if -1 - c > c then -1 - c else c) % 2147483629 + 7919 * k * k + 31 * k + 17) * 48271 % 2147483647
section
variable {cal : Nat → List D → Res (D × List D)} {ns : List Int} {k : Nat}
def pb0 : Sm := .seq (.asg (.var 2) (.cI 0))
    (.seq (.ite (.cmp .Lt (.var 1) (.blt .len (.cons (.var 0) .nil)))
    (.seq (.asg (.var 2) (.sub (.var 0) (.var 1)))
    .skip)
    .skip) .skip)
def pb1 : Sm := .asg (.var 3) (.blt .max2 (.cons (.blt .int (.cons (.var 2) .nil)) (.cons (.blt .int (.cons (.bin .Sub (.neg (.cI 1)) (.var 2)) .nil)) .nil)))
def pb2 : Sm := .asg (.var 4) (.bin .Mod (.blt .int (.cons (.bin .Mult (.bin .Add (.bin .Add (.bin .Add (.bin .Mod (.blt .int (.cons (.var 3) .nil)) (.cI 2147483629)) (.bin .Mult (.bin .Mult (.cI 7919) (.var 1)) (.var 1))) (.bin .Mult (.cI 31) (.var 1))) (.cI 17)) (.cI 48271)) .nil)) (.cI 2147483647))
def pb3 : Sm := .ret (.lst (.cons (.bin .Mult (.var 3) (.blt .int (.cons (.cmp .GtE (.var 3) (.bin .Pow (.cI 10) (.cI 18))) .nil))) (.cons (.var 4) .nil)))
theorem pb0_ok (c : Int) (hc : (if h : k < ns.length then ns[k] else 0) = c) : exS cal pb0 [.dat (.scr ns), .dat (.int k), .un, .un, .un] = .ok (.nx [.dat (.scr ns), .dat (.int k), .dat (.int c), .un, .un]) := by
  by_cases c1 : k < ns.length
  · rw [dif_pos c1] at hc
    simp [pb0, exS, ev, rb_ok, opt, optB, one, bltD, subD, atD, cmpD, truR, tru, optE, bindT, setV, c1, hc]
  · rw [dif_neg c1] at hc
    simp [pb0, exS, ev, rb_ok, opt, optB, one, bltD, subD, atD, cmpD, truR, tru, optE, bindT, setV, c1, hc]
theorem pb1_ok (c : Int) : exS cal pb1 [.dat (.scr ns), .dat (.int k), .dat (.int c), .un, .un] = .ok (.nx [.dat (.scr ns), .dat (.int k), .dat (.int c), .dat (.int (if -1 - c > c then -1 - c else c)), .un]) := by
  simp [pb1, exS, ev, rb_ok, opt, one, bltD, optE, bindT, setV, binD]
def pb2g (m1 m2 a1 a2 a3 m3 : Int) : Sm := .asg (.var 4) (.bin .Mod (.blt .int (.cons (.bin .Mult (.bin .Add (.bin .Add (.bin .Add (.bin .Mod (.blt .int (.cons (.var 3) .nil)) (.cI m1)) (.bin .Mult (.bin .Mult (.cI a1) (.var 1)) (.var 1))) (.bin .Mult (.cI a2) (.var 1))) (.cI a3)) (.cI m3)) .nil)) (.cI m2))
theorem pb2_gen (m1 m2 a1 a2 a3 m3 q c b : Int) (hk1 : -M64 < q ∧ q < M64) (k1 : -M64 < m3 ∧ m3 < M64) (k2 : 0 < m2) (k3 : 0 < m1) : exS cal (pb2g m1 m2 a1 a2 a3 m3) [.dat (.scr ns), .dat (.int q), .dat (.int c), .dat (.int b), .un] = .ok (.nx [.dat (.scr ns), .dat (.int q), .dat (.int c), .dat (.int b), .dat (.int ((b % m1 + a1 * q * q + a2 * q + a3) * m3 % m2))]) := by
  simp only [pb2g, exS, ev, List.getElem?_cons_zero, List.getElem?_cons_succ, rb_ok, opt, one, bltD, optE, bindT, setV, bin_mul_r hk1, bin_mul_r k1, bin_add, bin_mod k2, bin_mod k3, List.set_cons_zero, List.set_cons_succ]
theorem pb2_ok (hk : k < 100) (c b : Int) : exS cal pb2 [.dat (.scr ns), .dat (.int k), .dat (.int c), .dat (.int b), .un] = .ok (.nx [.dat (.scr ns), .dat (.int k), .dat (.int c), .dat (.int b), .dat (.int ((b % 2147483629 + 7919 * k * k + 31 * k + 17) * 48271 % 2147483647))]) :=
  pb2_gen 2147483629 2147483647 7919 31 17 48271 k c b (by unfold M64; omega) (by decide) (by decide) (by decide)
theorem seq_nx {a b : Sm} {env env' : En} (h : exS cal a env = .ok (.nx env')) : exS cal (.seq a b) env = exS cal b env' := by
  rw [exS, h]
  rfl
theorem seq_rt {a b : Sm} {env env' : En} {f : Bool} {d : D} (h : exS cal a env = .ok (.rt f d env')) : exS cal (.seq a b) env = .ok (.rt f d env') := by
  rw [exS, h]
  rfl
theorem pb3_ok (c b m : Int) : exS cal pb3 [.dat (.scr ns), .dat (.int k), .dat (.int c), .dat (.int b), .dat (.int m)] = .ok (.rt true (.lst [.int (b * (if E18 ≤ b then 1 else 0)), .int m]) [.dat (.scr ns), .dat (.int k), .dat (.int c), .dat (.int b), .dat (.int m)]) := by
  have k4 : -M64 < (1 : Int) ∧ (1 : Int) < M64 := by decide
  have k5 : -M64 < (0 : Int) ∧ (0 : Int) < M64 := by decide
  by_cases c2 : E18 ≤ b
  all_goals simp [pb3, ↓pow18, exS, ev, rb_ok, opt, optB, one, bltD, cmpD, binD, k4, k5, c2, frE]
theorem pool_at (hk : k < 100) (c : Int) (hc : (if h : k < ns.length then ns[k] else 0) = c) :
    runF cal poolFn [.scr ns, .int k] = .ok (.lst [.int ((if -1 - c > c then -1 - c else c) * (if E18 ≤ (if -1 - c > c then -1 - c else c) then 1 else 0)), .int (mixI c k)], []) := by
  have e : exS cal poolFn.body [.dat (.scr ns), .dat (.int k), .un, .un, .un] = .ok (.rt true (.lst [.int ((if -1 - c > c then -1 - c else c) * (if E18 ≤ (if -1 - c > c then -1 - c else c) then 1 else 0)), .int (mixI c k)]) [.dat (.scr ns), .dat (.int k), .dat (.int c), .dat (.int (if -1 - c > c then -1 - c else c)), .dat (.int (mixI c k))]) := by
    have z : exS cal poolFn.body [.dat (.scr ns), .dat (.int k), .un, .un, .un] = exS cal (.seq pb1 (.seq pb2 (.seq pb3 .skip))) [.dat (.scr ns), .dat (.int k), .dat (.int c), .un, .un] := by
      have z0 := pb0_ok (cal := cal) (k := k) (ns := ns) c hc
      unfold pb0 at z0
      unfold poolFn
      by_cases c1 : k < ns.length
      · rw [dif_pos c1] at hc
        rw [seq_nx (env' := [.dat (.scr ns), .dat (.int k), .dat (.int 0), .un, .un]) (by simp [exS, ev, rb_ok, optE, bindT, setV]),
          seq_nx (env' := [.dat (.scr ns), .dat (.int k), .dat (.int c), .un, .un]) (by simp [exS, ev, rb_ok, opt, optB, one, bltD, subD, atD, cmpD, truR, tru, optE, bindT, setV, c1, hc])]
        rfl
      · rw [dif_neg c1] at hc
        rw [seq_nx (env' := [.dat (.scr ns), .dat (.int k), .dat (.int 0), .un, .un]) (by simp [exS, ev, rb_ok, optE, bindT, setV]),
          seq_nx (env' := [.dat (.scr ns), .dat (.int k), .dat (.int c), .un, .un]) (by simp [exS, ev, rb_ok, opt, optB, one, bltD, subD, atD, cmpD, truR, tru, optE, bindT, setV, c1, hc])]
        rfl
    rw [z, seq_nx (pb1_ok c), seq_nx (pb2_ok hk c _), seq_rt (pb3_ok c _ _)]
    rfl
  unfold runF
  simp only [slotsOf, poolFn, Option.map]
  rw [show ([Slot.dat (D.scr ns), Slot.dat (D.int k)] ++ List.replicate (5 - [Pk.dat, Pk.dat].length) Slot.un) = [.dat (.scr ns), .dat (.int k), .un, .un, .un] from rfl]
  have e' := e
  unfold poolFn at e'
  rw [e']
  rfl
end
theorem pool_ok {cal : Nat → List D → Res (D × List D)} {ns : List Int} {k : Nat} (hk : k < 100) :
    ∃ P, runF cal poolFn [.scr ns, .int k] = .ok (P, []) ∧ poolOk P := by
  refine ⟨_, pool_at hk _ rfl, _, _, rfl, ?_, Int.emod_nonneg _ (by omega), Int.emod_lt_of_pos _ (by omega)⟩
  generalize (if h : k < ns.length then ns[k] else 0) = c
  refine Int.mul_nonneg ?_ ?_
  · split <;> omega
  · split <;> omega
end Dm
set_option Elab.async false
set_option linter.all false
set_option maxRecDepth 100000
set_option maxHeartbeats 1000000
namespace Dm
open PySem
def basesL : List (List Str) := [[⟨⟨[97]⟩⟩, ⟨⟨[98]⟩⟩, ⟨⟨[99]⟩⟩, ⟨⟨[100]⟩⟩], [⟨⟨[122]⟩⟩, ⟨⟨[97, 98, 99, 100, 101, 102, 103, 104]⟩⟩, ⟨⟨[97]⟩⟩, ⟨⟨[98]⟩⟩], [⟨⟨[100]⟩⟩, ⟨⟨[99]⟩⟩, ⟨⟨[98]⟩⟩, ⟨⟨[97]⟩⟩]]
def namesL : List (List Str) := basesL.flatMap fun b => [b.take 1, b.take 2, b.take 3, b.take 4]
def sds (l : List Str) : List D := l.map .str
def tupS (l : List Str) : D := .tup (sds l)
def others (nm : List Str) (s : Str) : List Str := nm.filter fun x => !decide (x = s)
def parts (l : List Str) : List (List Str) := l.foldl (fun acc n => acc ++ acc.map (· ++ [n])) [[]]
structure Tr where
  B : List Str
  s : Str
  l : Bool
def Tr.d (t : Tr) : D := .tup [tupS t.B, .str t.s, .bl t.l]
def Tr.ok (nm : List Str) (t : Tr) : Prop := t.s ∈ nm ∧ t.B ∈ parts (others nm t.s)
def isIn (n : Str) (l : List Str) : Bool := l.any fun y => decide (y = n)
theorem flat_sds (l : List Str) : (sds l).all D.flat = true := by
  induction l with
  | nil => rfl
  | cons x l ih => simpa [sds, D.flat] using ih
theorem any_sds (n : Str) (l : List Str) : ((sds l).any fun y => eqF y (.str n)) = isIn n l := by
  induction l with
  | nil => rfl
  | cons x l ih =>
    unfold sds isIn at ih ⊢
    rw [List.map_cons, List.any_cons, List.any_cons, ih]
    congr 1
theorem din_tup (n : Str) (l : List Str) : din (.str n) (tupS l) = some (isIn n l) := by
  show (if (D.flat (.str n) && (sds l).all D.flat) = true then _ else _) = _
  rw [flat_sds, if_pos (show ((D.str n).flat && true) = true from rfl), any_sds]
theorem din_lst (n : Str) (l : List Str) : din (.str n) (.lst (sds l)) = some (isIn n l) := by
  show inRow _ _ = _
  unfold inRow
  rw [flat_sds, show D.flat (.str n) = true from rfl, Bool.and_true, if_pos rfl, any_sds]
theorem deq_nil (xs : List D) : deq (.lst xs) (.lst []) = some xs.isEmpty := by cases xs <;> rfl
theorem deq_str (a b : Str) : deq (.str a) (.str b) = some (decide (a = b)) := rfl
theorem deq_bl (a b : Bool) : deq (.bl a) (.bl b) = some (a == b) := rfl
theorem deq_int (a b : Int) : deq (.int a) (.int b) = some (decide (a = b)) := rfl
theorem isIn_iff {n : Str} {l : List Str} : isIn n l = true ↔ n ∈ l := by
  unfold isIn
  simp
theorem parts_sub : ∀ (l : List Str) (r : List Str), r ∈ parts l → ∀ x ∈ r, x ∈ l := by
  have key : ∀ (l : List Str) (acc : List (List Str)) (S : List Str), (∀ r ∈ acc, ∀ x ∈ r, x ∈ S) → ∀ r ∈ l.foldl (fun acc n => acc ++ acc.map (· ++ [n])) acc, ∀ x ∈ r, x ∈ S ∨ x ∈ l := by
    intro l
    induction l with
    | nil => intro acc S h r hr x hx; exact .inl (h r hr x hx)
    | cons a l ih =>
      intro acc S h r hr x hx
      have := ih (acc ++ acc.map (· ++ [a])) (S ++ [a]) (fun r' hr' y hy => ?_) r hr x hx
      · rcases this with z | z
        · rcases List.mem_append.mp z with z | z
          · exact .inl z
          · exact .inr (by rw [List.mem_singleton.mp z]; exact List.mem_cons_self ..)
        · exact .inr (List.mem_cons_of_mem _ z)
      · rcases List.mem_append.mp hr' with z | z
        · exact List.mem_append_left _ (h r' z y hy)
        · obtain ⟨r0, h0, rfl⟩ := List.mem_map.mp z
          rcases List.mem_append.mp hy with z | z
          · exact List.mem_append_left _ (h r0 h0 y z)
          · exact List.mem_append_right _ z
  intro l r hr x hx
  rcases key l [[]] [] (fun r hr x hx => by rw [List.mem_singleton.mp hr] at hx; cases hx) r hr x hx with z | z
  · cases z
  · exact z
/-- each part that is kept by a test is among the parts -/
theorem parts_filter (p : Str → Bool) (l : List Str) : l.filter p ∈ parts l := by
  have key : ∀ (l : List Str) (acc : List (List Str)) (r : List Str), r ∈ acc → r ++ l.filter p ∈ l.foldl (fun acc n => acc ++ acc.map (· ++ [n])) acc := by
    intro l
    induction l with
    | nil => intro acc r h; simpa using h
    | cons a l ih =>
      intro acc r h
      rw [List.foldl_cons, List.filter_cons]
      split
      · have := ih (acc ++ acc.map (· ++ [a])) (r ++ [a]) (List.mem_append_right _ (List.mem_map.mpr ⟨r, h, rfl⟩))
        rwa [List.append_assoc] at this
      · exact ih _ r (List.mem_append_left _ h)
  have := key l [[]] [] (List.mem_cons_self ..)
  rw [List.nil_append] at this
  exact this
end Dm
set_option Elab.async false
set_option linter.all false
set_option maxRecDepth 100000
set_option maxHeartbeats 1000000
namespace Dm
open PySem
section
variable {cal : Nat → List D → Res (D × List D)} {env : En} {e es a b c i lo hi args : Ex}
theorem ev_nil : ev cal .nil env = .ok (.tup [], env) := rfl
theorem ev_cons : ev cal (.cons e es) env = (ev cal e env).bind fun p => (one (ev cal es p.2)).bind fun q => .ok (.tup (p.1 :: q.1), q.2) := rfl
theorem ev_var {k : Nat} : ev cal (.var k) env = match env[k]? with
    | some (.dat d) => .ok (d, env)
    | _ => .bad := rfl
theorem ev_con {x : Str} {v : Cv} : ev cal (.con x v) env = .ok (v.d, env) := rfl
theorem ev_cI {k : Int} : ev cal (.cI k) env = .ok (.int k, env) := rfl
theorem ev_cS {k : Str} : ev cal (.cS k) env = .ok (.str k, env) := rfl
theorem ev_cB {k : Bool} : ev cal (.cB k) env = .ok (.bl k, env) := rfl
theorem ev_cN : ev cal .cN env = .ok (.non, env) := rfl
theorem ev_lst : ev cal (.lst es) env = (one (ev cal es env)).bind fun q => .ok (.lst q.1, q.2) := rfl
theorem ev_tup : ev cal (.tup es) env = (one (ev cal es env)).bind fun q => .ok (.tup q.1, q.2) := rfl
theorem ev_dic0 : ev cal .dic0 env = .ok (.dic [], env) := rfl
theorem ev_bin {op : Operator} : ev cal (.bin op a b) env = (ev cal a env).bind fun p => (ev cal b p.2).bind fun q => opt (binD op p.1 q.1) q.2 := rfl
theorem ev_neg : ev cal (.neg a) env = (ev cal a env).bind fun p => match p.1 with
    | .int i => .ok (.int (-i), p.2)
    | _ => .bad := rfl
theorem ev_not : ev cal (.not a) env = (truR (ev cal a env)).bind fun p => .ok (.bl (!p.1), p.2) := rfl
theorem ev_and : ev cal (.and a b) env = (ev cal a env).bind fun p => match tru p.1 with
    | some true => ev cal b p.2
    | some false => .ok p
    | none => .bad := rfl
theorem ev_or : ev cal (.or a b) env = (ev cal a env).bind fun p => match tru p.1 with
    | some true => .ok p
    | some false => ev cal b p.2
    | none => .bad := rfl
theorem ev_cmp {op : CmpOp} : ev cal (.cmp op a b) env = (ev cal a env).bind fun p => (ev cal b p.2).bind fun q => optB (cmpD op p.1 q.1) q.2 := rfl
theorem ev_ife : ev cal (.ife c a b) env = (truR (ev cal c env)).bind fun p => if p.1 then ev cal a p.2 else ev cal b p.2 := rfl
theorem ev_isi {tys : List String} : ev cal (.isi a tys) env = (ev cal a env).bind fun p => if p.1.isIns then .bad else .ok (.bl (tys.any (isTy p.1)), p.2) := rfl
theorem ev_cal {f : Nat} {fr : Bool} : ev cal (.cal f args fr) env = (one (ev cal args env)).bind fun p => match argsD args p.1 p.2 with
    | none => .bad
    | some ds => (cal f ds).bind fun r => (match putOuts args r.2 p.2 with
      | some env' => .ok (r.1, env')
      | none => .bad) := rfl
theorem ev_ioA {k : Nat} : ev cal (.ioA k) env = match mk env k with
    | some _ => .ok (.non, env)
    | none => .bad := rfl
theorem ev_borA {k : Nat} : ev cal (.borA k) env = match pk env k with
    | some _ => .ok (.non, env)
    | none => .bad := rfl
theorem ev_blt {f : Blt} : ev cal (.blt f args) env = (one (ev cal args env)).bind fun p => opt (bltD f p.1) p.2 := rfl
theorem ev_lenP {k : Nat} : ev cal (.lenP k) env = match pk env k with
    | some d => opt (bltD .len [d]) env
    | none => .bad := rfl
theorem ev_sub : ev cal (.sub a i) env = (ev cal a env).bind fun p => (ev cal i p.2).bind fun q => opt (subD p.1 q.1) q.2 := rfl
theorem ev_subP {k : Nat} : ev cal (.subP k e) env = match pk env k with
    | none => .bad
    | some _ => (ev cal e env).bind fun q => match pk q.2 k with
      | some d => opt (subD d q.1) q.2
      | none => .bad := rfl
theorem ev_slc : ev cal (.slc a lo hi) env = (ev cal a env).bind fun p => (ev cal lo p.2).bind fun q => (ev cal hi q.2).bind fun r => opt (slcD p.1 (partD lo q.1) (partD hi r.1)) r.2 := rfl
theorem ev_rng : ev cal (.rng a) env = (ev cal a env).bind fun p => opt (rngD p.1) p.2 := rfl
theorem ev_rev : ev cal (.rev a) env = (ev cal a env).bind fun p => opt (revD p.1) p.2 := rfl
theorem ev_items : ev cal (.items a) env = (ev cal a env).bind fun p => opt (itemsD p.1) p.2 := rfl
theorem ev_comp_eq {elt tgt iter cond : Ex} {own : List Nat} : ev cal (.comp elt tgt iter cond own) env = (ev cal iter env).bind fun p => match rowsE iter p.1 with
    | some xs => if wipeOk p.2 own then (calm (compGo tgt (ev cal cond) (ev cal elt) own xs (wipeE p.2 own) [])).bind fun q => .ok (.lst q.1, wipeE q.2 own) else .bad
    | none => .bad := rfl
/-- a comprehension, told by its elements -/
theorem ev_comp {α : Type} {elt tgt iter cond : Ex} {own : List Nat} {d : D} {env1 : En} {xs : List α} (f : α → D) (p : α → Bool) (g : α → D) (h1 : ev cal iter env = .ok (d, env1)) (h2 : rowsE iter d = some (xs.map f)) (h3 : wipeOk env1 own = true)
    (h : ∀ x ∈ xs, ∃ e1 e2, bindT tgt (f x) (wipeE env1 own) = some e1 ∧ truR (ev cal cond e1) = .ok (p x, e2) ∧ (p x = false → wipeE e2 own = wipeE env1 own) ∧ (p x = true → ∃ e3, ev cal elt e2 = .ok (g x, e3) ∧ wipeE e3 own = wipeE env1 own)) :
    ev cal (.comp elt tgt iter cond own) env = .ok (.lst ((xs.filter p).map g), wipeE (wipeE env1 own) own) := by
  rw [ev_comp_eq, h1, rb_ok]
  simp only [h2, h3, if_true]
  rw [compGo_of f p g xs [] h]
  rfl
theorem xs_skip : exS cal .skip env = .ok (.nx env) := rfl
theorem xs_seq {s t : Sm} : exS cal (.seq s t) env = (exS cal s env).bind fun f => match f with
    | .nx env' => exS cal t env'
    | .rt f d env' => .ok (.rt f d env') := rfl
theorem xs_asg : exS cal (.asg a e) env = (ev cal e env).bind fun p => optE (bindT a p.1 p.2) := rfl
theorem xs_asgO {k : Nat} : exS cal (.asgO k e) env = if frE e then (ev cal e env).bind fun p => if p.1.isMut then (match p.2[k]? with
      | some (.io _) => .bad
      | some (.bor _) => .bad
      | some _ => .ok (.nx (p.2.set k (.own p.1)))
      | none => .bad) else .bad else .bad := rfl
theorem xs_frz {k : Nat} : exS cal (.frz k) env = match env[k]? with
    | some (.own d) => .ok (.nx (env.set k (.dat d)))
    | some _ => .ok (.nx env)
    | none => .bad := rfl
theorem xs_fgt {k : Nat} : exS cal (.fgt k) env = match env[k]? with
    | some (.io _) => .bad
    | some _ => .ok (.nx (env.set k .un))
    | none => .bad := rfl
theorem xs_app {k : Nat} : exS cal (.app k e) env = match mk env k with
    | some (.lst _) => (ev cal e env).bind fun p => appM p.2 k p.1
    | _ => .bad := rfl
theorem xs_ext {k : Nat} : exS cal (.ext k e) env = match mk env k with
    | some (.lst _) => (ev cal e env).bind fun p => extM p.2 k p.1
    | _ => .bad := rfl
theorem xs_setI {k : Nat} : exS cal (.setI k i e) env = (ev cal e env).bind fun p => match mk p.2 k with
    | none => .bad
    | some _ => (ev cal i p.2).bind fun q => setM q.2 k q.1 p.1 := rfl
theorem xs_exp : exS cal (.exp e) env = (ev cal e env).bind fun p => .ok (.nx p.2) := rfl
theorem xs_ret : exS cal (.ret e) env = (ev cal e env).bind fun p => .ok (.rt (frE e) p.1 p.2) := rfl
theorem xs_retO {k : Nat} : exS cal (.retO k) env = match env[k]? with
    | some (.own d) => .ok (.rt true d (env.set k .un))
    | _ => .bad := rfl
theorem xs_retN : exS cal .retN env = .ok (.rt false .non env) := rfl
theorem xs_ite {s t : Sm} : exS cal (.ite c s t) env = (truR (ev cal c env)).bind fun p => if p.1 then exS cal s p.2 else exS cal t p.2 := rfl
theorem xs_for {s : Sm} : exS cal (.for a e s) env = (ev cal e env).bind fun p => match rows p.1 with
    | some xs => forGo a (exS cal s) xs p.2
    | none => .bad := rfl
theorem xs_rai {k : Nat} : exS cal (.rai k e) env = (ev cal e env).bind fun p => .exc k p.1 := rfl
theorem xs_par {oa ob : Bool} {x y : Nat} : exS cal (.par oa ob x y a b) env = (ev cal a env).bind fun p => (ev cal b p.2).bind fun q => parR oa ob x y (frE a) (frE b) p.1 q := rfl
/-- all(..), any(..) of bools -/
theorem bits_map {α : Type} (f : α → Bool) : ∀ l : List α, bitsOf (l.map fun x => .bl (f x)) = some (l.map f)
  | [] => rfl
  | x :: l => by
    rw [List.map_cons, bitsOf, bits_map f l]
    rfl
theorem all_map {α : Type} (f : α → Bool) (l : List α) : bltD .all [.lst (l.map fun x => .bl (f x))] = some (.bl (l.all f)) := by
  show (bitsOf _).map _ = _
  rw [bits_map]
  simp [Function.comp_def]
theorem any_map {α : Type} (f : α → Bool) (l : List α) : bltD .any [.lst (l.map fun x => .bl (f x))] = some (.bl (l.any f)) := by
  show (bitsOf _).map _ = _
  rw [bits_map]
  simp [Function.comp_def]
end
end Dm
namespace Dm
open PySem
theorem rowsE_of {it : Ex} {d : D} {xs : List D} (h : rows d = some xs) : rowsE it d = some xs := by
  cases d <;> first | exact h | cases h
theorem setV_un {env : En} {i : Nat} {d : D} (h : env[i]? = some .un) : setV env i d = some (env.set i (.dat d)) := setV_fre (by rw [h]; rfl)
def mw (nm : List Str) (ts : List Tr) (s : Str) : List Str := nm.filter fun n => !decide (n = s) && (ts.filter fun t => decide (t.s = s) && t.l).all fun t => isIn n t.B
def rr (nm : List Str) (ts : List Tr) (s : Str) : List (List Str) := (ts.filter fun t => decide (t.s = s) && !t.l).map fun t => (mw nm ts s).filter fun n => !isIn n t.B
def isX (nm : List Str) (ts : List Tr) : Bool := !(nm.any fun s => (rr nm ts s).any fun r => r.isEmpty)
end Dm
namespace Dm
open PySem
theorem ev_cmp1 {cal : Nat → List D → Res (D × List D)} {env : En} {α : Type} {elt tgt iter cond : Ex} {own : List Nat} {d : D} {e0 : En} {xs : List α} (f : α → D) (p : α → Bool) (g : α → D) (h1 : ev cal iter env = .ok (d, env)) (h2 : rowsE iter d = some (xs.map f)) (h3 : wipeOk env own = true) (h4 : wipeE env own = e0) (h5 : wipeE e0 own = e0)
    (h : ∀ x ∈ xs, ∃ e1 e2, bindT tgt (f x) e0 = some e1 ∧ truR (ev cal cond e1) = .ok (p x, e2) ∧ (p x = false → wipeE e2 own = e0) ∧ (p x = true → ∃ e3, ev cal elt e2 = .ok (g x, e3) ∧ wipeE e3 own = e0)) :
    ev cal (.comp elt tgt iter cond own) env = .ok (.lst ((xs.filter p).map g), e0) := by
  subst h4
  rw [ev_comp f p g h1 h2 h3 h, h5]
/-- .. without a test -/
theorem ev_cmp0 {cal : Nat → List D → Res (D × List D)} {env : En} {α : Type} {elt tgt iter : Ex} {own : List Nat} {d : D} {e0 : En} {xs : List α} (f : α → D) (g : α → D) (h1 : ev cal iter env = .ok (d, env)) (h2 : rowsE iter d = some (xs.map f)) (h3 : wipeOk env own = true) (h4 : wipeE env own = e0) (h5 : wipeE e0 own = e0)
    (h : ∀ x ∈ xs, ∃ e1 e3, bindT tgt (f x) e0 = some e1 ∧ ev cal elt e1 = .ok (g x, e3) ∧ wipeE e3 own = e0) :
    ev cal (.comp elt tgt iter (.cB true) own) env = .ok (.lst (xs.map g), e0) := by
  have z : ∀ x ∈ xs, ∃ e1 e2, bindT tgt (f x) e0 = some e1 ∧ truR (ev cal (.cB true) e1) = .ok ((fun _ : α => true) x, e2) ∧ ((fun _ : α => true) x = false → wipeE e2 own = e0) ∧ ((fun _ : α => true) x = true → ∃ e3, ev cal elt e2 = .ok (g x, e3) ∧ wipeE e3 own = e0) := by
    intro x hx
    obtain ⟨e1, e3, a, b, c⟩ := h x hx
    exact ⟨e1, e1, a, rfl, fun z => (nomatch z), fun _ => ⟨e3, b, c⟩⟩
  have := ev_cmp1 f (fun _ => true) g h1 h2 h3 h4 h5 z
  rw [List.filter_eq_self.mpr (fun _ _ => rfl)] at this
  exact this
end Dm
namespace Dm
open PySem
/-- a loop, turn by turn over a state -/
theorem forGo_st {α σ : Type} {tgt : Ex} {body : En → Res Fl} (f : α → D) (sh : σ → En) (step : σ → α → σ) : ∀ (xs : List α) (s : σ),
    (∀ x ∈ xs, ∀ s, ∃ e1, bindT tgt (f x) (sh s) = some e1 ∧ body e1 = .ok (.nx (sh (step s x)))) →
    forGo tgt body (xs.map f) (sh s) = .ok (.nx (sh (xs.foldl step s)))
  | [], s, _ => rfl
  | x :: xs, s, h => by
    obtain ⟨e1, h1, h2⟩ := h x (List.mem_cons_self ..) s
    rw [List.map_cons, forGo]
    simp only [h1, h2, rb_ok]
    exact forGo_st f sh step xs (step s x) fun y hy => h y (List.mem_cons_of_mem _ hy)
/-- .. the env stays -/
theorem forGo_id {α : Type} {tgt : Ex} {body : En → Res Fl} {e : En} (f : α → D) : ∀ (xs : List α),
    (∀ x ∈ xs, ∃ e1, bindT tgt (f x) e = some e1 ∧ body e1 = .ok (.nx e)) → forGo tgt body (xs.map f) e = .ok (.nx e)
  | [], _ => rfl
  | x :: xs, h => by
    obtain ⟨e1, h1, h2⟩ := h x (List.mem_cons_self ..)
    rw [List.map_cons, forGo]
    simp only [h1, h2, rb_ok]
    exact forGo_id f xs fun y hy => h y (List.mem_cons_of_mem _ hy)
/-- .. with what holds between the turns -/
theorem forGo_hold {α : Type} {tgt : Ex} {body : En → Res Fl} (f : α → D) (I : En → Prop) : ∀ (xs : List α) (e : En), I e →
    (∀ x ∈ xs, ∀ e, I e → ∃ e1 e2, bindT tgt (f x) e = some e1 ∧ body e1 = .ok (.nx e2) ∧ I e2) → ∃ e', forGo tgt body (xs.map f) e = .ok (.nx e') ∧ I e'
  | [], e, i, _ => ⟨e, rfl, i⟩
  | x :: xs, e, i, h => by
    obtain ⟨e1, e2, h1, h2, h3⟩ := h x (List.mem_cons_self ..) e i
    obtain ⟨e', h4, h5⟩ := forGo_hold f I xs e2 h3 fun y hy => h y (List.mem_cons_of_mem _ hy)
    refine ⟨e', ?_, h5⟩
    rw [List.map_cons, forGo]
    simp only [h1, h2, rb_ok]
    exact h4
end Dm
set_option Elab.async false
set_option linter.all false
set_option maxRecDepth 100000
set_option maxHeartbeats 1000000
namespace Dm
open PySem
def goodS (x : Str) : Prop := PyData.canLay0 (.str x) = true
theorem pys_sds : ∀ l : List Str, D.pys (sds l) = some (l.map PyData.str)
  | [] => rfl
  | x :: l => by
    have := pys_sds l
    unfold sds at this ⊢
    rw [List.map_cons, D.pys, this]
    rfl
theorem lay_strs : ∀ l : List Str, (∀ x ∈ l, goodS x) → PyData.canLayAll0 (l.map PyData.str) = true
  | [], _ => by simp [PyData.canLayAll0]
  | x :: l, h => by
    rw [List.map_cons, PyData.canLayAll0, lay_strs l fun y hy => h y (List.mem_cons_of_mem _ hy), Bool.and_true]
    exact h x (List.mem_cons_self ..)
theorem depth_strs : ∀ l : List Str, PyData.depthAll (l.map PyData.str) ≤ 1
  | [] => by simp [PyData.depthAll]
  | x :: l => by
    have := depth_strs l
    simp only [List.map_cons, PyData.depthAll, PyData.depth]
    omega
theorem shaped_of {d : PyData} (h : d.canLay0 = true) (h2 : d.depth ≤ 64) : SeqAt.shaped d = true := by
  unfold SeqAt.shaped
  rw [h, decide_eq_true h2]
  rfl
theorem shapedL {l : List Str} (h : ∀ x ∈ l, goodS x) : SeqAt.shaped (.list (l.map PyData.str)) = true := by
  have := depth_strs l
  exact shaped_of (by simp only [PyData.canLay0]; exact lay_strs l h) (by simp only [PyData.depth]; omega)
theorem pys_rows : ∀ rs : List (List Str), D.pys (rs.map fun r => .lst (sds r)) = some (rs.map fun r => .list (r.map PyData.str))
  | [] => rfl
  | r :: rs => by
    rw [List.map_cons, D.pys, pys_rows rs, D.py, pys_sds r]
    rfl
theorem lay_rows : ∀ rs : List (List Str), (∀ r ∈ rs, ∀ x ∈ r, goodS x) → PyData.canLayAll0 (rs.map fun r => .list (r.map PyData.str)) = true
  | [], _ => by simp [PyData.canLayAll0]
  | r :: rs, h => by
    rw [List.map_cons, PyData.canLayAll0, lay_rows rs fun y hy => h y (List.mem_cons_of_mem _ hy), Bool.and_true]
    simp only [PyData.canLay0]
    exact lay_strs r (h r (List.mem_cons_self ..))
theorem depth_rows : ∀ rs : List (List Str), PyData.depthAll (rs.map fun r => .list (r.map PyData.str)) ≤ 2
  | [] => by simp [PyData.depthAll]
  | r :: rs => by
    have := depth_rows rs
    have := depth_strs r
    simp only [List.map_cons, PyData.depthAll, PyData.depth]
    omega
theorem shapedR {rs : List (List Str)} (h : ∀ r ∈ rs, ∀ x ∈ r, goodS x) : SeqAt.shaped (.list (rs.map fun r => .list (r.map PyData.str))) = true := by
  have := depth_rows rs
  exact shaped_of (by simp only [PyData.canLay0]; exact lay_rows rs h) (by simp only [PyData.depth]; omega)
theorem eqv_strs : ∀ r q : List Str, PyData.eqvAll (r.map PyData.str) (q.map PyData.str) = decide (r = q)
  | [], [] => by simp [PyData.eqvAll]
  | [], y :: q => by simp [PyData.eqvAll]
  | x :: r, [] => by simp [PyData.eqvAll]
  | x :: r, y :: q => by
    rw [List.map_cons, List.map_cons, PyData.eqvAll, eqv_strs r q, PyData.eqv]
    by_cases h : x = y <;> simp [h]
/-- a list of texts among lists of texts -/
theorem din_rows {q : List Str} {rs : List (List Str)} (hq : ∀ x ∈ q, goodS x) (h : ∀ r ∈ rs, ∀ x ∈ r, goodS x) : din (.lst (sds q)) (.lst (rs.map fun r => .lst (sds r))) = some (rs.any fun r => decide (r = q)) := by
  show inRow _ _ = _
  unfold inRow
  rw [show D.flat (.lst (sds q)) = false from rfl, Bool.false_and, if_neg (by simp), D.py, pys_sds, pys_rows]
  simp only [Option.map_some, shapedL hq, shapedR h, Bool.and_self, if_true]
  congr 1
  rw [List.any_map]
  congr 1
  funext r
  simp only [Function.comp_def, PyData.eqv, eqv_strs]
theorem deq_sds {r q : List Str} (hr : ∀ x ∈ r, goodS x) (hq : ∀ x ∈ q, goodS x) : deq (.lst (sds r)) (.lst (sds q)) = some (decide (r = q)) := by
  cases q with
  | nil =>
    rw [show sds [] = [] from rfl, deq_nil]
    cases r <;> rfl
  | cons y q =>
    have e : deq (.lst (sds r)) (.lst (sds (y :: q))) = match D.py (.lst (sds r)), D.py (.lst (sds (y :: q))) with
      | some a, some b => if SeqAt.shaped a && SeqAt.shaped b then some (PyData.eqv a b) else none
      | _, _ => if (sds r).length = (sds (y :: q)).length then none else some false := by
      cases r <;> rfl
    rw [e, D.py, D.py, pys_sds, pys_sds]
    simp only [Option.map_some, shapedL hr, shapedL hq, Bool.and_self, if_true, PyData.eqv, eqv_strs]
theorem good_names {nm : List Str} (h : nm ∈ namesL) : ∀ x ∈ nm, goodS x := by
  have : (namesL.all fun nm => nm.all fun x => PyData.canLay0 (.str x)) = true := by decide +kernel
  intro x hx
  exact List.all_eq_true.mp (List.all_eq_true.mp this nm h) x hx
theorem nodup_names {nm : List Str} (h : nm ∈ namesL) : nm.Nodup := by
  have : (namesL.all fun nm => decide nm.Nodup) = true := by decide +kernel
  exact of_decide_eq_true (List.all_eq_true.mp this nm h)
/-- dicts -/
def kx (s : Str) : Ky := .k (.inr s)
def wKv (w : List (Str × List Str)) : List (Ky × D) := w.map fun p => (kx p.1, tupS p.2)
def look (w : List (Str × List Str)) (s : Str) : List Str := match w with
  | [] => []
  | p :: w => if p.1 = s then p.2 else look w s
theorem kx_inj {a b : Str} : kx a = kx b ↔ a = b := by
  constructor
  · intro h
    injection h with h
    injection h
  · intro h
    rw [h]
theorem lookD_w : ∀ {w : List (Str × List Str)} {s : Str}, s ∈ w.map (·.1) → lookD (wKv w) (kx s) = some (tupS (look w s))
  | [], s, h => by cases h
  | p :: w, s, h => by
    show (if kx p.1 = kx s then some (tupS p.2) else lookD (wKv w) (kx s)) = _
    unfold look
    by_cases e : p.1 = s
    · rw [if_pos (kx_inj.mpr e), if_pos e]
    · rw [if_neg (fun z => e (kx_inj.mp z)), if_neg e]
      refine lookD_w ?_
      rcases List.mem_cons.mp h with z | z
      · exact absurd z.symm e
      · exact z
theorem putD_new {kvs : List (Ky × D)} {k : Ky} {v : D} (h : ∀ p ∈ kvs, p.1 ≠ k) : putD kvs k v = kvs ++ [(k, v)] := by
  unfold putD
  rw [if_neg]
  simp only [List.any_eq_true, decide_eq_true_eq, not_exists, not_and]
  exact h
section
variable {α : Type} {tgt : Ex} {key val : En → Res (D × En)} {own : List Nat} {e0 : En}
theorem dcmpGo_of (f : α → D) (k : α → Ky) (kd g : α → D) : ∀ (xs : List α) (acc : List (Ky × D)),
    (∀ x ∈ xs, ∃ e1 e2 e3, bindT tgt (f x) e0 = some e1 ∧ key e1 = .ok (kd x, e2) ∧ (kd x).key = some (k x) ∧ val e2 = .ok (g x, e3) ∧ wipeE e3 own = e0) →
    dcmpGo tgt key val own (xs.map f) e0 acc = .ok (xs.foldl (fun acc x => putD acc (k x) (g x)) acc, e0)
  | [], acc, _ => rfl
  | x :: xs, acc, h => by
    obtain ⟨e1, e2, e3, h1, h2, h3, h4, h5⟩ := h x (List.mem_cons_self ..)
    rw [List.map_cons, dcmpGo]
    simp only [h1, h2, rb_ok, h4, h3, h5]
    exact dcmpGo_of f k kd g xs _ fun y hy => h y (List.mem_cons_of_mem _ hy)
end
theorem put_all {α : Type} (k : α → Ky) (g : α → D) : ∀ (xs : List α) (acc : List (Ky × D)), (xs.map k).Nodup → (∀ p ∈ acc, ∀ x ∈ xs, p.1 ≠ k x) → xs.foldl (fun acc x => putD acc (k x) (g x)) acc = acc ++ xs.map fun x => (k x, g x)
  | [], acc, _, _ => by simp
  | x :: xs, acc, n, h => by
    rw [List.map_cons, List.nodup_cons] at n
    rw [List.foldl_cons, putD_new fun p hp => h p hp x (List.mem_cons_self ..), put_all k g xs _ n.2, List.append_assoc]
    · rfl
    · intro p hp y hy
      rcases List.mem_append.mp hp with z | z
      · exact h p z y (List.mem_cons_of_mem _ hy)
      · rw [List.mem_singleton.mp z]
        intro e
        exact n.1 (List.mem_map.mpr ⟨y, hy, e.symm⟩)
end Dm
namespace Dm
open PySem
theorem forGo_pre {α : Type} {tgt : Ex} {body : En → Res Fl} (f : α → D) (I : List α → En → Prop) (all : List α) : ∀ (ts done : List α) (e : En), done ++ ts = all → I done e →
    (∀ done t rest, all = done ++ t :: rest → ∀ e, I done e → ∃ e1 e2, bindT tgt (f t) e = some e1 ∧ body e1 = .ok (.nx e2) ∧ I (done ++ [t]) e2) →
    ∃ e', forGo tgt body (ts.map f) e = .ok (.nx e') ∧ I all e'
  | [], done, e, ha, i, _ => ⟨e, rfl, by rw [← ha, List.append_nil]; exact i⟩
  | t :: ts, done, e, ha, i, h => by
    obtain ⟨e1, e2, h1, h2, h3⟩ := h done t ts ha.symm e i
    obtain ⟨e', h4, h5⟩ := forGo_pre f I all ts (done ++ [t]) e2 (by rw [List.append_assoc]; exact ha) h3 h
    refine ⟨e', ?_, h5⟩
    rw [List.map_cons, forGo]
    simp only [h1, h2, rb_ok]
    exact h4
theorem look_put {kvs : List (Ky × D)} {k k' : Ky} {v : D} : lookD (putD kvs k v) k' = if k = k' then some v else lookD kvs k' := by
  unfold putD
  split
  · rename_i h
    have h' : ∃ p ∈ kvs, p.1 = k := by simpa using h
    clear h
    induction kvs with
    | nil => obtain ⟨p, hp, _⟩ := h'; cases hp
    | cons q kvs ih =>
      obtain ⟨a, w⟩ := q
      rw [List.map_cons]
      by_cases e : a = k
      · subst e
        rw [if_pos rfl]
        unfold lookD
        by_cases e2 : a = k'
        · rw [if_pos e2, if_pos e2]
        · rw [if_neg e2, if_neg e2, if_neg e2]
          clear ih h'
          induction kvs with
          | nil => rfl
          | cons q kvs ih2 =>
            obtain ⟨b, u⟩ := q
            rw [List.map_cons]
            by_cases e3 : b = a
            · subst e3
              rw [if_pos rfl]
              unfold lookD
              rw [if_neg e2, if_neg e2]
              exact ih2
            · rw [if_neg e3]
              unfold lookD
              by_cases e4 : b = k'
              · rw [if_pos e4, if_pos e4]
              · rw [if_neg e4, if_neg e4]
                exact ih2
      · have h2 : ∃ p ∈ kvs, p.1 = k := by
          obtain ⟨p, hp, hk⟩ := h'
          rcases List.mem_cons.mp hp with z | z
          · subst z
            exact absurd hk e
          · exact ⟨p, z, hk⟩
        rw [if_neg e]
        unfold lookD
        by_cases e2 : a = k'
        · subst e2
          rw [if_pos rfl, if_pos rfl, if_neg (fun z => e z.symm)]
        · rw [if_neg e2, if_neg e2]
          exact ih h2
  · rename_i h
    have h' : ∀ p ∈ kvs, p.1 ≠ k := fun p hp e => h (List.any_eq_true.mpr ⟨p, hp, decide_eq_true e⟩)
    clear h
    induction kvs with
    | nil => rfl
    | cons q kvs ih =>
      obtain ⟨a, w⟩ := q
      rw [List.cons_append]
      unfold lookD
      by_cases e2 : a = k'
      · subst e2
        rw [if_pos rfl, if_pos rfl, if_neg (fun z => h' (a, w) (List.mem_cons_self ..) z.symm)]
      · rw [if_neg e2, if_neg e2]
        exact ih fun p hp => h' p (List.mem_cons_of_mem _ hp)
theorem put_len {kvs : List (Ky × D)} {k : Ky} {v : D} : (putD kvs k v).length ≤ kvs.length + 1 := by
  unfold putD
  split
  · rw [List.length_map]; omega
  · rw [List.length_append]; exact Nat.le_refl _
theorem ev_others {cal : Nat → List D → Res (D × List D)} {env : En} {i j k : Nat} {nd : D} {nm : List Str} {s : Str} (hj : env[j]? = some (.dat nd)) (hn : rows nd = some (sds nm)) (hk : env[k]? = some (.dat (.str s))) (hi : fre (env[i]?) = true) (ij : i ≠ j) (ik : i ≠ k) :
    ev cal (.comp (.var i) (.var i) (.var j) (.cmp .NotEq (.var i) (.var k)) [i]) env = .ok (.lst (sds (others nm s)), env.set i .un) := by
  have hl : i < env.length := by
    rcases Nat.lt_or_ge i env.length with h | h
    · exact h
    · rw [List.getElem?_eq_none h] at hi; cases hi
  refine ev_cmp1 (d := nd) D.str (fun x => !decide (x = s)) D.str (by rw [ev_var, hj]) (rowsE_of hn) (by rw [wipeOk_fre hi]; rfl) rfl (by simp [wipeE]) fun x _ => ?_
  refine ⟨env.set i (.dat (.str x)), env.set i (.dat (.str x)), ?_, ?_, fun _ => by simp [wipeE], fun _ => ⟨env.set i (.dat (.str x)), ?_, by simp [wipeE]⟩⟩
  · show setV _ _ _ = _
    rw [setV_fre]
    · simp [wipeE]
    · simp [wipeE, hl, fre]
  · have h1 : (env.set i (.dat (.str x)))[k]? = some (.dat (.str s)) := by rw [List.getElem?_set_ne ik, hk]
    have h2 : (env.set i (.dat (.str x)))[i]? = some (.dat (.str x)) := by simp [hl]
    rw [ev_cmp, ev_var, h2]
    simp only [rb_ok]
    rw [ev_var, h1]
    simp [rb_ok, cmpD, deq_str, optB, truR, tru]
  · have h2 : (env.set i (.dat (.str x)))[i]? = some (.dat (.str x)) := by simp [hl]
    rw [ev_var, h2]
end Dm
set_option Elab.async false
set_option linter.all false
set_option maxRecDepth 100000
set_option maxHeartbeats 1000000
namespace Dm
open PySem
theorem mw_parts {nm : List Str} {ts : List Tr} {s : Str} : mw nm ts s ∈ parts (others nm s) := by
  have e : mw nm ts s = (others nm s).filter fun n => (ts.filter fun t => decide (t.s = s) && t.l).all fun t => isIn n t.B := by
    unfold mw others
    rw [List.filter_filter]
    congr 1
    funext x
    rw [Bool.and_comm]
  rw [e]
  exact parts_filter _ _
def fitB (ts : List Tr) (s : Str) (r : List Str) : Bool := ts.all fun t => !(decide (t.s = s) && (t.l != r.all fun x => isIn x t.B))
def fit (nm : List Str) (ts : List Tr) (s : Str) : List (List Str) := (parts (others nm s)).filter (fitB ts s)
def unionL (nm : List Str) (rows : List (List Str)) : List Str := nm.filter fun x => rows.any fun r => isIn x r
def commonL (nm : List Str) (rows : List (List Str)) : List Str := nm.filter fun x => rows.all fun r => isIn x r
def mustL (nm : List Str) (ts : List Tr) (s : Str) : List Str := nm.filter fun x => (rr nm ts s).any fun r => decide (r = [x])
theorem fitB_iff {ts : List Tr} {s : Str} {r : List Str} : fitB ts s r = true ↔ ∀ t ∈ ts, t.s = s → (t.l = true ↔ ∀ x ∈ r, x ∈ t.B) := by
  unfold fitB
  rw [List.all_eq_true]
  constructor
  · intro h t ht e
    have := h t ht
    simp only [e, decide_true, Bool.true_and, Bool.not_eq_true', bne_eq_false_iff_eq] at this
    rw [this, List.all_eq_true]
    exact ⟨fun z x hx => isIn_iff.mp (z x hx), fun z x hx => isIn_iff.mpr (z x hx)⟩
  · intro h t ht
    by_cases e : t.s = s
    · have := h t ht e
      simp only [e, decide_true, Bool.true_and, Bool.not_eq_true', bne_eq_false_iff_eq]
      rw [Bool.eq_iff_iff, this, List.all_eq_true]
      exact ⟨fun z x hx => isIn_iff.mpr (z x hx), fun z x hx => isIn_iff.mp (z x hx)⟩
    · simp [e]
theorem mw_iff {nm : List Str} {ts : List Tr} {s x : Str} : x ∈ mw nm ts s ↔ x ∈ nm ∧ x ≠ s ∧ ∀ t ∈ ts, t.s = s → t.l = true → x ∈ t.B := by
  unfold mw
  rw [List.mem_filter]
  simp only [Bool.and_eq_true, Bool.not_eq_true', decide_eq_false_iff_not, List.all_eq_true, List.mem_filter, decide_eq_true_eq, isIn_iff, ne_eq]
  constructor
  · rintro ⟨a, b, c⟩
    exact ⟨a, b, fun t ht e l => c t ⟨ht, e, l⟩⟩
  · rintro ⟨a, b, c⟩
    exact ⟨a, b, fun t ⟨ht, e, l⟩ => c t ht e l⟩
theorem rr_iff {nm : List Str} {ts : List Tr} {s : Str} {r : List Str} : r ∈ rr nm ts s ↔ ∃ t ∈ ts, t.s = s ∧ t.l = false ∧ r = (mw nm ts s).filter fun n => !isIn n t.B := by
  unfold rr
  rw [List.mem_map]
  constructor
  · rintro ⟨t, ht, rfl⟩
    obtain ⟨h1, h2⟩ := List.mem_filter.mp ht
    simp only [Bool.and_eq_true, decide_eq_true_eq, Bool.not_eq_true'] at h2
    exact ⟨t, h1, h2.1, h2.2, rfl⟩
  · rintro ⟨t, h1, h2, h3, rfl⟩
    exact ⟨t, List.mem_filter.mpr ⟨h1, by simp [h2, h3]⟩, rfl⟩
/-- who fits is within the most -/
theorem fit_sub {nm : List Str} {ts : List Tr} {s : Str} {r : List Str} (h : r ∈ fit nm ts s) : ∀ x ∈ r, x ∈ mw nm ts s := by
  obtain ⟨h1, h2⟩ := List.mem_filter.mp h
  intro x hx
  obtain ⟨a, b⟩ := List.mem_filter.mp (parts_sub _ _ h1 x hx)
  have b : x ≠ s := by simpa using b
  exact mw_iff.mpr ⟨a, b, fun t ht e l => (fitB_iff.mp h2 t ht e).mp l x hx⟩
def okAt (nm : List Str) (ts : List Tr) (s : Str) : Prop := ∀ t ∈ ts, t.s = s → t.l = false → ∃ x ∈ mw nm ts s, x ∉ t.B
theorem isX_iff {nm : List Str} {ts : List Tr} : isX nm ts = true ↔ ∀ s ∈ nm, okAt nm ts s := by
  unfold isX okAt
  rw [Bool.not_eq_true', List.any_eq_false]
  constructor
  · intro h s hs t ht e l
    have h := h s hs
    refine Classical.byContradiction fun z => h (List.any_eq_true.mpr ⟨_, rr_iff.mpr ⟨t, ht, e, l, rfl⟩, ?_⟩)
    rw [List.isEmpty_iff, List.filter_eq_nil_iff]
    intro x hx
    have : x ∈ t.B := Classical.byContradiction fun y => z ⟨x, hx, y⟩
    simp [isIn_iff.mpr this]
  · intro h s hs z
    obtain ⟨r, hr, he⟩ := List.any_eq_true.mp z
    obtain ⟨t, ht, e, l, rfl⟩ := rr_iff.mp hr
    obtain ⟨x, hx, hn⟩ := h s hs t ht e l
    rw [List.isEmpty_iff, List.filter_eq_nil_iff] at he
    refine he x hx ?_
    have : isIn x t.B = false := by
      rw [Bool.eq_false_iff]
      intro y
      exact hn (isIn_iff.mp y)
    simp [this]
/-- a part of the most that meets each refused build's rest fits -/
theorem fit_of {nm : List Str} {ts : List Tr} {s : Str} (p : Str → Bool) (h : ∀ t ∈ ts, t.s = s → t.l = false → ∃ x ∈ mw nm ts s, p x = true ∧ x ∉ t.B) : (mw nm ts s).filter p ∈ fit nm ts s := by
  refine List.mem_filter.mpr ⟨?_, fitB_iff.mpr fun t ht e => ⟨fun l x hx => (mw_iff.mp (List.mem_filter.mp hx).1).2.2 t ht e l, fun hx => ?_⟩⟩
  · have e : (mw nm ts s).filter p = (others nm s).filter fun n => p n && (ts.filter fun t => decide (t.s = s) && t.l).all fun t => isIn n t.B := by
      unfold mw others
      rw [List.filter_filter, List.filter_filter]
      congr 1
      funext x
      generalize ((ts.filter fun t => decide (t.s = s) && t.l).all fun t => isIn x t.B) = q
      cases p x <;> cases decide (x = s) <;> cases q <;> rfl
    rw [e]
    exact parts_filter _ _
  · cases l : t.l with
    | true => rfl
    | false =>
      obtain ⟨x, h1, h2, h3⟩ := h t ht e l
      exact absurd (hx x (List.mem_filter.mpr ⟨h1, h2⟩)) h3
theorem fit_mw {nm : List Str} {ts : List Tr} {s : Str} (h : okAt nm ts s) : mw nm ts s ∈ fit nm ts s := by
  have := fit_of (nm := nm) (ts := ts) (s := s) (fun _ => true) fun t ht e l => by
    obtain ⟨x, h1, h2⟩ := h t ht e l
    exact ⟨x, h1, rfl, h2⟩
  rwa [List.filter_eq_self.mpr fun _ _ => rfl] at this
theorem fit_ok {nm : List Str} {ts : List Tr} {s : Str} {r : List Str} (h : r ∈ fit nm ts s) : okAt nm ts s := by
  intro t ht e l
  have h2 := fitB_iff.mp (List.mem_filter.mp h).2 t ht e
  have : ¬ ∀ x ∈ r, x ∈ t.B := fun z => by rw [h2.mpr z] at l; cases l
  refine Classical.byContradiction fun z => this fun x hx => Classical.byContradiction fun y => z ⟨x, fit_sub h x hx, y⟩
theorem none_iff {nm : List Str} {ts : List Tr} : (nm.any fun s => (fit nm ts s).isEmpty) = !isX nm ts := by
  rw [Bool.eq_iff_iff, List.any_eq_true, Bool.not_eq_true', Bool.eq_false_iff, ne_eq, isX_iff]
  constructor
  · rintro ⟨s, hs, he⟩ z
    have := fit_mw (z s hs)
    rw [List.isEmpty_iff.mp he] at this
    cases this
  · intro z
    refine Classical.byContradiction fun y => z fun s hs => ?_
    cases e : fit nm ts s with
    | nil => exact absurd ⟨s, hs, by rw [e]; rfl⟩ y
    | cons r _ => exact fit_ok (r := r) (by rw [e]; exact List.mem_cons_self ..)
theorem union_eq {nm : List Str} {ts : List Tr} {s : Str} (h : okAt nm ts s) : unionL nm (fit nm ts s) = mw nm ts s := by
  have e : mw nm ts s = nm.filter fun x => isIn x (mw nm ts s) := by
    conv => lhs; unfold mw
    apply List.filter_congr
    intro x hx
    rw [Bool.eq_iff_iff, isIn_iff]
    unfold mw
    rw [List.mem_filter]
    exact ⟨fun z => ⟨hx, z⟩, fun z => z.2⟩
  rw [e]
  apply List.filter_congr
  intro x hx
  rw [Bool.eq_iff_iff, List.any_eq_true, isIn_iff]
  constructor
  · rintro ⟨r, hr, hi⟩
    exact fit_sub hr x (isIn_iff.mp hi)
  · intro z
    exact ⟨_, fit_mw h, isIn_iff.mpr z⟩
theorem filter_one {p : Str → Bool} {x : Str} : ∀ {l : List Str}, l.Nodup → (∀ y ∈ l, p y = true → y = x) → (∃ y ∈ l, p y = true) → l.filter p = [x]
  | [], _, _, ⟨y, h, _⟩ => by cases h
  | a :: l, nd, h, ⟨y, hy, py⟩ => by
    rw [List.nodup_cons] at nd
    by_cases c : p a = true
    · have := h a (List.mem_cons_self ..) c
      subst this
      rw [List.filter_cons_of_pos c]
      congr 1
      rw [List.filter_eq_nil_iff]
      intro z hz pz
      have := h z (List.mem_cons_of_mem _ hz) pz
      subst this
      exact nd.1 hz
    · rw [List.filter_cons_of_neg c]
      refine filter_one nd.2 (fun z hz => h z (List.mem_cons_of_mem _ hz)) ⟨y, ?_, py⟩
      rcases List.mem_cons.mp hy with e | e
      · subst e; exact absurd py c
      · exact e
theorem common_eq {nm : List Str} {ts : List Tr} {s : Str} (nd : nm.Nodup) (h : okAt nm ts s) : commonL nm (fit nm ts s) = mustL nm ts s := by
  apply List.filter_congr
  intro x hx
  rw [Bool.eq_iff_iff, List.all_eq_true, List.any_eq_true]
  constructor
  · intro z
    refine Classical.byContradiction fun y => ?_
    have := fit_of (nm := nm) (ts := ts) (s := s) (fun a => !decide (a = x)) fun t ht e l => by
      refine Classical.byContradiction fun q => y ⟨_, rr_iff.mpr ⟨t, ht, e, l, rfl⟩, ?_⟩
      rw [decide_eq_true_eq]
      obtain ⟨b, hb1, hb2⟩ := h t ht e l
      refine filter_one (nd.sublist (List.filter_sublist ..)) (fun c hc pc => ?_) ⟨b, hb1, ?_⟩
      · refine Classical.byContradiction fun w => q ⟨c, hc, by simpa using w, fun v => ?_⟩
        rw [isIn_iff.mpr v] at pc
        cases pc
      · have : isIn b t.B = false := by
          rw [Bool.eq_false_iff]
          intro v
          exact hb2 (isIn_iff.mp v)
        simp [this]
    have := isIn_iff.mp (z _ this)
    have := (List.mem_filter.mp this).2
    simp at this
  · rintro ⟨r, hr, hd⟩ q hq
    rw [decide_eq_true_eq] at hd
    subst hd
    obtain ⟨t, ht, e, l, h1⟩ := rr_iff.mp hr
    have h2 := fitB_iff.mp (List.mem_filter.mp hq).2 t ht e
    have h3 : ¬ ∀ x ∈ q, x ∈ t.B := fun z => by rw [h2.mpr z] at l; cases l
    rw [isIn_iff]
    refine Classical.byContradiction fun w => h3 fun y hy => Classical.byContradiction fun v => ?_
    have : y ∈ (mw nm ts s).filter fun n => !isIn n t.B := List.mem_filter.mpr ⟨fit_sub hq y hy, by
      have : isIn y t.B = false := by
        rw [Bool.eq_false_iff]
        intro u
        exact v (isIn_iff.mp u)
      simp [this]⟩
    rw [← h1] at this
    rw [List.mem_singleton.mp this] at hy
    exact w hy
end Dm
set_option Elab.async false
set_option linter.all false
set_option maxRecDepth 100000
set_option maxHeartbeats 2000000
namespace K70
open PySem Dm
abbrev T : Tab := tabOf fs
theorem c_word (n : Nat) : calF T (n + 1) 0 = runF (calF T n) f0 := rfl
theorem c_take (n : Nat) : calF T (n + 1) 18 = runF (calF T n) takeFn := rfl
theorem c_one (n : Nat) : calF T (n + 1) 19 = runF (calF T n) (oneFn 18) := rfl
theorem c_pool (n : Nat) : calF T (n + 1) 17 = runF (calF T n) poolFn := rfl
theorem oneT {n : Nat} {P x : D} {xs : List D} (hx : x = .lst xs ∨ x = .tup xs) (h : poolOk P) (h0 : xs ≠ []) (h1 : xs.length < 1073741824) :
    ∃ (y P' : D), calF T (n + 2) 19 [P, x] = .ok (y, [P']) ∧ y ∈ xs ∧ poolOk P' := one_ok (cal := calF T (n + 1)) hx h h0 h1 (.inr ⟨_, c_take n⟩)
theorem takeT {n : Nat} {P : D} {m : Int} (h : poolOk P) (h0 : 0 < m) (h1 : m < 1073741824) : ∃ (r : Int) (P' : D), calF T (n + 1) 18 [P, .int m] = .ok (.int r, [P']) ∧ 0 ≤ r ∧ r < m ∧ poolOk P' := take_ok h h0 h1
theorem poolT {n : Nat} {ns : List Int} {k : Nat} (hk : k < 100) : ∃ P, calF T (n + 1) 17 [.scr ns, .int k] = .ok (P, []) ∧ poolOk P := pool_ok hk
def pairsL : List (List Str × Str) := namesL.flatMap fun nm => nm.map fun s => (nm, s)
theorem mem_pairs {nm : List Str} {s : Str} (h : nm ∈ namesL) (hs : s ∈ nm) : (nm, s) ∈ pairsL := List.mem_flatMap.mpr ⟨nm, h, List.mem_map.mpr ⟨s, hs, rfl⟩⟩
theorem map_get {α β : Type} {f g : α → β} {l : List α} (h : l.map f = l.map g) {x : α} (hx : x ∈ l) : f x = g x := List.map_inj_left.mp h x hx
theorem parts_all (n : Nat) : (pairsL.map fun p => calF T (n + 1) 21 [.lst (sds (others p.1 p.2))]) = pairsL.map fun p => .ok (.lst ((parts (others p.1 p.2)).map tupS), []) := by kernel_rfl
theorem partsT {n : Nat} {nm : List Str} {s : Str} (h : nm ∈ namesL) (hs : s ∈ nm) : calF T (n + 1) 21 [.lst (sds (others nm s))] = .ok (.lst ((parts (others nm s)).map tupS), []) := by
  have := List.map_inj_left.mp (parts_all n) (nm, s) (mem_pairs h hs)
  exact this
theorem namesT_all (n : Nat) : (namesL.map fun nm => calF T (n + 4) 6 [tupS nm]) = namesL.map fun nm => .ok (.non, []) := by kernel_rfl
theorem namesT {n : Nat} {nm : List Str} (h : nm ∈ namesL) : calF T (n + 4) 6 [tupS nm] = .ok (.non, []) := by
  have := List.map_inj_left.mp (namesT_all n) nm h
  exact this
def trL : List (List Str × Tr) := pairsL.flatMap fun p => (parts (others p.1 p.2)).flatMap fun B => [(p.1, ⟨B, p.2, true⟩), (p.1, ⟨B, p.2, false⟩)]
theorem mem_trL {nm : List Str} {t : Tr} (h : nm ∈ namesL) (ht : t.ok nm) : (nm, t) ∈ trL := by
  refine List.mem_flatMap.mpr ⟨(nm, t.s), mem_pairs h ht.1, List.mem_flatMap.mpr ⟨t.B, ht.2, ?_⟩⟩
  obtain ⟨B, s, l⟩ := t
  cases l <;> simp
theorem tripleT_all (n : Nat) : (trL.map fun p => calF T (n + 3) 5 [tupS p.1, p.2.d]) = trL.map fun p => .ok (.bl true, []) := by kernel_rfl
theorem tripleT {n : Nat} {nm : List Str} {t : Tr} (h : nm ∈ namesL) (ht : t.ok nm) : calF T (n + 3) 5 [tupS nm, t.d] = .ok (.bl true, []) := by
  have := List.map_inj_left.mp (tripleT_all n) (nm, t) (mem_trL h ht)
  exact this
theorem told_names (n : Nat) {P : D} {m : Nat} (hm : 0 < m) (hm' : m ≤ 4) (h : poolOk P) : ∃ nm P', calF T (n + 3) 20 [P, .int m] = .ok (tupS nm, [P']) ∧ nm ∈ namesL ∧ nm.length ≤ m ∧ poolOk P' := by
  obtain ⟨y, P1, e1, hy, hP1⟩ := oneT (n := n) (x := .lst (basesL.map fun b => .lst (sds b))) (.inl rfl) h (by decide) (by decide)
  obtain ⟨r, P2, e2, r0, r1, hP2⟩ := takeT (n := n + 1) (m := m) hP1 (by omega) (by omega)
  obtain ⟨b, hb, rfl⟩ := List.mem_map.mp hy
  obtain ⟨q, rfl⟩ := Int.eq_ofNat_of_zero_le r0
  have hq : q = 0 ∨ q = 1 ∨ q = 2 ∨ q = 3 := by omega
  have e1' : calF T (n + 2) 19 [P, .lst [.lst [.str ⟨⟨[97]⟩⟩, .str ⟨⟨[98]⟩⟩, .str ⟨⟨[99]⟩⟩, .str ⟨⟨[100]⟩⟩], .lst [.str ⟨⟨[122]⟩⟩, .str ⟨⟨[97, 98, 99, 100, 101, 102, 103, 104]⟩⟩, .str ⟨⟨[97]⟩⟩, .str ⟨⟨[98]⟩⟩], .lst [.str ⟨⟨[100]⟩⟩, .str ⟨⟨[99]⟩⟩, .str ⟨⟨[98]⟩⟩, .str ⟨⟨[97]⟩⟩]]] = .ok (.lst (sds b), [P1]) := e1
  have hl : b.length = 4 := by simp [basesL] at hb; rcases hb with rfl | rfl | rfl <;> rfl
  have hs : ∀ x, (1 : Int) + x < 0 ↔ x < -1 := fun x => by omega
  refine ⟨b.take (1 + q), P2, ?_, ?_, ?_, hP2⟩
  · show runF (calF T (n + 2)) f20 [P, .int m] = _
    have hx : (sds b).length = 4 := by rw [sds, List.length_map, hl]
    have : ((1 : Int) + q) = ((1 + q : Nat) : Int) := by omega
    simp [runF, f20, slotsOf, exS, ev, pk, mk, rb_ok, opt, one, argsD, e1', e2, putOuts, putM, optE, bindT, setV, bltD, slcD, partD, binD, cut, sIx, outsOf, frE, hx, tupS]
    have h1 : ¬ ((1 : Int) + q < 0) := by omega
    rw [if_neg h1]
    have h2 : ((1 : Int) + q).toNat = 1 + q := by omega
    have h3 : min (1 + q) 4 = 1 + q := by omega
    rw [h2, h3]
    simp [sds]
  · unfold namesL
    refine List.mem_flatMap.mpr ⟨b, hb, ?_⟩
    rcases hq with rfl | rfl | rfl | rfl <;> simp
  · rw [List.length_take, hl]
    omega
theorem mwT {n : Nat} {nd sd : D} {nm : List Str} {ts : List Tr} {s : Str} (hn : rows nd = some (sds nm)) (hs : rows sd = some (ts.map Tr.d)) : calF T (n + 1) 9 [nd, sd, .str s] = .ok (tupS (mw nm ts s), []) := by
  rw [show calF T (n + 1) 9 = runF (calF T n) f9 from rfl]
  have h1 : ev (calF T n) (.comp (.var 4) (.tup (.cons (.var 4) (.cons (.var 5) (.cons (.var 6) .nil)))) (.var 1) (.and (.cmp .Eq (.var 5) (.var 2)) (.var 6)) [4, 5, 6]) [.dat nd, .dat sd, .dat (.str s), .un, .un, .un, .un, .un] =
      .ok (.lst ((ts.filter fun t => decide (t.s = s) && t.l).map fun t => tupS t.B), [.dat nd, .dat sd, .dat (.str s), .un, .un, .un, .un, .un]) := by
    refine ev_cmp1 (d := sd) Tr.d (fun t => decide (t.s = s) && t.l) (fun t => tupS t.B) rfl (rowsE_of hs) rfl rfl rfl fun t _ => ?_
    refine ⟨[.dat nd, .dat sd, .dat (.str s), .un, .dat (tupS t.B), .dat (.str t.s), .dat (.bl t.l), .un], [.dat nd, .dat sd, .dat (.str s), .un, .dat (tupS t.B), .dat (.str t.s), .dat (.bl t.l), .un], rfl, ?_, fun _ => rfl, fun _ => ⟨_, rfl, rfl⟩⟩
    by_cases c : t.s = s <;> simp [ev_nil, ev_cons, ev_var, ev_con, ev_cI, ev_cS, ev_cB, ev_cN, ev_lst, ev_tup, ev_dic0, ev_bin, ev_neg, ev_not, ev_and, ev_or, ev_cmp, ev_ife, ev_isi, ev_cal, ev_ioA, ev_borA, ev_blt, ev_lenP, ev_sub, ev_subP, ev_slc, ev_rng, ev_rev, ev_items, xs_skip, xs_seq, xs_asg, xs_asgO, xs_frz, xs_fgt, xs_app, xs_ext, xs_setI, xs_exp, xs_ret, xs_retO, xs_retN, xs_ite, xs_rai, xs_par, parR, parM, parO, parDO, parOD, okS, rb_ok, opt, optB, one, truR, tru, optE, bindT, argsD, putOuts, putM, pk, mk, frE, slotsOf, outsOf, runF, wipeE, cmpD, deq_str, c]
  have h2 : ∀ rs : List (List Str), ev (calF T n) (.comp (.var 7) (.var 7) (.var 0) (.and (.cmp .NotEq (.var 7) (.var 2)) (.blt .all (.cons (.comp (.cmp .In (.var 7) (.var 4)) (.var 4) (.var 3) (.cB true) [4]) .nil))) [7]) [.dat nd, .dat sd, .dat (.str s), .dat (.lst (rs.map tupS)), .un, .un, .un, .un] =
      .ok (.lst (sds (nm.filter fun n => !decide (n = s) && rs.all fun r => isIn n r)), [.dat nd, .dat sd, .dat (.str s), .dat (.lst (rs.map tupS)), .un, .un, .un, .un]) := by
    intro rs
    refine ev_cmp1 (d := nd) D.str (fun n => !decide (n = s) && rs.all fun r => isIn n r) D.str rfl (rowsE_of hn) rfl rfl rfl fun x _ => ?_
    refine ⟨[.dat nd, .dat sd, .dat (.str s), .dat (.lst (rs.map tupS)), .un, .un, .un, .dat (.str x)], [.dat nd, .dat sd, .dat (.str s), .dat (.lst (rs.map tupS)), .un, .un, .un, .dat (.str x)], rfl, ?_, fun _ => rfl, fun _ => ⟨_, rfl, rfl⟩⟩
    have h3 : ev (calF T n) (.comp (.cmp .In (.var 7) (.var 4)) (.var 4) (.var 3) (.cB true) [4]) [.dat nd, .dat sd, .dat (.str s), .dat (.lst (rs.map tupS)), .un, .un, .un, .dat (.str x)] =
        .ok (.lst (rs.map fun r => .bl (isIn x r)), [.dat nd, .dat sd, .dat (.str s), .dat (.lst (rs.map tupS)), .un, .un, .un, .dat (.str x)]) :=
      ev_cmp0 (d := .lst (rs.map tupS)) tupS (fun r => .bl (isIn x r)) rfl rfl rfl rfl rfl fun r _ => ⟨[.dat nd, .dat sd, .dat (.str s), .dat (.lst (rs.map tupS)), .dat (tupS r), .un, .un, .dat (.str x)], [.dat nd, .dat sd, .dat (.str s), .dat (.lst (rs.map tupS)), .dat (tupS r), .un, .un, .dat (.str x)], rfl, by simp [ev_nil, ev_cons, ev_var, ev_con, ev_cI, ev_cS, ev_cB, ev_cN, ev_lst, ev_tup, ev_dic0, ev_bin, ev_neg, ev_not, ev_and, ev_or, ev_cmp, ev_ife, ev_isi, ev_cal, ev_ioA, ev_borA, ev_blt, ev_lenP, ev_sub, ev_subP, ev_slc, ev_rng, ev_rev, ev_items, xs_skip, xs_seq, xs_asg, xs_asgO, xs_frz, xs_fgt, xs_app, xs_ext, xs_setI, xs_exp, xs_ret, xs_retO, xs_retN, xs_ite, xs_rai, xs_par, parR, parM, parO, parDO, parOD, okS, rb_ok, opt, optB, one, truR, tru, optE, bindT, argsD, putOuts, putM, pk, mk, frE, slotsOf, outsOf, runF, wipeE, cmpD, din_tup], rfl⟩
    by_cases c : x = s
    · subst c
      simp [ev_nil, ev_cons, ev_var, ev_con, ev_cI, ev_cS, ev_cB, ev_cN, ev_lst, ev_tup, ev_dic0, ev_bin, ev_neg, ev_not, ev_and, ev_or, ev_cmp, ev_ife, ev_isi, ev_cal, ev_ioA, ev_borA, ev_blt, ev_lenP, ev_sub, ev_subP, ev_slc, ev_rng, ev_rev, ev_items, xs_skip, xs_seq, xs_asg, xs_asgO, xs_frz, xs_fgt, xs_app, xs_ext, xs_setI, xs_exp, xs_ret, xs_retO, xs_retN, xs_ite, xs_rai, xs_par, parR, parM, parO, parDO, parOD, okS, rb_ok, opt, optB, one, truR, tru, optE, bindT, argsD, putOuts, putM, pk, mk, frE, slotsOf, outsOf, runF, wipeE, cmpD, deq_str]
    · simp [ev_nil, ev_cons, ev_var, ev_con, ev_cI, ev_cS, ev_cB, ev_cN, ev_lst, ev_tup, ev_dic0, ev_bin, ev_neg, ev_not, ev_and, ev_or, ev_cmp, ev_ife, ev_isi, ev_cal, ev_ioA, ev_borA, ev_blt, ev_lenP, ev_sub, ev_subP, ev_slc, ev_rng, ev_rev, ev_items, xs_skip, xs_seq, xs_asg, xs_asgO, xs_frz, xs_fgt, xs_app, xs_ext, xs_setI, xs_exp, xs_ret, xs_retO, xs_retN, xs_ite, xs_rai, xs_par, parR, parM, parO, parDO, parOD, okS, rb_ok, opt, optB, one, truR, tru, optE, bindT, argsD, putOuts, putM, pk, mk, frE, slotsOf, outsOf, runF, wipeE, cmpD, deq_str, c, h3, all_map]
  have e0 : ((ts.filter fun t => decide (t.s = s) && t.l).map fun t => tupS t.B) = ((ts.filter fun t => decide (t.s = s) && t.l).map Tr.B).map tupS := by simp [List.map_map, Function.comp_def]
  rw [e0] at h1
  have h4 := h2 ((ts.filter fun t => decide (t.s = s) && t.l).map Tr.B)
  have e1 : (nm.filter fun n => !decide (n = s) && ((ts.filter fun t => decide (t.s = s) && t.l).map Tr.B).all fun r => isIn n r) = mw nm ts s := by
    unfold mw
    congr 1
    funext x
    rw [List.all_map]
    rfl
  rw [e1] at h4
  generalize (ts.filter fun t => decide (t.s = s) && t.l).map Tr.B = rs at h1 h4
  generalize hr : D.lst (rs.map tupS) = rd at h1 h4
  simp [ev_nil, ev_cons, ev_var, ev_con, ev_cI, ev_cS, ev_cB, ev_cN, ev_lst, ev_tup, ev_dic0, ev_bin, ev_neg, ev_not, ev_and, ev_or, ev_cmp, ev_ife, ev_isi, ev_cal, ev_ioA, ev_borA, ev_blt, ev_lenP, ev_sub, ev_subP, ev_slc, ev_rng, ev_rev, ev_items, xs_skip, xs_seq, xs_asg, xs_asgO, xs_frz, xs_fgt, xs_app, xs_ext, xs_setI, xs_exp, xs_ret, xs_retO, xs_retN, xs_ite, xs_rai, xs_par, parR, parM, parO, parDO, parOD, okS, rb_ok, opt, optB, one, truR, tru, optE, bindT, argsD, putOuts, putM, pk, mk, frE, slotsOf, outsOf, runF, wipeE, f9, h1, h4, setV, bltD, tupS]
theorem rrT {n : Nat} {nd sd : D} {nm : List Str} {ts : List Tr} {s : Str} (hn : rows nd = some (sds nm)) (hs : rows sd = some (ts.map Tr.d)) : calF T (n + 2) 10 [nd, sd, .str s] = .ok (.lst ((rr nm ts s).map fun r => .lst (sds r)), []) := by
  rw [show calF T (n + 2) 10 = runF (calF T (n + 1)) f10 from rfl]
  have h0 := mwT (n := n) (s := s) hn hs
  have h1 : ev (calF T (n + 1)) (.comp (.comp (.var 4) (.var 4) (.var 3) (.cmp .NotIn (.var 4) (.var 5)) [4]) (.tup (.cons (.var 5) (.cons (.var 6) (.cons (.var 7) .nil)))) (.var 1) (.and (.cmp .Eq (.var 6) (.var 2)) (.not (.var 7))) [5, 6, 7]) [.dat nd, .dat sd, .dat (.str s), .dat (tupS (mw nm ts s)), .un, .un, .un, .un] =
      .ok (.lst ((ts.filter fun t => decide (t.s = s) && !t.l).map fun t => .lst (sds ((mw nm ts s).filter fun n => !isIn n t.B))), [.dat nd, .dat sd, .dat (.str s), .dat (tupS (mw nm ts s)), .un, .un, .un, .un]) := by
    refine ev_cmp1 (d := sd) Tr.d (fun t => decide (t.s = s) && !t.l) (fun t => .lst (sds ((mw nm ts s).filter fun n => !isIn n t.B))) rfl (rowsE_of hs) rfl rfl rfl fun t _ => ?_
    have h2 : ev (calF T (n + 1)) (.comp (.var 4) (.var 4) (.var 3) (.cmp .NotIn (.var 4) (.var 5)) [4]) [.dat nd, .dat sd, .dat (.str s), .dat (tupS (mw nm ts s)), .un, .dat (tupS t.B), .dat (.str t.s), .dat (.bl t.l)] =
        .ok (.lst (sds ((mw nm ts s).filter fun n => !isIn n t.B)), [.dat nd, .dat sd, .dat (.str s), .dat (tupS (mw nm ts s)), .un, .dat (tupS t.B), .dat (.str t.s), .dat (.bl t.l)]) := by
      refine ev_cmp1 (d := tupS (mw nm ts s)) D.str (fun n => !isIn n t.B) D.str rfl rfl rfl rfl rfl fun x _ => ?_
      refine ⟨[.dat nd, .dat sd, .dat (.str s), .dat (tupS (mw nm ts s)), .dat (.str x), .dat (tupS t.B), .dat (.str t.s), .dat (.bl t.l)], [.dat nd, .dat sd, .dat (.str s), .dat (tupS (mw nm ts s)), .dat (.str x), .dat (tupS t.B), .dat (.str t.s), .dat (.bl t.l)], rfl, ?_, fun _ => rfl, fun _ => ⟨_, rfl, rfl⟩⟩
      simp [ev_nil, ev_cons, ev_var, ev_con, ev_cI, ev_cS, ev_cB, ev_cN, ev_lst, ev_tup, ev_dic0, ev_bin, ev_neg, ev_not, ev_and, ev_or, ev_cmp, ev_ife, ev_isi, ev_cal, ev_ioA, ev_borA, ev_blt, ev_lenP, ev_sub, ev_subP, ev_slc, ev_rng, ev_rev, ev_items, xs_skip, xs_seq, xs_asg, xs_asgO, xs_frz, xs_fgt, xs_app, xs_ext, xs_setI, xs_exp, xs_ret, xs_retO, xs_retN, xs_ite, xs_rai, xs_par, parR, parM, parO, parDO, parOD, okS, rb_ok, opt, optB, one, truR, tru, optE, bindT, argsD, putOuts, putM, pk, mk, frE, slotsOf, outsOf, runF, wipeE, cmpD, din_tup]
    refine ⟨[.dat nd, .dat sd, .dat (.str s), .dat (tupS (mw nm ts s)), .un, .dat (tupS t.B), .dat (.str t.s), .dat (.bl t.l)], [.dat nd, .dat sd, .dat (.str s), .dat (tupS (mw nm ts s)), .un, .dat (tupS t.B), .dat (.str t.s), .dat (.bl t.l)], rfl, ?_, fun _ => rfl, fun _ => ⟨_, h2, rfl⟩⟩
    by_cases c : t.s = s <;> simp [ev_nil, ev_cons, ev_var, ev_con, ev_cI, ev_cS, ev_cB, ev_cN, ev_lst, ev_tup, ev_dic0, ev_bin, ev_neg, ev_not, ev_and, ev_or, ev_cmp, ev_ife, ev_isi, ev_cal, ev_ioA, ev_borA, ev_blt, ev_lenP, ev_sub, ev_subP, ev_slc, ev_rng, ev_rev, ev_items, xs_skip, xs_seq, xs_asg, xs_asgO, xs_frz, xs_fgt, xs_app, xs_ext, xs_setI, xs_exp, xs_ret, xs_retO, xs_retN, xs_ite, xs_rai, xs_par, parR, parM, parO, parDO, parOD, okS, rb_ok, opt, optB, one, truR, tru, optE, bindT, argsD, putOuts, putM, pk, mk, frE, slotsOf, outsOf, runF, wipeE, cmpD, deq_str, c]
  have e0 : ((ts.filter fun t => decide (t.s = s) && !t.l).map fun t => D.lst (sds ((mw nm ts s).filter fun n => !isIn n t.B))) = (rr nm ts s).map fun r => .lst (sds r) := by
    unfold rr
    rw [List.map_map]
    rfl
  rw [e0] at h1
  simp [ev_nil, ev_cons, ev_var, ev_con, ev_cI, ev_cS, ev_cB, ev_cN, ev_lst, ev_tup, ev_dic0, ev_bin, ev_neg, ev_not, ev_and, ev_or, ev_cmp, ev_ife, ev_isi, ev_cal, ev_ioA, ev_borA, ev_blt, ev_lenP, ev_sub, ev_subP, ev_slc, ev_rng, ev_rev, ev_items, xs_skip, xs_seq, xs_asg, xs_asgO, xs_frz, xs_fgt, xs_app, xs_ext, xs_setI, xs_exp, xs_ret, xs_retO, xs_retN, xs_ite, xs_rai, xs_par, parR, parM, parO, parDO, parOD, okS, rb_ok, opt, optB, one, truR, tru, optE, bindT, argsD, putOuts, putM, pk, mk, frE, slotsOf, outsOf, runF, wipeE, f10, h0, h1, setV]
theorem mw_mem {nm : List Str} {ts : List Tr} {s x : Str} (h : x ∈ mw nm ts s) : x ∈ nm := (List.mem_filter.mp h).1
theorem rr_mem {nm : List Str} {ts : List Tr} {s x : Str} {r : List Str} (h : r ∈ rr nm ts s) (hx : x ∈ r) : x ∈ nm := by
  obtain ⟨t, _, rfl⟩ := List.mem_map.mp h
  exact mw_mem (List.mem_filter.mp hx).1
theorem isXT {n : Nat} {nd sd : D} {nm : List Str} {ts : List Tr} (hn : rows nd = some (sds nm)) (hs : rows sd = some (ts.map Tr.d)) (hg : ∀ x ∈ nm, goodS x) : calF T (n + 3) 11 [nd, sd] = .ok (.bl (isX nm ts), []) := by
  rw [show calF T (n + 3) 11 = runF (calF T (n + 2)) f11 from rfl]
  have h1 : ev (calF T (n + 2)) (.comp (.cmp .In (.lst .nil) (.cal 10 (.cons (.var 0) (.cons (.var 1) (.cons (.var 2) .nil))) true)) (.var 2) (.var 0) (.cB true) [2]) [.dat nd, .dat sd, .un] =
      .ok (.lst (nm.map fun s => .bl ((rr nm ts s).any fun r => r.isEmpty)), [.dat nd, .dat sd, .un]) := by
    refine ev_cmp0 (d := nd) D.str (fun s => .bl ((rr nm ts s).any fun r => r.isEmpty)) rfl (rowsE_of hn) rfl rfl rfl fun s _ => ?_
    refine ⟨[.dat nd, .dat sd, .dat (.str s)], [.dat nd, .dat sd, .dat (.str s)], rfl, ?_, rfl⟩
    have h2 := rrT (n := n) (s := s) hn hs
    have h3 := din_rows (q := []) (rs := rr nm ts s) (fun _ h => by cases h) (fun r hr x hx => hg x (rr_mem hr hx))
    have h4 : ((rr nm ts s).any fun r => decide (r = [])) = (rr nm ts s).any fun r => r.isEmpty := by
      congr 1
      funext r
      cases r <;> rfl
    rw [h4] at h3
    have h5 : sds [] = [] := rfl
    rw [h5] at h3
    simp [ev_nil, ev_cons, ev_var, ev_con, ev_cI, ev_cS, ev_cB, ev_cN, ev_lst, ev_tup, ev_dic0, ev_bin, ev_neg, ev_not, ev_and, ev_or, ev_cmp, ev_ife, ev_isi, ev_cal, ev_ioA, ev_borA, ev_blt, ev_lenP, ev_sub, ev_subP, ev_slc, ev_rng, ev_rev, ev_items, xs_skip, xs_seq, xs_asg, xs_asgO, xs_frz, xs_fgt, xs_app, xs_ext, xs_setI, xs_exp, xs_ret, xs_retO, xs_retN, xs_ite, xs_rai, xs_par, parR, parM, parO, parDO, parOD, okS, rb_ok, opt, optB, one, truR, tru, optE, bindT, argsD, putOuts, putM, pk, mk, frE, slotsOf, outsOf, runF, wipeE, h2, cmpD, h3]
  simp [ev_nil, ev_cons, ev_var, ev_con, ev_cI, ev_cS, ev_cB, ev_cN, ev_lst, ev_tup, ev_dic0, ev_bin, ev_neg, ev_not, ev_and, ev_or, ev_cmp, ev_ife, ev_isi, ev_cal, ev_ioA, ev_borA, ev_blt, ev_lenP, ev_sub, ev_subP, ev_slc, ev_rng, ev_rev, ev_items, xs_skip, xs_seq, xs_asg, xs_asgO, xs_frz, xs_fgt, xs_app, xs_ext, xs_setI, xs_exp, xs_ret, xs_retO, xs_retN, xs_ite, xs_rai, xs_par, parR, parM, parO, parDO, parOD, okS, rb_ok, opt, optB, one, truR, tru, optE, bindT, argsD, putOuts, putM, pk, mk, frE, slotsOf, outsOf, runF, wipeE, f11, h1, any_map, isX]
theorem seenT {n : Nat} {nm : List Str} {ts : List Tr} {sd : D} (h : nm ∈ namesL) (hs : sd = .lst (ts.map Tr.d) ∨ sd = .tup (ts.map Tr.d)) (ht : ∀ t ∈ ts, t.ok nm) : calF T (n + 5) 8 [tupS nm, sd] = .ok (.non, []) := by
  rw [show calF T (n + 5) 8 = runF (calF T (n + 4)) f8 from rfl]
  have h0 := namesT (n := n) h
  have h1 : calF T (n + 4) 7 [tupS nm, sd] = .ok (.bl true, []) := by
    rw [show calF T (n + 4) 7 = runF (calF T (n + 3)) f7 from rfl]
    have h2 : calF T (n + 3) 1 [sd] = .ok (.bl true, []) := by
      rcases hs with rfl | rfl <;> rfl
    have h3 : rows sd = some (ts.map Tr.d) := by rcases hs with rfl | rfl <;> rfl
    have h4 : ev (calF T (n + 3)) (.comp (.cal 5 (.cons (.var 0) (.cons (.var 2) .nil)) false) (.var 2) (.var 1) (.cB true) [2]) [.dat (tupS nm), .dat sd, .un] = .ok (.lst (ts.map fun _ => .bl true), [.dat (tupS nm), .dat sd, .un]) := by
      refine ev_cmp0 (d := sd) Tr.d (fun _ => .bl true) rfl (rowsE_of h3) rfl rfl rfl fun t htm => ?_
      refine ⟨[.dat (tupS nm), .dat sd, .dat t.d], [.dat (tupS nm), .dat sd, .dat t.d], rfl, ?_, rfl⟩
      have h5 := tripleT (n := n) h (ht t htm)
      generalize t.d = td at h5
      simp [ev_nil, ev_cons, ev_var, ev_con, ev_cI, ev_cS, ev_cB, ev_cN, ev_lst, ev_tup, ev_dic0, ev_bin, ev_neg, ev_not, ev_and, ev_or, ev_cmp, ev_ife, ev_isi, ev_cal, ev_ioA, ev_borA, ev_blt, ev_lenP, ev_sub, ev_subP, ev_slc, ev_rng, ev_rev, ev_items, xs_skip, xs_seq, xs_asg, xs_asgO, xs_frz, xs_fgt, xs_app, xs_ext, xs_setI, xs_exp, xs_ret, xs_retO, xs_retN, xs_ite, xs_rai, xs_par, parR, parM, parO, parDO, parOD, okS, rb_ok, opt, optB, one, truR, tru, optE, bindT, argsD, putOuts, putM, pk, mk, frE, slotsOf, outsOf, runF, wipeE, h5]
    have h6 := all_map (fun _ : Tr => true) ts
    simp [ev_nil, ev_cons, ev_var, ev_con, ev_cI, ev_cS, ev_cB, ev_cN, ev_lst, ev_tup, ev_dic0, ev_bin, ev_neg, ev_not, ev_and, ev_or, ev_cmp, ev_ife, ev_isi, ev_cal, ev_ioA, ev_borA, ev_blt, ev_lenP, ev_sub, ev_subP, ev_slc, ev_rng, ev_rev, ev_items, xs_skip, xs_seq, xs_asg, xs_asgO, xs_frz, xs_fgt, xs_app, xs_ext, xs_setI, xs_exp, xs_ret, xs_retO, xs_retN, xs_ite, xs_rai, xs_par, parR, parM, parO, parDO, parOD, okS, rb_ok, opt, optB, one, truR, tru, optE, bindT, argsD, putOuts, putM, pk, mk, frE, slotsOf, outsOf, runF, wipeE, f7, h2, h4, h6]
  simp [ev_nil, ev_cons, ev_var, ev_con, ev_cI, ev_cS, ev_cB, ev_cN, ev_lst, ev_tup, ev_dic0, ev_bin, ev_neg, ev_not, ev_and, ev_or, ev_cmp, ev_ife, ev_isi, ev_cal, ev_ioA, ev_borA, ev_blt, ev_lenP, ev_sub, ev_subP, ev_slc, ev_rng, ev_rev, ev_items, xs_skip, xs_seq, xs_asg, xs_asgO, xs_frz, xs_fgt, xs_app, xs_ext, xs_setI, xs_exp, xs_ret, xs_retO, xs_retN, xs_ite, xs_rai, xs_par, parR, parM, parO, parDO, parOD, okS, rb_ok, opt, optB, one, truR, tru, optE, bindT, argsD, putOuts, putM, pk, mk, frE, slotsOf, outsOf, runF, wipeE, f8, h0, h1]
theorem gwT {n : Nat} {nm : List Str} {ts : List Tr} {sd : D} (h : nm ∈ namesL) (hs : sd = .lst (ts.map Tr.d) ∨ sd = .tup (ts.map Tr.d)) (ht : ∀ t ∈ ts, t.ok nm) :
    calF T (n + 6) 12 [tupS nm, sd] = .ok (if isX nm ts then .dic (wKv (nm.map fun s => (s, mw nm ts s))) else .non, []) := by
  rw [show calF T (n + 6) 12 = runF (calF T (n + 5)) f12 from rfl]
  have h0 := seenT (n := n) h hs ht
  have hn : rows (tupS nm) = some (sds nm) := rfl
  have h3 : rows sd = some (ts.map Tr.d) := by rcases hs with rfl | rfl <;> rfl
  have h1 := isXT (n := n + 2) hn h3 (good_names h)
  cases c : isX nm ts with
  | false =>
    rw [c] at h1
    simp [ev_nil, ev_cons, ev_var, ev_con, ev_cI, ev_cS, ev_cB, ev_cN, ev_lst, ev_tup, ev_dic0, ev_bin, ev_neg, ev_not, ev_and, ev_or, ev_cmp, ev_ife, ev_isi, ev_cal, ev_ioA, ev_borA, ev_blt, ev_lenP, ev_sub, ev_subP, ev_slc, ev_rng, ev_rev, ev_items, xs_skip, xs_seq, xs_asg, xs_asgO, xs_frz, xs_fgt, xs_app, xs_ext, xs_setI, xs_exp, xs_ret, xs_retO, xs_retN, xs_ite, xs_rai, xs_par, parR, parM, parO, parDO, parOD, okS, rb_ok, opt, optB, one, truR, tru, optE, bindT, argsD, putOuts, putM, pk, mk, frE, slotsOf, outsOf, runF, wipeE, f12, h0, h1]
  | true =>
    rw [c] at h1
    have h4 : ev (calF T (n + 5)) (.dcmp (.var 2) (.cal 9 (.cons (.var 0) (.cons (.var 1) (.cons (.var 2) .nil))) true) (.var 2) (.var 0) [2]) [.dat (tupS nm), .dat sd, .un] = .ok (.dic (wKv (nm.map fun s => (s, mw nm ts s))), [.dat (tupS nm), .dat sd, .un]) := by
      have h5 := dcmpGo_of (tgt := .var 2) (key := ev (calF T (n + 5)) (.var 2)) (val := ev (calF T (n + 5)) (.cal 9 (.cons (.var 0) (.cons (.var 1) (.cons (.var 2) .nil))) true)) (own := [2]) (e0 := [.dat (tupS nm), .dat sd, .un]) D.str kx D.str (fun s => tupS (mw nm ts s)) nm [] (fun s _ => by
        refine ⟨[.dat (tupS nm), .dat sd, .dat (.str s)], [.dat (tupS nm), .dat sd, .dat (.str s)], [.dat (tupS nm), .dat sd, .dat (.str s)], rfl, rfl, rfl, ?_, rfl⟩
        have h6 := mwT (n := n + 4) (s := s) hn h3
        simp [ev_nil, ev_cons, ev_var, ev_con, ev_cI, ev_cS, ev_cB, ev_cN, ev_lst, ev_tup, ev_dic0, ev_bin, ev_neg, ev_not, ev_and, ev_or, ev_cmp, ev_ife, ev_isi, ev_cal, ev_ioA, ev_borA, ev_blt, ev_lenP, ev_sub, ev_subP, ev_slc, ev_rng, ev_rev, ev_items, xs_skip, xs_seq, xs_asg, xs_asgO, xs_frz, xs_fgt, xs_app, xs_ext, xs_setI, xs_exp, xs_ret, xs_retO, xs_retN, xs_ite, xs_rai, xs_par, parR, parM, parO, parDO, parOD, okS, rb_ok, opt, optB, one, truR, tru, optE, bindT, argsD, putOuts, putM, pk, mk, frE, slotsOf, outsOf, runF, wipeE, h6])
      rw [put_all kx _ nm [] (List.Pairwise.map kx (fun a b hab e => hab (kx_inj.mp e)) (nodup_names h)) (fun p hp => by cases hp), List.nil_append] at h5
      show ((ev (calF T (n + 5)) (.var 0) [.dat (tupS nm), .dat sd, .un]).bind _) = _
      rw [show ev (calF T (n + 5)) (.var 0) [.dat (tupS nm), .dat sd, .un] = .ok (tupS nm, [.dat (tupS nm), .dat sd, .un]) from rfl, rb_ok]
      show (calm (dcmpGo (.var 2) _ _ [2] (nm.map D.str) [.dat (tupS nm), .dat sd, .un] [])).bind _ = _
      rw [h5]
      unfold wKv
      rw [List.map_map]
      rfl
    simp [ev_nil, ev_cons, ev_var, ev_con, ev_cI, ev_cS, ev_cB, ev_cN, ev_lst, ev_tup, ev_dic0, ev_bin, ev_neg, ev_not, ev_and, ev_or, ev_cmp, ev_ife, ev_isi, ev_cal, ev_ioA, ev_borA, ev_blt, ev_lenP, ev_sub, ev_subP, ev_slc, ev_rng, ev_rev, ev_items, xs_skip, xs_seq, xs_asg, xs_asgO, xs_frz, xs_fgt, xs_app, xs_ext, xs_setI, xs_exp, xs_ret, xs_retO, xs_retN, xs_ite, xs_rai, xs_par, parR, parM, parO, parDO, parOD, okS, rb_ok, opt, optB, one, truR, tru, optE, bindT, argsD, putOuts, putM, pk, mk, frE, slotsOf, outsOf, runF, wipeE, f12, h0, h1, h4]
theorem ans1 {n : Nat} {nm : List Str} {m : Int} (h : nm ∈ namesL) (P : D) (hP : poolOk P) :
    ∃ e', forGo (.var 4) (exS (calF T (n + 2)) (.seq (.setI 3 (.var 4) (.cal 19 (.cons (.ioA 0) (.cons (.cal 21 (.cons (.comp (.var 10) (.var 10) (.var 1) (.cmp .NotEq (.var 10) (.var 4)) [10]) .nil) false) .nil)) false)) .skip)) (nm.map D.str) [.io P, .dat (tupS nm), .dat (.int m), .own (.dic []), .un, .un, .un, .un, .un, .un, .un] = .ok (.nx e') ∧
      ∃ P kvs s4, e' = [.io P, .dat (tupS nm), .dat (.int m), .own (.dic kvs), s4, .un, .un, .un, .un, .un, .un] ∧ fre (some s4) = true ∧ poolOk P ∧ kvs.length ≤ nm.length ∧ ∀ x ∈ nm, ∃ r ∈ parts (others nm x), lookD kvs (kx x) = some (tupS r) := by
  refine forGo_pre D.str (fun done e => ∃ P kvs s4, e = [.io P, .dat (tupS nm), .dat (.int m), .own (.dic kvs), s4, .un, .un, .un, .un, .un, .un] ∧ fre (some s4) = true ∧ poolOk P ∧ kvs.length ≤ done.length ∧ ∀ x ∈ done, ∃ r ∈ parts (others nm x), lookD kvs (kx x) = some (tupS r)) nm nm [] _ rfl ⟨P, [], .un, rfl, rfl, hP, Nat.le_refl _, fun x hx => by cases hx⟩ ?_
  rintro done x rest hall e ⟨P, kvs, s4, rfl, f4, hP, hl, hk⟩
  have hx : x ∈ nm := by rw [hall]; simp
  have hnl : nm.length ≤ 4 := by
    have : (namesL.all fun nm => decide (nm.length ≤ 4)) = true := by decide +kernel
    exact of_decide_eq_true (List.all_eq_true.mp this nm h)
  have hdl : done.length < 4 := by
    have := congrArg List.length hall
    rw [List.length_append, List.length_cons] at this
    omega
  have p0 := partsT (n := n + 1) h hx
  obtain ⟨y, P', e1, hy, hP'⟩ := oneT (n := n) (x := .lst ((parts (others nm x)).map tupS)) (.inl rfl) hP (by
    have : (pairsL.all fun p => !(parts (others p.1 p.2)).isEmpty) = true := by decide +kernel
    have := List.all_eq_true.mp this _ (mem_pairs h hx)
    intro z
    rw [List.map_eq_nil_iff] at z
    rw [z] at this
    cases this) (by
    have : (pairsL.all fun p => decide ((parts (others p.1 p.2)).length < 100)) = true := by decide +kernel
    have := of_decide_eq_true (List.all_eq_true.mp this _ (mem_pairs h hx))
    rw [List.length_map]
    dsimp only at this
    omega)
  obtain ⟨r, hr, rfl⟩ := List.mem_map.mp hy
  have hc := ev_others (cal := calF T (n + 2)) (env := [.io P, .dat (tupS nm), .dat (.int m), .own (.dic kvs), .dat (.str x), .un, .un, .un, .un, .un, .un]) (i := 10) (j := 1) (k := 4) (nd := tupS nm) (nm := nm) (s := x) rfl rfl rfl rfl (by decide) (by decide)
  have hs : kvs.length < sizeLine := by rw [sizeLine_eq]; omega
  refine ⟨[.io P, .dat (tupS nm), .dat (.int m), .own (.dic kvs), .dat (.str x), .un, .un, .un, .un, .un, .un], [.io P', .dat (tupS nm), .dat (.int m), .own (.dic (putD kvs (kx x) (tupS r))), .dat (.str x), .un, .un, .un, .un, .un, .un], ?_, ?_, P', _, .dat (.str x), rfl, rfl, hP', ?_, ?_⟩
  · show setV _ _ _ = _
    exact setV_fre f4
  · have hk' : (D.str x).key = some (kx x) := rfl
    simp only [List.set_cons_zero, List.set_cons_succ] at hc
    simp [ev_nil, ev_cons, ev_var, ev_con, ev_cI, ev_cS, ev_cB, ev_cN, ev_lst, ev_tup, ev_dic0, ev_bin, ev_neg, ev_not, ev_and, ev_or, ev_cmp, ev_ife, ev_isi, ev_cal, ev_ioA, ev_borA, ev_blt, ev_lenP, ev_sub, ev_subP, ev_slc, ev_rng, ev_rev, ev_items, xs_skip, xs_seq, xs_asg, xs_asgO, xs_frz, xs_fgt, xs_app, xs_ext, xs_setI, xs_exp, xs_ret, xs_retO, xs_retN, xs_ite, xs_rai, xs_par, parR, parM, parO, parDO, parOD, okS, rb_ok, opt, optB, one, truR, tru, optE, bindT, argsD, putOuts, putM, pk, mk, frE, slotsOf, outsOf, runF, wipeE, hc, p0, e1, setM, hk', hs]
  · rw [List.length_append]
    have := put_len (kvs := kvs) (k := kx x) (v := tupS r)
    simp only [List.length_singleton]
    omega
  · intro z hz
    rw [look_put]
    by_cases e : x = z
    · subst e
      exact ⟨r, hr, by rw [if_pos rfl]⟩
    · rcases List.mem_append.mp hz with q | q
      · obtain ⟨r', hr', e'⟩ := hk z q
        exact ⟨r', hr', by rw [if_neg (fun w => e (kx_inj.mp w))]; exact e'⟩
      · exact absurd (List.mem_singleton.mp q).symm e
theorem parts_ne {nm : List Str} {s : Str} (h : nm ∈ namesL) (hx : s ∈ nm) : (parts (others nm s)).map tupS ≠ [] ∧ ((parts (others nm s)).map tupS).length < 1073741824 := by
  constructor
  · have : (pairsL.all fun p => !(parts (others p.1 p.2)).isEmpty) = true := by decide +kernel
    have := List.all_eq_true.mp this _ (mem_pairs h hx)
    intro z
    rw [List.map_eq_nil_iff] at z
    rw [z] at this
    cases this
  · have : (pairsL.all fun p => decide ((parts (others p.1 p.2)).length < 100)) = true := by decide +kernel
    have := of_decide_eq_true (List.all_eq_true.mp this _ (mem_pairs h hx))
    rw [List.length_map]
    dsimp only at this
    omega
theorem names_ne {nm : List Str} (h : nm ∈ namesL) : sds nm ≠ [] ∧ (sds nm).length < 1073741824 := by
  constructor
  · have : (namesL.all fun nm => !(sds nm).isEmpty) = true := by decide +kernel
    have := List.all_eq_true.mp this _ h
    intro z
    rw [z] at this
    cases this
  · have : (namesL.all fun nm => decide ((sds nm).length < 100)) = true := by decide +kernel
    have := of_decide_eq_true (List.all_eq_true.mp this _ h)
    omega
theorem ans2 {n : Nat} {nm : List Str} {m : Nat} (hm : m < 1000) (h : nm ∈ namesL) (P : D) (hP : poolOk P) (kvs : List (Ky × D)) (hk : ∀ x ∈ nm, ∃ r ∈ parts (others nm x), lookD kvs (kx x) = some (tupS r)) (s4 : Slot) (f4 : fre (some s4) = true) :
    ∃ e', forGo (.var 6) (exS (calF T (n + 2)) (.seq (.asg (.var 7) (.cal 19 (.cons (.ioA 0) (.cons (.var 1) .nil)) false))
    (.seq (.asg (.var 8) (.cal 19 (.cons (.ioA 0) (.cons (.cal 21 (.cons (.comp (.var 10) (.var 10) (.var 1) (.cmp .NotEq (.var 10) (.var 7)) [10]) .nil) false) .nil)) false))
    (.seq (.asg (.var 9) (.cmp .Eq (.comp (.var 4) (.var 4) (.subP 3 (.var 7)) (.cmp .NotIn (.var 4) (.var 8)) [4]) (.lst .nil)))
    (.seq (.app 5 (.tup (.cons (.var 8) (.cons (.var 7) (.cons (.ife (.cmp .Gt (.cal 18 (.cons (.ioA 0) (.cons (.cI 12) .nil)) false) (.cI 0)) (.var 9) (.not (.var 9))) .nil)))))
    .skip))))) ((List.range m).map fun i => D.int (i : Nat)) [.io P, .dat (tupS nm), .dat (.int m), .own (.dic kvs), s4, .own (.lst []), .un, .un, .un, .un, .un] = .ok (.nx e') ∧
      ∃ (P : D) (ts : List Tr) (s4 s6 s7 s8 s9 : Slot), e' = [.io P, .dat (tupS nm), .dat (.int m), .own (.dic kvs), s4, .own (.lst (ts.map Tr.d)), s6, s7, s8, s9, .un] ∧ poolOk P ∧ ts.length = m ∧ ∀ t ∈ ts, t.ok nm := by
  have key := forGo_pre (tgt := .var 6) (body := exS (calF T (n + 2)) (.seq (.asg (.var 7) (.cal 19 (.cons (.ioA 0) (.cons (.var 1) .nil)) false))
    (.seq (.asg (.var 8) (.cal 19 (.cons (.ioA 0) (.cons (.cal 21 (.cons (.comp (.var 10) (.var 10) (.var 1) (.cmp .NotEq (.var 10) (.var 7)) [10]) .nil) false) .nil)) false))
    (.seq (.asg (.var 9) (.cmp .Eq (.comp (.var 4) (.var 4) (.subP 3 (.var 7)) (.cmp .NotIn (.var 4) (.var 8)) [4]) (.lst .nil)))
    (.seq (.app 5 (.tup (.cons (.var 8) (.cons (.var 7) (.cons (.ife (.cmp .Gt (.cal 18 (.cons (.ioA 0) (.cons (.cI 12) .nil)) false) (.cI 0)) (.var 9) (.not (.var 9))) .nil)))))
    .skip))))) (fun i : Nat => D.int (i : Nat)) (fun done e => ∃ (P : D) (ts : List Tr) (s4 s6 s7 s8 s9 : Slot), e = [.io P, .dat (tupS nm), .dat (.int m), .own (.dic kvs), s4, .own (.lst (ts.map Tr.d)), s6, s7, s8, s9, .un] ∧ poolOk P ∧ ts.length = done.length ∧ (∀ t ∈ ts, t.ok nm) ∧ fre (some s4) = true ∧ fre (some s6) = true ∧ fre (some s7) = true ∧ fre (some s8) = true ∧ fre (some s9) = true) (List.range m) (List.range m) [] [.io P, .dat (tupS nm), .dat (.int m), .own (.dic kvs), s4, .own (.lst []), .un, .un, .un, .un, .un] rfl ⟨P, [], s4, .un, .un, .un, .un, rfl, hP, rfl, (fun x hx => by cases hx), f4, rfl, rfl, rfl, rfl⟩ ?_
  · obtain ⟨e', h1, P', ts, s4, s6, s7, s8, s9, h2, h3, h4, h5, _⟩ := key
    exact ⟨e', h1, P', ts, s4, s6, s7, s8, s9, h2, h3, by rw [h4, List.length_range], h5⟩
  rintro done i rest hall e ⟨P, ts, s4, s6, s7, s8, s9, rfl, hP, hl, ht, f4, f6, f7, f8, f9⟩
  have hdl : done.length < 1000 := by
    have := congrArg List.length hall
    rw [List.length_append, List.length_cons, List.length_range] at this
    omega
  have hs : (ts.map Tr.d).length < sizeLine := by rw [sizeLine_eq, List.length_map]; omega
  obtain ⟨y, P1, e1, hy, hP1⟩ := oneT (n := n) (x := tupS nm) (.inr rfl) hP (names_ne h).1 (names_ne h).2
  obtain ⟨s, hsn, rfl⟩ := List.mem_map.mp hy
  have p0 := partsT (n := n + 1) h hsn
  obtain ⟨y, P2, e2, hy2, hP2⟩ := oneT (n := n) (x := .lst ((parts (others nm s)).map tupS)) (.inl rfl) hP1 (parts_ne h hsn).1 (parts_ne h hsn).2
  obtain ⟨B, hB, rfl⟩ := List.mem_map.mp hy2
  obtain ⟨q, P3, e3, q0, q1, hP3⟩ := takeT (n := n + 1) (m := 12) hP2 (by decide) (by decide)
  obtain ⟨r, hr, er⟩ := hk s hsn
  have st1 : exS (calF T (n + 2)) (.asg (.var 7) (.cal 19 (.cons (.ioA 0) (.cons (.var 1) .nil)) false)) [.io P, .dat (tupS nm), .dat (.int m), .own (.dic kvs), s4, .own (.lst (ts.map Tr.d)), .dat (.int i), s7, s8, s9, .un] = .ok (.nx [.io P1, .dat (tupS nm), .dat (.int m), .own (.dic kvs), s4, .own (.lst (ts.map Tr.d)), .dat (.int i), .dat (.str s), s8, s9, .un]) := by
    simp [ev_nil, ev_cons, ev_var, ev_con, ev_cI, ev_cS, ev_cB, ev_cN, ev_lst, ev_tup, ev_dic0, ev_bin, ev_neg, ev_not, ev_and, ev_or, ev_cmp, ev_ife, ev_isi, ev_cal, ev_ioA, ev_borA, ev_blt, ev_lenP, ev_sub, ev_subP, ev_slc, ev_rng, ev_rev, ev_items, xs_skip, xs_seq, xs_asg, xs_asgO, xs_frz, xs_fgt, xs_app, xs_ext, xs_setI, xs_exp, xs_ret, xs_retO, xs_retN, xs_ite, xs_rai, xs_par, parR, parM, parO, parDO, parOD, okS, rb_ok, opt, optB, one, truR, tru, optE, bindT, argsD, putOuts, putM, pk, mk, frE, slotsOf, outsOf, runF, wipeE, e1, setV_fre, f7]
  have hc := ev_others (cal := calF T (n + 2)) (env := [.io P1, .dat (tupS nm), .dat (.int m), .own (.dic kvs), s4, .own (.lst (ts.map Tr.d)), .dat (.int i), .dat (.str s), s8, s9, .un]) (i := 10) (j := 1) (k := 7) (nd := tupS nm) (nm := nm) (s := s) rfl rfl rfl rfl (by decide) (by decide)
  simp only [List.set_cons_zero, List.set_cons_succ] at hc
  have st2 : exS (calF T (n + 2)) (.asg (.var 8) (.cal 19 (.cons (.ioA 0) (.cons (.cal 21 (.cons (.comp (.var 10) (.var 10) (.var 1) (.cmp .NotEq (.var 10) (.var 7)) [10]) .nil) false) .nil)) false)) [.io P1, .dat (tupS nm), .dat (.int m), .own (.dic kvs), s4, .own (.lst (ts.map Tr.d)), .dat (.int i), .dat (.str s), s8, s9, .un] = .ok (.nx [.io P2, .dat (tupS nm), .dat (.int m), .own (.dic kvs), s4, .own (.lst (ts.map Tr.d)), .dat (.int i), .dat (.str s), .dat (tupS B), s9, .un]) := by
    simp [ev_nil, ev_cons, ev_var, ev_con, ev_cI, ev_cS, ev_cB, ev_cN, ev_lst, ev_tup, ev_dic0, ev_bin, ev_neg, ev_not, ev_and, ev_or, ev_cmp, ev_ife, ev_isi, ev_cal, ev_ioA, ev_borA, ev_blt, ev_lenP, ev_sub, ev_subP, ev_slc, ev_rng, ev_rev, ev_items, xs_skip, xs_seq, xs_asg, xs_asgO, xs_frz, xs_fgt, xs_app, xs_ext, xs_setI, xs_exp, xs_ret, xs_retO, xs_retN, xs_ite, xs_rai, xs_par, parR, parM, parO, parDO, parOD, okS, rb_ok, opt, optB, one, truR, tru, optE, bindT, argsD, putOuts, putM, pk, mk, frE, slotsOf, outsOf, runF, wipeE, hc, p0, e2, setV_fre, f8]
  have hc2 : ev (calF T (n + 2)) (.comp (.var 4) (.var 4) (.subP 3 (.var 7)) (.cmp .NotIn (.var 4) (.var 8)) [4]) [.io P2, .dat (tupS nm), .dat (.int m), .own (.dic kvs), s4, .own (.lst (ts.map Tr.d)), .dat (.int i), .dat (.str s), .dat (tupS B), s9, .un] = .ok (.lst (sds (r.filter fun x => !isIn x B)), [.io P2, .dat (tupS nm), .dat (.int m), .own (.dic kvs), .un, .own (.lst (ts.map Tr.d)), .dat (.int i), .dat (.str s), .dat (tupS B), s9, .un]) := by
    refine ev_cmp1 (d := tupS r) D.str (fun x => !isIn x B) D.str ?_ (rowsE_of rfl) (wipeOk_fre f4) rfl rfl fun x _ => ?_
    · have er' : lookD kvs (kx s) = some (tupS r) := er
      have hk' : (D.str s).key = some (kx s) := rfl
      simp [ev_nil, ev_cons, ev_var, ev_con, ev_cI, ev_cS, ev_cB, ev_cN, ev_lst, ev_tup, ev_dic0, ev_bin, ev_neg, ev_not, ev_and, ev_or, ev_cmp, ev_ife, ev_isi, ev_cal, ev_ioA, ev_borA, ev_blt, ev_lenP, ev_sub, ev_subP, ev_slc, ev_rng, ev_rev, ev_items, xs_skip, xs_seq, xs_asg, xs_asgO, xs_frz, xs_fgt, xs_app, xs_ext, xs_setI, xs_exp, xs_ret, xs_retO, xs_retN, xs_ite, xs_rai, xs_par, parR, parM, parO, parDO, parOD, okS, rb_ok, opt, optB, one, truR, tru, optE, bindT, argsD, putOuts, putM, pk, mk, frE, slotsOf, outsOf, runF, wipeE, subD, hk', er']
    · refine ⟨[.io P2, .dat (tupS nm), .dat (.int m), .own (.dic kvs), .dat (.str x), .own (.lst (ts.map Tr.d)), .dat (.int i), .dat (.str s), .dat (tupS B), s9, .un], [.io P2, .dat (tupS nm), .dat (.int m), .own (.dic kvs), .dat (.str x), .own (.lst (ts.map Tr.d)), .dat (.int i), .dat (.str s), .dat (tupS B), s9, .un], rfl, ?_, fun _ => rfl, fun _ => ⟨_, rfl, rfl⟩⟩
      simp [ev_nil, ev_cons, ev_var, ev_con, ev_cI, ev_cS, ev_cB, ev_cN, ev_lst, ev_tup, ev_dic0, ev_bin, ev_neg, ev_not, ev_and, ev_or, ev_cmp, ev_ife, ev_isi, ev_cal, ev_ioA, ev_borA, ev_blt, ev_lenP, ev_sub, ev_subP, ev_slc, ev_rng, ev_rev, ev_items, xs_skip, xs_seq, xs_asg, xs_asgO, xs_frz, xs_fgt, xs_app, xs_ext, xs_setI, xs_exp, xs_ret, xs_retO, xs_retN, xs_ite, xs_rai, xs_par, parR, parM, parO, parDO, parOD, okS, rb_ok, opt, optB, one, truR, tru, optE, bindT, argsD, putOuts, putM, pk, mk, frE, slotsOf, outsOf, runF, wipeE, cmpD, din_tup]
  have st3 : ∃ b, exS (calF T (n + 2)) (.asg (.var 9) (.cmp .Eq (.comp (.var 4) (.var 4) (.subP 3 (.var 7)) (.cmp .NotIn (.var 4) (.var 8)) [4]) (.lst .nil))) [.io P2, .dat (tupS nm), .dat (.int m), .own (.dic kvs), s4, .own (.lst (ts.map Tr.d)), .dat (.int i), .dat (.str s), .dat (tupS B), s9, .un] = .ok (.nx [.io P2, .dat (tupS nm), .dat (.int m), .own (.dic kvs), .un, .own (.lst (ts.map Tr.d)), .dat (.int i), .dat (.str s), .dat (tupS B), .dat (.bl b), .un]) := by
    refine ⟨(sds (r.filter fun x => !isIn x B)).isEmpty, ?_⟩
    simp [ev_nil, ev_cons, ev_var, ev_con, ev_cI, ev_cS, ev_cB, ev_cN, ev_lst, ev_tup, ev_dic0, ev_bin, ev_neg, ev_not, ev_and, ev_or, ev_cmp, ev_ife, ev_isi, ev_cal, ev_ioA, ev_borA, ev_blt, ev_lenP, ev_sub, ev_subP, ev_slc, ev_rng, ev_rev, ev_items, xs_skip, xs_seq, xs_asg, xs_asgO, xs_frz, xs_fgt, xs_app, xs_ext, xs_setI, xs_exp, xs_ret, xs_retO, xs_retN, xs_ite, xs_rai, xs_par, parR, parM, parO, parDO, parOD, okS, rb_ok, opt, optB, one, truR, tru, optE, bindT, argsD, putOuts, putM, pk, mk, frE, slotsOf, outsOf, runF, wipeE, hc2, cmpD, deq_nil, setV_fre, f9]
  obtain ⟨b, st3⟩ := st3
  have st4 : ∃ l, exS (calF T (n + 2)) (.app 5 (.tup (.cons (.var 8) (.cons (.var 7) (.cons (.ife (.cmp .Gt (.cal 18 (.cons (.ioA 0) (.cons (.cI 12) .nil)) false) (.cI 0)) (.var 9) (.not (.var 9))) .nil))))) [.io P2, .dat (tupS nm), .dat (.int m), .own (.dic kvs), .un, .own (.lst (ts.map Tr.d)), .dat (.int i), .dat (.str s), .dat (tupS B), .dat (.bl b), .un] = .ok (.nx [.io P3, .dat (tupS nm), .dat (.int m), .own (.dic kvs), .un, .own (.lst (ts.map Tr.d ++ [.tup [tupS B, .str s, .bl l]])), .dat (.int i), .dat (.str s), .dat (tupS B), .dat (.bl b), .un]) := by
    by_cases c : 0 < q
    · refine ⟨b, ?_⟩
      generalize ts.map Tr.d = td at hs ⊢
      simp [ev_nil, ev_cons, ev_var, ev_con, ev_cI, ev_cS, ev_cB, ev_cN, ev_lst, ev_tup, ev_dic0, ev_bin, ev_neg, ev_not, ev_and, ev_or, ev_cmp, ev_ife, ev_isi, ev_cal, ev_ioA, ev_borA, ev_blt, ev_lenP, ev_sub, ev_subP, ev_slc, ev_rng, ev_rev, ev_items, xs_skip, xs_seq, xs_asg, xs_asgO, xs_frz, xs_fgt, xs_app, xs_ext, xs_setI, xs_exp, xs_ret, xs_retO, xs_retN, xs_ite, xs_rai, xs_par, parR, parM, parO, parDO, parOD, okS, rb_ok, opt, optB, one, truR, tru, optE, bindT, argsD, putOuts, putM, pk, mk, frE, slotsOf, outsOf, runF, wipeE, e3, cmpD, c, appM, hs]
    · refine ⟨!b, ?_⟩
      generalize ts.map Tr.d = td at hs ⊢
      simp [ev_nil, ev_cons, ev_var, ev_con, ev_cI, ev_cS, ev_cB, ev_cN, ev_lst, ev_tup, ev_dic0, ev_bin, ev_neg, ev_not, ev_and, ev_or, ev_cmp, ev_ife, ev_isi, ev_cal, ev_ioA, ev_borA, ev_blt, ev_lenP, ev_sub, ev_subP, ev_slc, ev_rng, ev_rev, ev_items, xs_skip, xs_seq, xs_asg, xs_asgO, xs_frz, xs_fgt, xs_app, xs_ext, xs_setI, xs_exp, xs_ret, xs_retO, xs_retN, xs_ite, xs_rai, xs_par, parR, parM, parO, parDO, parOD, okS, rb_ok, opt, optB, one, truR, tru, optE, bindT, argsD, putOuts, putM, pk, mk, frE, slotsOf, outsOf, runF, wipeE, e3, cmpD, c, appM, hs]
  obtain ⟨l, st4⟩ := st4
  refine ⟨[.io P, .dat (tupS nm), .dat (.int m), .own (.dic kvs), s4, .own (.lst (ts.map Tr.d)), .dat (.int i), s7, s8, s9, .un], [.io P3, .dat (tupS nm), .dat (.int m), .own (.dic kvs), .un, .own (.lst (ts.map Tr.d ++ [.tup [tupS B, .str s, .bl l]])), .dat (.int i), .dat (.str s), .dat (tupS B), .dat (.bl b), .un], setV_fre f6, ?_, P3, ts ++ [⟨B, s, l⟩], .un, .dat (.int i), .dat (.str s), .dat (tupS B), .dat (.bl b), ?_, hP3, ?_, ?_, rfl, rfl, rfl, rfl, rfl⟩
  · rw [seq_nx st1, seq_nx st2, seq_nx st3, seq_nx st4]
    rfl
  · rw [List.map_append]
    rfl
  · rw [List.length_append, List.length_append, hl]
    rfl
  · intro t htm
    rcases List.mem_append.mp htm with z | z
    · exact ht t z
    · rw [List.mem_singleton.mp z]
      exact ⟨hsn, hB⟩
theorem ansT {n : Nat} {nm : List Str} {m : Nat} (hm : m < 1000) (h : nm ∈ namesL) {P : D} (hP : poolOk P) :
    ∃ (ts : List Tr) (P' : D), calF T (n + 3) 22 [P, tupS nm, .int m] = .ok (.lst (ts.map Tr.d), [P']) ∧ (∀ t ∈ ts, t.ok nm) ∧ ts.length = m ∧ poolOk P' := by
  obtain ⟨e1, h1, P1, kvs, s4, rfl, f4, hP1, _, hk⟩ := ans1 (n := n) (m := m) h P hP
  obtain ⟨e2, h2, P2, ts, s4', s6, s7, s8, s9, rfl, hP2, hl, ht⟩ := ans2 (n := n) hm h P1 hP1 kvs hk s4 f4
  refine ⟨ts, P2, ?_, ht, hl, hP2⟩
  rw [show calF T (n + 3) 22 = runF (calF T (n + 2)) f22 from rfl]
  have hr : rngD (.int m) = some (.lst ((List.range m).map fun i => .int (i : Nat))) := by
    show (if _ then _ else _) = _
    rw [if_pos (by omega)]
    rfl
  unfold f22
  unfold runF
  simp only [slotsOf, Option.map]
  rw [seq_nx (env' := [.io P, .dat (tupS nm), .dat (.int m), .own (.dic []), .un, .un, .un, .un, .un, .un, .un]) rfl]
  rw [seq_nx (env' := [.io P1, .dat (tupS nm), .dat (.int m), .own (.dic kvs), s4, .un, .un, .un, .un, .un, .un]) (by exact h1)]
  rw [seq_nx (env' := [.io P1, .dat (tupS nm), .dat (.int m), .own (.dic kvs), s4, .own (.lst []), .un, .un, .un, .un, .un]) rfl]
  rw [seq_nx (by
    rw [xs_for, ev_rng, ev_var]
    simp only [List.getElem?_cons_zero, List.getElem?_cons_succ, rb_ok, hr, opt, rows]
    exact h2)]
  rw [seq_rt (env' := [.io P2, .dat (tupS nm), .dat (.int m), .own (.dic kvs), s4', .un, s6, s7, s8, s9, .un]) rfl]
  rfl
end K70
set_option Elab.async false
set_option linter.all false
set_option maxRecDepth 100000
set_option maxHeartbeats 2000000
namespace K70
open PySem Dm
theorem word_all (n : Nat) : ((namesL.flatMap id).map fun x => calF T (n + 1) 0 [.str x]) = (namesL.flatMap id).map fun _ => .ok (.bl true, []) := by kernel_rfl
theorem wordT {n : Nat} {nm : List Str} {x : Str} (h : nm ∈ namesL) (hx : x ∈ nm) : calF T (n + 1) 0 [.str x] = .ok (.bl true, []) := by
  have := List.map_inj_left.mp (word_all n) x (List.mem_flatMap.mpr ⟨nm, h, hx⟩)
  exact this
/-- names as a tuple or a list -/
def isNm (nm : List Str) (nd : D) : Prop := nd = tupS nm ∨ nd = .lst (sds nm)
theorem isNm.rows {nm : List Str} {nd : D} (h : isNm nm nd) : Dm.rows nd = some (sds nm) := by rcases h with rfl | rfl <;> rfl
theorem isNm.din {nm : List Str} {nd : D} (h : isNm nm nd) (x : Str) : Dm.din (.str x) nd = some (isIn x nm) := by
  rcases h with rfl | rfl
  · exact din_tup x nm
  · exact din_lst x nm
theorem namesL_all (n : Nat) : (namesL.map fun nm => calF T (n + 4) 6 [.lst (sds nm)]) = namesL.map fun nm => .ok (.non, []) := by kernel_rfl
theorem namesG {n : Nat} {nm : List Str} {nd : D} (h : nm ∈ namesL) (hd : isNm nm nd) : calF T (n + 4) 6 [nd] = .ok (.non, []) := by
  rcases hd with rfl | rfl
  · exact namesT h
  · have := List.map_inj_left.mp (namesL_all n) nm h
    exact this
theorem tripleL_all (n : Nat) : (trL.map fun p => calF T (n + 3) 5 [.lst (sds p.1), p.2.d]) = trL.map fun p => .ok (.bl true, []) := by kernel_rfl
theorem tripleG {n : Nat} {nm : List Str} {nd : D} {t : Tr} (h : nm ∈ namesL) (hd : isNm nm nd) (ht : t.ok nm) : calF T (n + 3) 5 [nd, t.d] = .ok (.bl true, []) := by
  rcases hd with rfl | rfl
  · exact tripleT h ht
  · have := List.map_inj_left.mp (tripleL_all n) (nm, t) (mem_trL h ht)
    exact this
theorem seenG {n : Nat} {nm : List Str} {ts : List Tr} {nd sd : D} (h : nm ∈ namesL) (hd : isNm nm nd) (hs : sd = .lst (ts.map Tr.d) ∨ sd = .tup (ts.map Tr.d)) (ht : ∀ t ∈ ts, t.ok nm) : calF T (n + 5) 8 [nd, sd] = .ok (.non, []) := by
  rw [show calF T (n + 5) 8 = runF (calF T (n + 4)) f8 from rfl]
  have h0 := namesG (n := n) h hd
  have h1 : calF T (n + 4) 7 [nd, sd] = .ok (.bl true, []) := by
    rw [show calF T (n + 4) 7 = runF (calF T (n + 3)) f7 from rfl]
    have h2 : calF T (n + 3) 1 [sd] = .ok (.bl true, []) := by
      rcases hs with rfl | rfl <;> rfl
    have h3 : rows sd = some (ts.map Tr.d) := by rcases hs with rfl | rfl <;> rfl
    have h4 : ev (calF T (n + 3)) (.comp (.cal 5 (.cons (.var 0) (.cons (.var 2) .nil)) false) (.var 2) (.var 1) (.cB true) [2]) [.dat nd, .dat sd, .un] = .ok (.lst (ts.map fun _ => .bl true), [.dat nd, .dat sd, .un]) := by
      refine ev_cmp0 (d := sd) Tr.d (fun _ => .bl true) rfl (rowsE_of h3) rfl rfl rfl fun t htm => ?_
      refine ⟨[.dat nd, .dat sd, .dat t.d], [.dat nd, .dat sd, .dat t.d], rfl, ?_, rfl⟩
      have h5 := tripleG (n := n) h hd (ht t htm)
      generalize t.d = td at h5
      simp [ev_nil, ev_cons, ev_var, ev_con, ev_cI, ev_cS, ev_cB, ev_cN, ev_lst, ev_tup, ev_dic0, ev_bin, ev_neg, ev_not, ev_and, ev_or, ev_cmp, ev_ife, ev_isi, ev_cal, ev_ioA, ev_borA, ev_blt, ev_lenP, ev_sub, ev_subP, ev_slc, ev_rng, ev_rev, ev_items, xs_skip, xs_seq, xs_asg, xs_asgO, xs_frz, xs_fgt, xs_app, xs_ext, xs_setI, xs_exp, xs_ret, xs_retO, xs_retN, xs_ite, xs_rai, xs_par, parR, parM, parO, parDO, parOD, okS, rb_ok, opt, optB, one, truR, tru, optE, bindT, argsD, putOuts, putM, pk, mk, frE, slotsOf, outsOf, runF, wipeE, h5]
    have h6 := all_map (fun _ : Tr => true) ts
    simp [ev_nil, ev_cons, ev_var, ev_con, ev_cI, ev_cS, ev_cB, ev_cN, ev_lst, ev_tup, ev_dic0, ev_bin, ev_neg, ev_not, ev_and, ev_or, ev_cmp, ev_ife, ev_isi, ev_cal, ev_ioA, ev_borA, ev_blt, ev_lenP, ev_sub, ev_subP, ev_slc, ev_rng, ev_rev, ev_items, xs_skip, xs_seq, xs_asg, xs_asgO, xs_frz, xs_fgt, xs_app, xs_ext, xs_setI, xs_exp, xs_ret, xs_retO, xs_retN, xs_ite, xs_rai, xs_par, parR, parM, parO, parDO, parOD, okS, rb_ok, opt, optB, one, truR, tru, optE, bindT, argsD, putOuts, putM, pk, mk, frE, slotsOf, outsOf, runF, wipeE, f7, h2, h4, h6]
  simp [ev_nil, ev_cons, ev_var, ev_con, ev_cI, ev_cS, ev_cB, ev_cN, ev_lst, ev_tup, ev_dic0, ev_bin, ev_neg, ev_not, ev_and, ev_or, ev_cmp, ev_ife, ev_isi, ev_cal, ev_ioA, ev_borA, ev_blt, ev_lenP, ev_sub, ev_subP, ev_slc, ev_rng, ev_rev, ev_items, xs_skip, xs_seq, xs_asg, xs_asgO, xs_frz, xs_fgt, xs_app, xs_ext, xs_setI, xs_exp, xs_ret, xs_retO, xs_retN, xs_ite, xs_rai, xs_par, parR, parM, parO, parDO, parOD, okS, rb_ok, opt, optB, one, truR, tru, optE, bindT, argsD, putOuts, putM, pk, mk, frE, slotsOf, outsOf, runF, wipeE, f8, h0, h1]
theorem questG {n : Nat} {nm : List Str} {ts : List Tr} {nd sd : D} {s : Str} (h : nm ∈ namesL) (hd : isNm nm nd) (hs : sd = .lst (ts.map Tr.d) ∨ sd = .tup (ts.map Tr.d)) (ht : ∀ t ∈ ts, t.ok nm) (hx : s ∈ nm) : calF T (n + 6) 13 [nd, sd, .str s] = .ok (.non, []) := by
  rw [show calF T (n + 6) 13 = runF (calF T (n + 5)) f13 from rfl]
  have h0 := seenG (n := n) h hd hs ht
  have h1 := wordT (n := n + 4) h hx
  have h2 := hd.din s
  rw [isIn_iff.mpr hx] at h2
  simp [ev_nil, ev_cons, ev_var, ev_con, ev_cI, ev_cS, ev_cB, ev_cN, ev_lst, ev_tup, ev_dic0, ev_bin, ev_neg, ev_not, ev_and, ev_or, ev_cmp, ev_ife, ev_isi, ev_cal, ev_ioA, ev_borA, ev_blt, ev_lenP, ev_sub, ev_subP, ev_slc, ev_rng, ev_rev, ev_items, xs_skip, xs_seq, xs_asg, xs_asgO, xs_frz, xs_fgt, xs_app, xs_ext, xs_setI, xs_exp, xs_ret, xs_retO, xs_retN, xs_ite, xs_rai, xs_par, parR, parM, parO, parDO, parOD, okS, rb_ok, opt, optB, one, truR, tru, optE, bindT, argsD, putOuts, putM, pk, mk, frE, slotsOf, outsOf, runF, wipeE, f13, h0, h1, cmpD, h2]
def mustD (nm : List Str) (ts : List Tr) (s : Str) : List Str := if isX nm ts then mustL nm ts s else []
def mayD (nm : List Str) (ts : List Tr) (s : Str) : List Str := if isX nm ts then mw nm ts s else []
theorem mustG {n : Nat} {nm : List Str} {ts : List Tr} {nd sd : D} {s : Str} (h : nm ∈ namesL) (hd : isNm nm nd) (hs : sd = .lst (ts.map Tr.d) ∨ sd = .tup (ts.map Tr.d)) (ht : ∀ t ∈ ts, t.ok nm) (hx : s ∈ nm) : calF T (n + 7) 14 [nd, sd, .str s] = .ok (.lst (sds (mustD nm ts s)), []) := by
  rw [show calF T (n + 7) 14 = runF (calF T (n + 6)) f14 from rfl]
  have h0 := questG (n := n) h hd hs ht hx
  have h3 : rows sd = some (ts.map Tr.d) := by rcases hs with rfl | rfl <;> rfl
  have h1 := isXT (n := n + 3) hd.rows h3 (good_names h)
  have h2 := rrT (n := n + 4) (s := s) hd.rows h3
  cases c : isX nm ts with
  | false =>
    rw [c] at h1
    simp [ev_nil, ev_cons, ev_var, ev_con, ev_cI, ev_cS, ev_cB, ev_cN, ev_lst, ev_tup, ev_dic0, ev_bin, ev_neg, ev_not, ev_and, ev_or, ev_cmp, ev_ife, ev_isi, ev_cal, ev_ioA, ev_borA, ev_blt, ev_lenP, ev_sub, ev_subP, ev_slc, ev_rng, ev_rev, ev_items, xs_skip, xs_seq, xs_asg, xs_asgO, xs_frz, xs_fgt, xs_app, xs_ext, xs_setI, xs_exp, xs_ret, xs_retO, xs_retN, xs_ite, xs_rai, xs_par, parR, parM, parO, parDO, parOD, okS, rb_ok, opt, optB, one, truR, tru, optE, bindT, argsD, putOuts, putM, pk, mk, frE, slotsOf, outsOf, runF, wipeE, f14, h0, h1, mustD, c, sds]
  | true =>
    rw [c] at h1
    have hg := good_names h
    have h4 : ∀ rd : D, rd = .lst ((rr nm ts s).map fun r => .lst (sds r)) → ev (calF T (n + 6)) (.comp (.var 4) (.var 4) (.var 0) (.cmp .In (.lst (.cons (.var 4) .nil)) (.var 3)) [4]) [.dat nd, .dat sd, .dat (.str s), .dat rd, .un] = .ok (.lst (sds (mustL nm ts s)), [.dat nd, .dat sd, .dat (.str s), .dat rd, .un]) := by
      rintro rd hrd
      refine ev_cmp1 (d := nd) D.str (fun x => (rr nm ts s).any fun r => decide (r = [x])) D.str rfl (rowsE_of hd.rows) rfl rfl rfl fun x hxm => ?_
      have h5 := din_rows (q := [x]) (rs := rr nm ts s) (fun y hy => by rw [List.mem_singleton.mp hy]; exact hg x hxm) (fun r hr y hy => hg y (rr_mem hr hy))
      rw [show sds [x] = [.str x] from rfl, ← hrd] at h5
      refine ⟨[.dat nd, .dat sd, .dat (.str s), .dat rd, .dat (.str x)], [.dat nd, .dat sd, .dat (.str s), .dat rd, .dat (.str x)], rfl, ?_, fun _ => rfl, fun _ => ⟨_, rfl, rfl⟩⟩
      generalize ((rr nm ts s).any fun r => decide (r = [x])) = q at *
      simp [ev_nil, ev_cons, ev_var, ev_con, ev_cI, ev_cS, ev_cB, ev_cN, ev_lst, ev_tup, ev_dic0, ev_bin, ev_neg, ev_not, ev_and, ev_or, ev_cmp, ev_ife, ev_isi, ev_cal, ev_ioA, ev_borA, ev_blt, ev_lenP, ev_sub, ev_subP, ev_slc, ev_rng, ev_rev, ev_items, xs_skip, xs_seq, xs_asg, xs_asgO, xs_frz, xs_fgt, xs_app, xs_ext, xs_setI, xs_exp, xs_ret, xs_retO, xs_retN, xs_ite, xs_rai, xs_par, parR, parM, parO, parDO, parOD, okS, rb_ok, opt, optB, one, truR, tru, optE, bindT, argsD, putOuts, putM, pk, mk, frE, slotsOf, outsOf, runF, wipeE, cmpD, h5]
    have h4 := h4 _ rfl
    generalize D.lst ((rr nm ts s).map fun r => .lst (sds r)) = rd at *
    simp [ev_nil, ev_cons, ev_var, ev_con, ev_cI, ev_cS, ev_cB, ev_cN, ev_lst, ev_tup, ev_dic0, ev_bin, ev_neg, ev_not, ev_and, ev_or, ev_cmp, ev_ife, ev_isi, ev_cal, ev_ioA, ev_borA, ev_blt, ev_lenP, ev_sub, ev_subP, ev_slc, ev_rng, ev_rev, ev_items, xs_skip, xs_seq, xs_asg, xs_asgO, xs_frz, xs_fgt, xs_app, xs_ext, xs_setI, xs_exp, xs_ret, xs_retO, xs_retN, xs_ite, xs_rai, xs_par, parR, parM, parO, parDO, parOD, okS, rb_ok, opt, optB, one, truR, tru, optE, bindT, argsD, putOuts, putM, pk, mk, frE, slotsOf, outsOf, runF, wipeE, f14, h0, h1, h2, setV, h4, mustD, c]
theorem mayG {n : Nat} {nm : List Str} {ts : List Tr} {nd sd : D} {s : Str} (h : nm ∈ namesL) (hd : isNm nm nd) (hs : sd = .lst (ts.map Tr.d) ∨ sd = .tup (ts.map Tr.d)) (ht : ∀ t ∈ ts, t.ok nm) (hx : s ∈ nm) : calF T (n + 7) 15 [nd, sd, .str s] = .ok (.lst (sds (mayD nm ts s)), []) := by
  rw [show calF T (n + 7) 15 = runF (calF T (n + 6)) f15 from rfl]
  have h0 := questG (n := n) h hd hs ht hx
  have h3 : rows sd = some (ts.map Tr.d) := by rcases hs with rfl | rfl <;> rfl
  have h1 := isXT (n := n + 3) hd.rows h3 (good_names h)
  have h2 := mwT (n := n + 5) (s := s) hd.rows h3
  cases c : isX nm ts with
  | false =>
    rw [c] at h1
    simp [ev_nil, ev_cons, ev_var, ev_con, ev_cI, ev_cS, ev_cB, ev_cN, ev_lst, ev_tup, ev_dic0, ev_bin, ev_neg, ev_not, ev_and, ev_or, ev_cmp, ev_ife, ev_isi, ev_cal, ev_ioA, ev_borA, ev_blt, ev_lenP, ev_sub, ev_subP, ev_slc, ev_rng, ev_rev, ev_items, xs_skip, xs_seq, xs_asg, xs_asgO, xs_frz, xs_fgt, xs_app, xs_ext, xs_setI, xs_exp, xs_ret, xs_retO, xs_retN, xs_ite, xs_rai, xs_par, parR, parM, parO, parDO, parOD, okS, rb_ok, opt, optB, one, truR, tru, optE, bindT, argsD, putOuts, putM, pk, mk, frE, slotsOf, outsOf, runF, wipeE, f15, h0, h1, mayD, c, sds]
  | true =>
    rw [c] at h1
    simp [ev_nil, ev_cons, ev_var, ev_con, ev_cI, ev_cS, ev_cB, ev_cN, ev_lst, ev_tup, ev_dic0, ev_bin, ev_neg, ev_not, ev_and, ev_or, ev_cmp, ev_ife, ev_isi, ev_cal, ev_ioA, ev_borA, ev_blt, ev_lenP, ev_sub, ev_subP, ev_slc, ev_rng, ev_rev, ev_items, xs_skip, xs_seq, xs_asg, xs_asgO, xs_frz, xs_fgt, xs_app, xs_ext, xs_setI, xs_exp, xs_ret, xs_retO, xs_retN, xs_ite, xs_rai, xs_par, parR, parM, parO, parDO, parOD, okS, rb_ok, opt, optB, one, truR, tru, optE, bindT, argsD, putOuts, putM, pk, mk, frE, slotsOf, outsOf, runF, wipeE, f15, h0, h1, h2, mayD, c, tupS, bltD]
theorem nextG {n : Nat} {nm : List Str} {ts : List Tr} {nd sd : D} {s : Str} (h : nm ∈ namesL) (hd : isNm nm nd) (hs : sd = .lst (ts.map Tr.d) ∨ sd = .tup (ts.map Tr.d)) (ht : ∀ t ∈ ts, t.ok nm) (hx : s ∈ nm) : calF T (n + 8) 16 [nd, sd, .str s] = .ok (.bl (!decide (mayD nm ts s = mustD nm ts s)), []) := by
  rw [show calF T (n + 8) 16 = runF (calF T (n + 7)) f16 from rfl]
  have h0 := mustG (n := n) h hd hs ht hx
  have h1 := mayG (n := n) h hd hs ht hx
  have hg := good_names h
  have h2 := deq_sds (r := mayD nm ts s) (q := mustD nm ts s) (fun x hx => hg x (by
    unfold mayD at hx
    split at hx
    · exact mw_mem hx
    · cases hx)) (fun x hx => hg x (by
    unfold mustD at hx
    split at hx
    · exact (List.mem_filter.mp hx).1
    · cases hx))
  generalize D.lst (sds (mayD nm ts s)) = A at *
  generalize D.lst (sds (mustD nm ts s)) = B at *
  simp [ev_nil, ev_cons, ev_var, ev_con, ev_cI, ev_cS, ev_cB, ev_cN, ev_lst, ev_tup, ev_dic0, ev_bin, ev_neg, ev_not, ev_and, ev_or, ev_cmp, ev_ife, ev_isi, ev_cal, ev_ioA, ev_borA, ev_blt, ev_lenP, ev_sub, ev_subP, ev_slc, ev_rng, ev_rev, ev_items, xs_skip, xs_seq, xs_asg, xs_asgO, xs_frz, xs_fgt, xs_app, xs_ext, xs_setI, xs_exp, xs_ret, xs_retO, xs_retN, xs_ite, xs_rai, xs_par, parR, parM, parO, parDO, parOD, okS, rb_ok, opt, optB, one, truR, tru, optE, bindT, argsD, putOuts, putM, pk, mk, frE, slotsOf, outsOf, runF, wipeE, f16, h0, h1, cmpD, h2]
theorem empty_all {l B : List Str} : (sds (l.filter fun x => !isIn x B)).isEmpty = l.all fun x => isIn x B := by
  induction l with
  | nil => rfl
  | cons x l ih =>
    rw [List.filter_cons, List.all_cons, ← ih]
    cases isIn x B <;> rfl
theorem foldl_filter {α : Type} (p : α → Bool) : ∀ (l acc : List α), l.foldl (fun acc x => acc ++ (if p x then [x] else [])) acc = acc ++ l.filter p
  | [], acc => by simp
  | x :: l, acc => by
    rw [List.foldl_cons, foldl_filter p l, List.filter_cons]
    split <;> simp
theorem fitT {n : Nat} {nm : List Str} {ts : List Tr} {s : Str} (h : nm ∈ namesL) (hx : s ∈ nm) : calF T (n + 2) 23 [tupS nm, .lst (ts.map Tr.d), .str s] = .ok (.lst ((fit nm ts s).map tupS), []) := by
  rw [show calF T (n + 2) 23 = runF (calF T (n + 1)) f23 from rfl]
  have p0 := partsT (n := n) h hx
  have hsd : rows (.lst (ts.map Tr.d)) = some (ts.map Tr.d) := rfl
  generalize D.lst (ts.map Tr.d) = sd at *
  have hnd : rows (tupS nm) = some (sds nm) := rfl
  generalize tupS nm = nd at *
  have hlen : (parts (others nm s)).length < 100 := by
    have : (pairsL.all fun p => decide ((parts (others p.1 p.2)).length < 100)) = true := by decide +kernel
    exact of_decide_eq_true (List.all_eq_true.mp this _ (mem_pairs h hx))
  have hc := ev_others (cal := calF T (n + 1)) (env := [.dat nd, .dat sd, .dat (.str s), .dat (.lst []), .un, .un, .un, .un, .un]) (i := 6) (j := 0) (k := 2) (nd := nd) (nm := nm) (s := s) rfl hnd rfl rfl (by decide) (by decide)
  simp only [List.set_cons_zero, List.set_cons_succ] at hc
  have key : ∀ (l acc : List (List Str)), l.length + acc.length < 100 → forGo (.var 4) (exS (calF T (n + 1)) (.seq (.asg (.var 5) (.comp (.var 7) (.var 7) (.var 1) (.and (.cmp .Eq (.sub (.var 7) (.cI 1)) (.var 2)) (.cmp .NotEq (.sub (.var 7) (.cI 2)) (.cmp .Eq (.comp (.var 8) (.var 8) (.var 4) (.cmp .NotIn (.var 8) (.sub (.var 7) (.cI 0))) [8]) (.lst .nil)))) [7]))
    (.seq (.asg (.var 3) (.bin .Add (.var 3) (.bin .Mult (.lst (.cons (.var 4) .nil)) (.blt .int (.cons (.cmp .Eq (.var 5) (.lst .nil)) .nil)))))
    (.seq (.fgt 4)
    (.seq (.fgt 5)
    .skip))))) (l.map tupS) [.dat nd, .dat sd, .dat (.str s), .dat (.lst (acc.map tupS)), .un, .un, .un, .un, .un] = .ok (.nx [.dat nd, .dat sd, .dat (.str s), .dat (.lst ((acc ++ l.filter (fitB ts s)).map tupS)), .un, .un, .un, .un, .un]) := by
    intro l
    induction l with
    | nil => intro acc _; simp [forGo]
    | cons r l ih =>
      intro acc hl
      rw [List.map_cons, forGo]
      have c1 : ev (calF T (n + 1)) (.comp (.var 7) (.var 7) (.var 1) (.and (.cmp .Eq (.sub (.var 7) (.cI 1)) (.var 2)) (.cmp .NotEq (.sub (.var 7) (.cI 2)) (.cmp .Eq (.comp (.var 8) (.var 8) (.var 4) (.cmp .NotIn (.var 8) (.sub (.var 7) (.cI 0))) [8]) (.lst .nil)))) [7]) [.dat nd, .dat sd, .dat (.str s), .dat (.lst (acc.map tupS)), .dat (tupS r), .un, .un, .un, .un] =
          .ok (.lst ((ts.filter fun t => decide (t.s = s) && (t.l != r.all fun x => isIn x t.B)).map Tr.d), [.dat nd, .dat sd, .dat (.str s), .dat (.lst (acc.map tupS)), .dat (tupS r), .un, .un, .un, .un]) := by
        generalize D.lst (acc.map tupS) = ad
        refine ev_cmp1 (d := sd) Tr.d (fun t => decide (t.s = s) && (t.l != r.all fun x => isIn x t.B)) Tr.d rfl (rowsE_of hsd) rfl rfl rfl fun t _ => ?_
        refine ⟨[.dat nd, .dat sd, .dat (.str s), .dat ad, .dat (tupS r), .un, .un, .dat t.d, .un], [.dat nd, .dat sd, .dat (.str s), .dat ad, .dat (tupS r), .un, .un, .dat t.d, .un], rfl, ?_, fun _ => rfl, fun _ => ⟨_, rfl, rfl⟩⟩
        have s0 : subD t.d (.int 0) = some (tupS t.B) := rfl
        have s1 : subD t.d (.int 1) = some (.str t.s) := rfl
        have s2 : subD t.d (.int 2) = some (.bl t.l) := rfl
        generalize t.d = td at *
        have c2 : ev (calF T (n + 1)) (.comp (.var 8) (.var 8) (.var 4) (.cmp .NotIn (.var 8) (.sub (.var 7) (.cI 0))) [8]) [.dat nd, .dat sd, .dat (.str s), .dat ad, .dat (tupS r), .un, .un, .dat td, .un] = .ok (.lst (sds (r.filter fun x => !isIn x t.B)), [.dat nd, .dat sd, .dat (.str s), .dat ad, .dat (tupS r), .un, .un, .dat td, .un]) := by
          refine ev_cmp1 (d := tupS r) D.str (fun x => !isIn x t.B) D.str rfl rfl rfl rfl rfl fun x _ => ?_
          refine ⟨[.dat nd, .dat sd, .dat (.str s), .dat ad, .dat (tupS r), .un, .un, .dat td, .dat (.str x)], [.dat nd, .dat sd, .dat (.str s), .dat ad, .dat (tupS r), .un, .un, .dat td, .dat (.str x)], rfl, ?_, fun _ => rfl, fun _ => ⟨_, rfl, rfl⟩⟩
          simp [ev_nil, ev_cons, ev_var, ev_con, ev_cI, ev_cS, ev_cB, ev_cN, ev_lst, ev_tup, ev_dic0, ev_bin, ev_neg, ev_not, ev_and, ev_or, ev_cmp, ev_ife, ev_isi, ev_cal, ev_ioA, ev_borA, ev_blt, ev_lenP, ev_sub, ev_subP, ev_slc, ev_rng, ev_rev, ev_items, xs_skip, xs_seq, xs_asg, xs_asgO, xs_frz, xs_fgt, xs_app, xs_ext, xs_setI, xs_exp, xs_ret, xs_retO, xs_retN, xs_ite, xs_rai, xs_par, parR, parM, parO, parDO, parOD, okS, rb_ok, opt, optB, one, truR, tru, optE, bindT, argsD, putOuts, putM, pk, mk, frE, slotsOf, outsOf, runF, wipeE, s0, cmpD, din_tup]
        have e1 := deq_nil (sds (r.filter fun x => !isIn x t.B))
        rw [empty_all] at e1
        generalize (sds (r.filter fun x => !isIn x t.B)) = L1 at *
        generalize (r.all fun x => isIn x t.B) = q at *
        generalize tupS r = rd at *
        by_cases c : t.s = s
        · have : (t.l == q) = !(t.l != q) := by simp [bne]
          simp [ev_nil, ev_cons, ev_var, ev_con, ev_cI, ev_cS, ev_cB, ev_cN, ev_lst, ev_tup, ev_dic0, ev_bin, ev_neg, ev_not, ev_and, ev_or, ev_cmp, ev_ife, ev_isi, ev_cal, ev_ioA, ev_borA, ev_blt, ev_lenP, ev_sub, ev_subP, ev_slc, ev_rng, ev_rev, ev_items, xs_skip, xs_seq, xs_asg, xs_asgO, xs_frz, xs_fgt, xs_app, xs_ext, xs_setI, xs_exp, xs_ret, xs_retO, xs_retN, xs_ite, xs_rai, xs_par, parR, parM, parO, parDO, parOD, okS, rb_ok, opt, optB, one, truR, tru, optE, bindT, argsD, putOuts, putM, pk, mk, frE, slotsOf, outsOf, runF, wipeE, s1, s2, c2, cmpD, e1, deq_str, deq_bl, c, bne]
        · simp [ev_nil, ev_cons, ev_var, ev_con, ev_cI, ev_cS, ev_cB, ev_cN, ev_lst, ev_tup, ev_dic0, ev_bin, ev_neg, ev_not, ev_and, ev_or, ev_cmp, ev_ife, ev_isi, ev_cal, ev_ioA, ev_borA, ev_blt, ev_lenP, ev_sub, ev_subP, ev_slc, ev_rng, ev_rev, ev_items, xs_skip, xs_seq, xs_asg, xs_asgO, xs_frz, xs_fgt, xs_app, xs_ext, xs_setI, xs_exp, xs_ret, xs_retO, xs_retN, xs_ite, xs_rai, xs_par, parR, parM, parO, parDO, parOD, okS, rb_ok, opt, optB, one, truR, tru, optE, bindT, argsD, putOuts, putM, pk, mk, frE, slotsOf, outsOf, runF, wipeE, s1, s2, c2, cmpD, e1, deq_str, deq_bl, c]
      have e2 := deq_nil ((ts.filter fun t => decide (t.s = s) && (t.l != r.all fun x => isIn x t.B)).map Tr.d)
      have e3 : ((ts.filter fun t => decide (t.s = s) && (t.l != r.all fun x => isIn x t.B)).map Tr.d).isEmpty = fitB ts s r := by
        rw [Bool.eq_iff_iff, List.isEmpty_iff, List.map_eq_nil_iff, List.filter_eq_nil_iff]
        unfold fitB
        rw [List.all_eq_true]
        constructor
        · intro z t ht
          have := z t ht
          rw [Bool.not_eq_true] at this
          rw [this]; rfl
        · intro z t ht
          have := z t ht
          rw [Bool.not_eq_true'] at this
          rw [this]; decide
      rw [e3] at e2
      generalize ((ts.filter fun t => decide (t.s = s) && (t.l != r.all fun x => isIn x t.B)).map Tr.d) = L1 at *
      have hl' : l.length + acc.length < 99 := by simp only [List.length_cons] at hl; omega
      have hz : (acc.map tupS).length + 1 ≤ sizeLine := by rw [List.length_map, sizeLine_eq]; omega
      have hz0 : (acc.map tupS).length ≤ sizeLine := by omega
      have b1 : bindT (.var 4) (tupS r) [.dat nd, .dat sd, .dat (.str s), .dat (.lst (acc.map tupS)), .un, .un, .un, .un, .un] = some [.dat nd, .dat sd, .dat (.str s), .dat (.lst (acc.map tupS)), .dat (tupS r), .un, .un, .un, .un] := rfl
      rw [b1]
      dsimp only
      rw [List.filter_cons]
      cases cf : fitB ts s r with
      | true =>
        rw [cf] at e2
        have m1 : binD .Mult (.lst [tupS r]) (.int 1) = some (.lst [tupS r]) := by
          simp [binD, sizeLine_eq]
        have m2 : binD .Add (.lst (acc.map tupS)) (.lst [tupS r]) = some (.lst ((acc ++ [r]).map tupS)) := by
          show (if _ then _ else _) = _
          rw [if_pos (by simpa using hz), List.map_append]
          rfl
        have := ih (acc ++ [r]) (by rw [List.length_append]; simp; omega)
        rw [List.append_assoc] at this
        generalize D.lst (acc.map tupS) = ad at *
        have b2 : bltD .int [.bl true] = some (.int 1) := rfl
        rw [show (if true = true then r :: l.filter (fitB ts s) else l.filter (fitB ts s)) = [r] ++ l.filter (fitB ts s) from rfl]
        rw [← this]
        generalize D.lst ((acc ++ [r]).map tupS) = ad' at *
        generalize tupS r = rd at *
        simp [ev_nil, ev_cons, ev_var, ev_con, ev_cI, ev_cS, ev_cB, ev_cN, ev_lst, ev_tup, ev_dic0, ev_bin, ev_neg, ev_not, ev_and, ev_or, ev_cmp, ev_ife, ev_isi, ev_cal, ev_ioA, ev_borA, ev_blt, ev_lenP, ev_sub, ev_subP, ev_slc, ev_rng, ev_rev, ev_items, xs_skip, xs_seq, xs_asg, xs_asgO, xs_frz, xs_fgt, xs_app, xs_ext, xs_setI, xs_exp, xs_ret, xs_retO, xs_retN, xs_ite, xs_rai, xs_par, parR, parM, parO, parDO, parOD, okS, rb_ok, opt, optB, one, truR, tru, optE, bindT, argsD, putOuts, putM, pk, mk, frE, slotsOf, outsOf, runF, wipeE, c1, setV, cmpD, e2, b2, m1, m2]
      | false =>
        rw [cf] at e2
        have m1 : binD .Mult (.lst [tupS r]) (.int 0) = some (.lst []) := by
          simp [binD, sizeLine_eq]
        have m2 : binD .Add (.lst (acc.map tupS)) (.lst []) = some (.lst (acc.map tupS)) := by
          show (if _ then _ else _) = _
          rw [if_pos (by simpa using hz0), List.append_nil]
        have := ih acc (by omega)
        generalize D.lst (acc.map tupS) = ad at *
        have b2 : bltD .int [.bl false] = some (.int 0) := rfl
        rw [show (if false = true then r :: l.filter (fitB ts s) else l.filter (fitB ts s)) = l.filter (fitB ts s) from rfl]
        rw [← this]
        generalize tupS r = rd at *
        simp [ev_nil, ev_cons, ev_var, ev_con, ev_cI, ev_cS, ev_cB, ev_cN, ev_lst, ev_tup, ev_dic0, ev_bin, ev_neg, ev_not, ev_and, ev_or, ev_cmp, ev_ife, ev_isi, ev_cal, ev_ioA, ev_borA, ev_blt, ev_lenP, ev_sub, ev_subP, ev_slc, ev_rng, ev_rev, ev_items, xs_skip, xs_seq, xs_asg, xs_asgO, xs_frz, xs_fgt, xs_app, xs_ext, xs_setI, xs_exp, xs_ret, xs_retO, xs_retN, xs_ite, xs_rai, xs_par, parR, parM, parO, parDO, parOD, okS, rb_ok, opt, optB, one, truR, tru, optE, bindT, argsD, putOuts, putM, pk, mk, frE, slotsOf, outsOf, runF, wipeE, c1, setV, cmpD, e2, b2, m1, m2]
  have key := key (parts (others nm s)) [] (by simp; omega)
  rw [List.nil_append] at key
  unfold f23 runF
  simp only [slotsOf, Option.map]
  rw [seq_nx (env' := [.dat nd, .dat sd, .dat (.str s), .dat (.lst []), .un, .un, .un, .un, .un]) rfl]
  rw [seq_nx (by
    rw [xs_for, ev_cal, ev_cons, hc, rb_ok, ev_nil]
    simp only [one, rb_ok, argsD, p0, putOuts, rows]
    exact key)]
  rfl
theorem unionT {n : Nat} {nm : List Str} {rs : List (List Str)} : calF T (n + 1) 24 [tupS nm, .lst (rs.map tupS)] = .ok (.lst (sds (unionL nm rs)), []) := by
  rw [show calF T (n + 1) 24 = runF (calF T n) f24 from rfl]
  have hr : rows (.lst (rs.map tupS)) = some (rs.map tupS) := rfl
  generalize D.lst (rs.map tupS) = rd at *
  have c1 : ev (calF T n) (.comp (.var 2) (.var 2) (.var 0) (.cmp .NotEq (.comp (.var 3) (.var 3) (.var 1) (.cmp .In (.var 2) (.var 3)) [3]) (.lst .nil)) [2]) [.dat (tupS nm), .dat rd, .un, .un] = .ok (.lst (sds (unionL nm rs)), [.dat (tupS nm), .dat rd, .un, .un]) := by
    refine ev_cmp1 (d := tupS nm) D.str (fun x => rs.any fun r => isIn x r) D.str rfl rfl rfl rfl rfl fun x _ => ?_
    refine ⟨[.dat (tupS nm), .dat rd, .dat (.str x), .un], [.dat (tupS nm), .dat rd, .dat (.str x), .un], rfl, ?_, fun _ => rfl, fun _ => ⟨_, rfl, rfl⟩⟩
    have c2 : ev (calF T n) (.comp (.var 3) (.var 3) (.var 1) (.cmp .In (.var 2) (.var 3)) [3]) [.dat (tupS nm), .dat rd, .dat (.str x), .un] = .ok (.lst ((rs.filter fun r => isIn x r).map tupS), [.dat (tupS nm), .dat rd, .dat (.str x), .un]) := by
      refine ev_cmp1 (d := rd) tupS (fun r => isIn x r) tupS rfl (rowsE_of hr) rfl rfl rfl fun r _ => ?_
      exact ⟨[.dat (tupS nm), .dat rd, .dat (.str x), .dat (tupS r)], [.dat (tupS nm), .dat rd, .dat (.str x), .dat (tupS r)], rfl, by simp [ev_nil, ev_cons, ev_var, ev_con, ev_cI, ev_cS, ev_cB, ev_cN, ev_lst, ev_tup, ev_dic0, ev_bin, ev_neg, ev_not, ev_and, ev_or, ev_cmp, ev_ife, ev_isi, ev_cal, ev_ioA, ev_borA, ev_blt, ev_lenP, ev_sub, ev_subP, ev_slc, ev_rng, ev_rev, ev_items, xs_skip, xs_seq, xs_asg, xs_asgO, xs_frz, xs_fgt, xs_app, xs_ext, xs_setI, xs_exp, xs_ret, xs_retO, xs_retN, xs_ite, xs_rai, xs_par, parR, parM, parO, parDO, parOD, okS, rb_ok, opt, optB, one, truR, tru, optE, bindT, argsD, putOuts, putM, pk, mk, frE, slotsOf, outsOf, runF, wipeE, cmpD, din_tup], fun _ => rfl, fun _ => ⟨_, rfl, rfl⟩⟩
    have e1 := deq_nil ((rs.filter fun r => isIn x r).map tupS)
    have e2 : ((rs.filter fun r => isIn x r).map tupS).isEmpty = !(rs.any fun r => isIn x r) := by
      rw [Bool.eq_iff_iff, List.isEmpty_iff, List.map_eq_nil_iff, List.filter_eq_nil_iff, Bool.not_eq_true', List.any_eq_false]
    rw [e2] at e1
    generalize ((rs.filter fun r => isIn x r).map tupS) = L1 at *
    generalize (rs.any fun r => isIn x r) = q at *
    simp [ev_nil, ev_cons, ev_var, ev_con, ev_cI, ev_cS, ev_cB, ev_cN, ev_lst, ev_tup, ev_dic0, ev_bin, ev_neg, ev_not, ev_and, ev_or, ev_cmp, ev_ife, ev_isi, ev_cal, ev_ioA, ev_borA, ev_blt, ev_lenP, ev_sub, ev_subP, ev_slc, ev_rng, ev_rev, ev_items, xs_skip, xs_seq, xs_asg, xs_asgO, xs_frz, xs_fgt, xs_app, xs_ext, xs_setI, xs_exp, xs_ret, xs_retO, xs_retN, xs_ite, xs_rai, xs_par, parR, parM, parO, parDO, parOD, okS, rb_ok, opt, optB, one, truR, tru, optE, bindT, argsD, putOuts, putM, pk, mk, frE, slotsOf, outsOf, runF, wipeE, c2, cmpD, e1]
  simp [ev_nil, ev_cons, ev_var, ev_con, ev_cI, ev_cS, ev_cB, ev_cN, ev_lst, ev_tup, ev_dic0, ev_bin, ev_neg, ev_not, ev_and, ev_or, ev_cmp, ev_ife, ev_isi, ev_cal, ev_ioA, ev_borA, ev_blt, ev_lenP, ev_sub, ev_subP, ev_slc, ev_rng, ev_rev, ev_items, xs_skip, xs_seq, xs_asg, xs_asgO, xs_frz, xs_fgt, xs_app, xs_ext, xs_setI, xs_exp, xs_ret, xs_retO, xs_retN, xs_ite, xs_rai, xs_par, parR, parM, parO, parDO, parOD, okS, rb_ok, opt, optB, one, truR, tru, optE, bindT, argsD, putOuts, putM, pk, mk, frE, slotsOf, outsOf, runF, wipeE, f24, c1]
theorem commonT {n : Nat} {nm : List Str} {rs : List (List Str)} : calF T (n + 1) 25 [tupS nm, .lst (rs.map tupS)] = .ok (.lst (sds (commonL nm rs)), []) := by
  rw [show calF T (n + 1) 25 = runF (calF T n) f25 from rfl]
  have hr : rows (.lst (rs.map tupS)) = some (rs.map tupS) := rfl
  generalize D.lst (rs.map tupS) = rd at *
  have c1 : ev (calF T n) (.comp (.var 2) (.var 2) (.var 0) (.cmp .Eq (.comp (.var 3) (.var 3) (.var 1) (.cmp .NotIn (.var 2) (.var 3)) [3]) (.lst .nil)) [2]) [.dat (tupS nm), .dat rd, .un, .un] = .ok (.lst (sds (commonL nm rs)), [.dat (tupS nm), .dat rd, .un, .un]) := by
    refine ev_cmp1 (d := tupS nm) D.str (fun x => rs.all fun r => isIn x r) D.str rfl rfl rfl rfl rfl fun x _ => ?_
    refine ⟨[.dat (tupS nm), .dat rd, .dat (.str x), .un], [.dat (tupS nm), .dat rd, .dat (.str x), .un], rfl, ?_, fun _ => rfl, fun _ => ⟨_, rfl, rfl⟩⟩
    have c2 : ev (calF T n) (.comp (.var 3) (.var 3) (.var 1) (.cmp .NotIn (.var 2) (.var 3)) [3]) [.dat (tupS nm), .dat rd, .dat (.str x), .un] = .ok (.lst ((rs.filter fun r => !isIn x r).map tupS), [.dat (tupS nm), .dat rd, .dat (.str x), .un]) := by
      refine ev_cmp1 (d := rd) tupS (fun r => !isIn x r) tupS rfl (rowsE_of hr) rfl rfl rfl fun r _ => ?_
      exact ⟨[.dat (tupS nm), .dat rd, .dat (.str x), .dat (tupS r)], [.dat (tupS nm), .dat rd, .dat (.str x), .dat (tupS r)], rfl, by simp [ev_nil, ev_cons, ev_var, ev_con, ev_cI, ev_cS, ev_cB, ev_cN, ev_lst, ev_tup, ev_dic0, ev_bin, ev_neg, ev_not, ev_and, ev_or, ev_cmp, ev_ife, ev_isi, ev_cal, ev_ioA, ev_borA, ev_blt, ev_lenP, ev_sub, ev_subP, ev_slc, ev_rng, ev_rev, ev_items, xs_skip, xs_seq, xs_asg, xs_asgO, xs_frz, xs_fgt, xs_app, xs_ext, xs_setI, xs_exp, xs_ret, xs_retO, xs_retN, xs_ite, xs_rai, xs_par, parR, parM, parO, parDO, parOD, okS, rb_ok, opt, optB, one, truR, tru, optE, bindT, argsD, putOuts, putM, pk, mk, frE, slotsOf, outsOf, runF, wipeE, cmpD, din_tup], fun _ => rfl, fun _ => ⟨_, rfl, rfl⟩⟩
    have e1 := deq_nil ((rs.filter fun r => !isIn x r).map tupS)
    have e2 : ((rs.filter fun r => !isIn x r).map tupS).isEmpty = rs.all fun r => isIn x r := by
      rw [Bool.eq_iff_iff, List.isEmpty_iff, List.map_eq_nil_iff, List.filter_eq_nil_iff, List.all_eq_true]
      constructor
      · intro z r hr
        have := z r hr
        cases c : isIn x r with
        | true => rfl
        | false => rw [c] at this; exact absurd rfl this
      · intro z r hr
        rw [z r hr]; decide
    rw [e2] at e1
    generalize ((rs.filter fun r => !isIn x r).map tupS) = L1 at *
    generalize (rs.all fun r => isIn x r) = q at *
    simp [ev_nil, ev_cons, ev_var, ev_con, ev_cI, ev_cS, ev_cB, ev_cN, ev_lst, ev_tup, ev_dic0, ev_bin, ev_neg, ev_not, ev_and, ev_or, ev_cmp, ev_ife, ev_isi, ev_cal, ev_ioA, ev_borA, ev_blt, ev_lenP, ev_sub, ev_subP, ev_slc, ev_rng, ev_rev, ev_items, xs_skip, xs_seq, xs_asg, xs_asgO, xs_frz, xs_fgt, xs_app, xs_ext, xs_setI, xs_exp, xs_ret, xs_retO, xs_retN, xs_ite, xs_rai, xs_par, parR, parM, parO, parDO, parOD, okS, rb_ok, opt, optB, one, truR, tru, optE, bindT, argsD, putOuts, putM, pk, mk, frE, slotsOf, outsOf, runF, wipeE, c2, cmpD, e1]
  simp [ev_nil, ev_cons, ev_var, ev_con, ev_cI, ev_cS, ev_cB, ev_cN, ev_lst, ev_tup, ev_dic0, ev_bin, ev_neg, ev_not, ev_and, ev_or, ev_cmp, ev_ife, ev_isi, ev_cal, ev_ioA, ev_borA, ev_blt, ev_lenP, ev_sub, ev_subP, ev_slc, ev_rng, ev_rev, ev_items, xs_skip, xs_seq, xs_asg, xs_asgO, xs_frz, xs_fgt, xs_app, xs_ext, xs_setI, xs_exp, xs_ret, xs_retO, xs_retN, xs_ite, xs_rai, xs_par, parR, parM, parO, parDO, parOD, okS, rb_ok, opt, optB, one, truR, tru, optE, bindT, argsD, putOuts, putM, pk, mk, frE, slotsOf, outsOf, runF, wipeE, f25, c1]
theorem twelveT (n : Nat) : calF T (n + 10) 26 [] = .ok (.bl true, []) := by kernel_rfl
end K70
set_option Elab.async false
set_option linter.all false
set_option maxRecDepth 100000
set_option maxHeartbeats 2000000
namespace K70
open PySem Dm
def lawB (f : Fn) : Sm := match f.body with
  | .seq (.for _ _ b) _ => b
  | b => b
/-- repr of the answers -/
theorem lay_tr {t : Tr} (h : ∀ x ∈ t.B, goodS x) (h2 : goodS t.s) : ∃ p, t.d.py = some p ∧ p.canLay0 = true ∧ p.depth ≤ 3 ∧ p.intsShort 13 = true ∧ p.showable = true ∧ p = .tuple [.tuple (t.B.map PyData.str), .str t.s, .bool t.l] := by
  refine ⟨.tuple [.tuple (t.B.map PyData.str), .str t.s, .bool t.l], ?_, ?_, ?_, ?_, ?_, rfl⟩
  · show (D.pys [tupS t.B, .str t.s, .bl t.l]).map PyData.tuple = _
    unfold tupS
    simp only [D.pys, D.py, pys_sds]
    rfl
  · have := lay_strs t.B h
    have h2 : PyData.canLay0 (.str t.s) = true := h2
    simp only [PyData.canLay0, PyData.canLayAll0] at h2 ⊢
    rw [this, h2]
    rfl
  · have := depth_strs t.B
    simp only [PyData.depth, PyData.depthAll]
    omega
  · have : ∀ l : List Str, PyData.intsShortAll 13 (l.map PyData.str) = true := fun l => by
      induction l with
      | nil => rfl
      | cons x l ih => rw [List.map_cons, PyData.intsShortAll, ih]; rfl
    simp only [PyData.intsShort, PyData.intsShortAll, this]
    rfl
  · have : ∀ l : List Str, PyData.showableAll (l.map PyData.str) = true := fun l => by
      induction l with
      | nil => rfl
      | cons x l ih => rw [List.map_cons, PyData.showableAll, ih]; rfl
    simp only [PyData.showable, PyData.showableAll, this]
    rfl
def trP (t : Tr) : PyData := .tuple [.tuple (t.B.map PyData.str), .str t.s, .bool t.l]
def wOk (nm : List Str) (t : Tr) : Bool := decide ((trP t).weight ≤ 1000)
theorem w_all : (trL.all fun p => wOk p.1 p.2) = true := by decide +kernel
theorem trs_py {nm : List Str} (h : nm ∈ namesL) : ∀ {ts : List Tr}, (∀ t ∈ ts, t.ok nm) → ∃ ps, D.pys (ts.map Tr.d) = some ps ∧ PyData.canLayAll0 ps = true ∧ PyData.depthAll ps ≤ 4 ∧ PyData.intsShortAll 13 ps = true ∧ PyData.showableAll ps = true ∧ PyData.weightAll ps ≤ 1001 * ts.length
  | [], _ => ⟨[], rfl, rfl, by simp [PyData.depthAll], rfl, rfl, by simp [PyData.weightAll]⟩
  | t :: ts, ht => by
    obtain ⟨ps, a1, a2, a3, a4, a5, a6⟩ := trs_py h (ts := ts) fun x hx => ht x (List.mem_cons_of_mem _ hx)
    have ho := ht t (List.mem_cons_self ..)
    obtain ⟨p, b1, b2, b3, b4, b5, b6⟩ := lay_tr (t := t) (fun x hx => good_names h x (List.mem_filter.mp (parts_sub _ _ ho.2 x hx)).1) (good_names h _ ho.1)
    have hw : (trP t).weight ≤ 1000 := of_decide_eq_true (List.all_eq_true.mp w_all (nm, t) (mem_trL h ho))
    refine ⟨p :: ps, ?_, ?_, ?_, ?_, ?_, ?_⟩
    · rw [List.map_cons, D.pys, b1, a1]
    · rw [PyData.canLayAll0, b2, a2]; rfl
    · rw [PyData.depthAll]; omega
    · rw [PyData.intsShortAll, b4, a4]; rfl
    · rw [PyData.showableAll, b5, a5]; rfl
    · have : p.weight ≤ 1000 := by rw [b6]; exact hw
      rw [PyData.weightAll, List.length_cons]
      omega
theorem reprT {nm : List Str} {ts : List Tr} (h : nm ∈ namesL) (ht : ∀ t ∈ ts, t.ok nm) (hl : ts.length ≤ 100) : ∃ x, bltD .repr [.lst (ts.map Tr.d)] = some (.str x) := by
  obtain ⟨ps, a1, a2, a3, a4, a5, a6⟩ := trs_py h ht
  refine ⟨(PyData.list ps).shown, ?_⟩
  show reprD _ = _
  unfold reprD
  have e : D.py (.lst (ts.map Tr.d)) = some (.list ps) := by rw [D.py, a1]; rfl
  rw [e]
  dsimp only
  have c1 : (PyData.list ps).canLay0 = true := by rw [PyData.canLay0]; exact a2
  have c2 : (PyData.list ps).depth ≤ 5 := by rw [PyData.depth]; omega
  have c3 : (PyData.list ps).showable = true := by rw [PyData.showable]; exact a5
  have c4 : (PyData.list ps).hasDict = false := PyData.hasDict_of_canLay _ c1
  have c5 : (PyData.list ps).shown.length ≤ 15728653 := PyProof.Rows.shown_le13 (by
    unfold PyData.layable0
    rw [c1, decide_eq_true (show _ ≤ 64 by omega), decide_eq_true]
    · rfl
    · rw [PyData.weight]
      have : (2 : Nat) ^ 20 = 1048576 := by decide
      omega) (by rw [PyData.intsShort]; exact a4)
  rw [if_pos]
  rw [c3, c4, decide_eq_true (show _ ≤ 60 by omega), decide_eq_true]
  · rfl
  · rw [sizeLine_eq]; omega
theorem forGo_pfx {α : Type} {tgt : Ex} {body : En → Res Fl} (f : α → D) (sh : List α → En) (all : List α) : ∀ (ts done : List α), done ++ ts = all →
    (∀ done x rest, all = done ++ x :: rest → ∃ e1, bindT tgt (f x) (sh done) = some e1 ∧ body e1 = .ok (.nx (sh (done ++ [x])))) →
    forGo tgt body (ts.map f) (sh done) = .ok (.nx (sh all))
  | [], done, ha, _ => by rw [← ha, List.append_nil]; rfl
  | x :: ts, done, ha, h => by
    obtain ⟨e1, h1, h2⟩ := h done x ts ha.symm
    rw [List.map_cons, forGo]
    simp only [h1, h2, rb_ok]
    exact forGo_pfx f sh all ts (done ++ [x]) (by rw [List.append_assoc]; exact ha) h
def kvL (g : Str → D) (nm : List Str) : List (Ky × D) := nm.map fun s => (kx s, g s)
theorem kv_put {g : Str → D} {done rest nm : List Str} {x : Str} (nd : nm.Nodup) (h : nm = done ++ x :: rest) : putD (kvL g done) (kx x) (g x) = kvL g (done ++ [x]) := by
  rw [putD_new]
  · unfold kvL; rw [List.map_append]; rfl
  · intro p hp e
    obtain ⟨y, hy, rfl⟩ := List.mem_map.mp hp
    have : y = x := kx_inj.mp e
    subst this
    rw [h, List.nodup_append] at nd
    exact nd.2.2 y hy y (List.mem_cons_self ..) rfl
theorem kv_look {g : Str → D} : ∀ {nm : List Str} {x : Str}, x ∈ nm → lookD (kvL g nm) (kx x) = some (g x)
  | [], x, h => by cases h
  | y :: nm, x, h => by
    show (if kx y = kx x then some (g y) else lookD (kvL g nm) (kx x)) = _
    by_cases e : y = x
    · rw [if_pos (kx_inj.mpr e), e]
    · rw [if_neg fun z => e (kx_inj.mp z)]
      rcases List.mem_cons.mp h with z | z
      · exact absurd z.symm e
      · exact kv_look z
theorem eqv_self (l : List Str) : PyData.eqv (.tuple (l.map PyData.str)) (.tuple (l.map PyData.str)) = true := by
  rw [PyData.eqv, eqv_strs, decide_eq_true rfl]
theorem shapedT {l : List Str} (h : ∀ x ∈ l, goodS x) : SeqAt.shaped (.tuple (l.map PyData.str)) = true := by
  have := depth_strs l
  exact shaped_of (by simp only [PyData.canLay0]; exact lay_strs l h) (by simp only [PyData.depth]; omega)
theorem deq_kv {nm : List Str} {r : Str → List Str} (hg : ∀ s, ∀ x ∈ r s, goodS x) : deq (.dic (kvL (fun s => tupS (r s)) nm)) (.dic (kvL (fun s => tupS (r s)) nm)) = some true := by
  show deqK _ _ = _
  unfold deqK
  rw [if_pos rfl]
  have key : ∀ l : List Str, (∀ x ∈ l, x ∈ nm) → hitsD (kvL (fun s => tupS (r s)) nm) (kvL (fun s => tupS (r s)) l) = some true := by
    intro l
    induction l with
    | nil => intro _; rfl
    | cons x l ih =>
      intro h
      show hitsD _ ((kx x, tupS (r x)) :: kvL _ l) = _
      unfold hitsD
      rw [kv_look (h x (List.mem_cons_self ..))]
      have e : D.py (tupS (r x)) = some (.tuple ((r x).map PyData.str)) := by
        unfold tupS; rw [D.py, pys_sds]; rfl
      dsimp only
      rw [e]
      dsimp only
      rw [shapedT (hg x), ih fun y hy => h y (List.mem_cons_of_mem _ hy), eqv_self]
      rfl
  exact key nm fun _ h => h
theorem asgO_set {cal : Nat → List D → Res (D × List D)} {env env' : En} {i : Nat} {e : Ex} {d : D} (h1 : frE e = true) (h2 : ev cal e env = .ok (d, env')) (h3 : d.isMut = true) (h4 : fre (env'[i]?) = true) : exS cal (.asgO i e) env = .ok (.nx (env'.set i (.own d))) := by
  rw [xs_asgO, if_pos h1, h2, rb_ok, if_pos h3]
  dsimp only
  cases e' : env'[i]? with
  | none => rw [e'] at h4; cases h4
  | some s => cases s <;> rw [e'] at h4 <;> first | rfl | cases h4
theorem law_body {ns : List Int} {k : Nat} (hk : k < 8) : exS (calF T 30) (lawB f27) [.dat (.scr ns), .dat (.int k), .un, .un, .un, .un, .un, .un, .un, .un, .un, .un] = .ok (.nx [.dat (.scr ns), .un, .un, .un, .un, .un, .un, .un, .un, .un, .un, .un]) := by
  obtain ⟨P0, p0, hP0⟩ := poolT (n := 29) (ns := ns) (k := k) (by omega)
  obtain ⟨nm, P1, p1, hnm, hnl, hP1⟩ := told_names 27 (m := 4) (by decide) (by decide) hP0
  obtain ⟨m, P2, p2, m0, m1, hP2⟩ := takeT (n := 29) (m := 11) hP1 (by decide) (by decide)
  obtain ⟨m, rfl⟩ := Int.eq_ofNat_of_zero_le m0
  obtain ⟨ts, P3, p3, ht, htl, hP3⟩ := ansT (n := 27) (m := m) (by omega) hnm hP2
  have hnd := nodup_names hnm
  have hg := good_names hnm
  obtain ⟨tx, hr⟩ := reprT hnm ht (by omega)
  have g7 := gwT (n := 24) hnm (.inl rfl) ht
  have f1 : ∀ s ∈ nm, calF T 30 23 [tupS nm, .lst (ts.map Tr.d), .str s] = .ok (.lst ((fit nm ts s).map tupS), []) := fun s hs => fitT (n := 28) hnm hs
  have u1 : ∀ s, calF T 30 24 [tupS nm, .lst ((fit nm ts s).map tupS)] = .ok (.lst (sds (unionL nm (fit nm ts s))), []) := fun s => unionT (n := 29)
  have c1 : ∀ s, calF T 30 25 [tupS nm, .lst ((fit nm ts s).map tupS)] = .ok (.lst (sds (commonL nm (fit nm ts s))), []) := fun s => commonT (n := 29)
  have q1 : ∀ s ∈ nm, calF T 30 14 [tupS nm, .lst (ts.map Tr.d), .str s] = .ok (.lst (sds (mustD nm ts s)), []) := fun s hs => mustG (n := 23) hnm (.inl rfl) (.inl rfl) ht hs
  have q2 : ∀ s ∈ nm, calF T 30 15 [.lst (sds nm), .tup (ts.map Tr.d), .str s] = .ok (.lst (sds (mayD nm ts s)), []) := fun s hs => mayG (n := 23) hnm (.inr rfl) (.inr rfl) ht hs
  have q3 : ∀ s ∈ nm, calF T 30 16 [tupS nm, .lst (ts.map Tr.d), .str s] = .ok (.bl (!decide (mayD nm ts s = mustD nm ts s)), []) := fun s hs => nextG (n := 22) hnm (.inl rfl) (.inl rfl) ht hs
  have b1 : bltD .list [tupS nm] = some (.lst (sds nm)) := rfl
  have b2 : bltD .tuple [.lst (ts.map Tr.d)] = some (.tup (ts.map Tr.d)) := rfl
  have hN : rows (tupS nm) = some (sds nm) := rfl
  have hnl4 : nm.length ≤ 4 := hnl
  generalize D.lst (ts.map Tr.d) = S at *
  generalize D.tup (ts.map Tr.d) = S' at *
  generalize hNN : tupS nm = N at *
  have m0' : P0.isMut = true := by obtain ⟨a, b, rfl, _⟩ := hP0; rfl
  let R : Str → D := fun s => .lst ((fit nm ts s).map tupS)
  let U : Str → D := fun s => tupS (unionL nm (fit nm ts s))
  have st1 : exS (calF T 30) (.asgO 2 (.cal 17 (.cons (.var 0) (.cons (.var 1) .nil)) true)) [.dat (.scr ns), .dat (.int k), .un, .un, .un, .un, .un, .un, .un, .un, .un, .un] = .ok (.nx [.dat (.scr ns), .dat (.int k), .own P0, .un, .un, .un, .un, .un, .un, .un, .un, .un]) :=
    asgO_set (d := P0) (env' := [.dat (.scr ns), .dat (.int k), .un, .un, .un, .un, .un, .un, .un, .un, .un, .un]) rfl (by simp [ev_nil, ev_cons, ev_var, ev_con, ev_cI, ev_cS, ev_cB, ev_cN, ev_lst, ev_tup, ev_dic0, ev_bin, ev_neg, ev_not, ev_and, ev_or, ev_cmp, ev_ife, ev_isi, ev_cal, ev_ioA, ev_borA, ev_blt, ev_lenP, ev_sub, ev_subP, ev_slc, ev_rng, ev_rev, ev_items, xs_skip, xs_seq, xs_asg, xs_asgO, xs_frz, xs_fgt, xs_app, xs_ext, xs_setI, xs_exp, xs_ret, xs_retO, xs_retN, xs_ite, xs_rai, xs_par, parR, parM, parO, parDO, parOD, okS, rb_ok, opt, optB, one, truR, tru, optE, bindT, argsD, putOuts, putM, pk, mk, frE, slotsOf, outsOf, runF, wipeE, p0]) m0' rfl
  have st2 : exS (calF T 30) (.asg (.var 3) (.cal 20 (.cons (.ioA 2) (.cons (.cI 4) .nil)) true)) [.dat (.scr ns), .dat (.int k), .own P0, .un, .un, .un, .un, .un, .un, .un, .un, .un] = .ok (.nx [.dat (.scr ns), .dat (.int k), .own P1, .dat N, .un, .un, .un, .un, .un, .un, .un, .un]) := by
    have p1' : calF T 30 20 [P0, .int 4] = .ok (N, [P1]) := p1
    simp [ev_nil, ev_cons, ev_var, ev_con, ev_cI, ev_cS, ev_cB, ev_cN, ev_lst, ev_tup, ev_dic0, ev_bin, ev_neg, ev_not, ev_and, ev_or, ev_cmp, ev_ife, ev_isi, ev_cal, ev_ioA, ev_borA, ev_blt, ev_lenP, ev_sub, ev_subP, ev_slc, ev_rng, ev_rev, ev_items, xs_skip, xs_seq, xs_asg, xs_asgO, xs_frz, xs_fgt, xs_app, xs_ext, xs_setI, xs_exp, xs_ret, xs_retO, xs_retN, xs_ite, xs_rai, xs_par, parR, parM, parO, parDO, parOD, okS, rb_ok, opt, optB, one, truR, tru, optE, bindT, argsD, putOuts, putM, pk, mk, frE, slotsOf, outsOf, runF, wipeE, p1', setV]
  have st3 : exS (calF T 30) (.asg (.var 4) (.cal 22 (.cons (.ioA 2) (.cons (.var 3) (.cons (.cal 18 (.cons (.ioA 2) (.cons (.cI 11) .nil)) false) .nil))) true)) [.dat (.scr ns), .dat (.int k), .own P1, .dat N, .un, .un, .un, .un, .un, .un, .un, .un] = .ok (.nx [.dat (.scr ns), .dat (.int k), .own P3, .dat N, .dat S, .un, .un, .un, .un, .un, .un, .un]) := by
    have p2' : calF T 30 18 [P1, .int 11] = .ok (.int m, [P2]) := p2
    have p3' : calF T 30 22 [P2, N, .int m] = .ok (S, [P3]) := p3
    simp [ev_nil, ev_cons, ev_var, ev_con, ev_cI, ev_cS, ev_cB, ev_cN, ev_lst, ev_tup, ev_dic0, ev_bin, ev_neg, ev_not, ev_and, ev_or, ev_cmp, ev_ife, ev_isi, ev_cal, ev_ioA, ev_borA, ev_blt, ev_lenP, ev_sub, ev_subP, ev_slc, ev_rng, ev_rev, ev_items, xs_skip, xs_seq, xs_asg, xs_asgO, xs_frz, xs_fgt, xs_app, xs_ext, xs_setI, xs_exp, xs_ret, xs_retO, xs_retN, xs_ite, xs_rai, xs_par, parR, parM, parO, parDO, parOD, okS, rb_ok, opt, optB, one, truR, tru, optE, bindT, argsD, putOuts, putM, pk, mk, frE, slotsOf, outsOf, runF, wipeE, p2', p3', setV]
  have st4 : exS (calF T 30) (.par true false 8 9 .dic0 (.blt .repr (.cons (.var 4) .nil))) [.dat (.scr ns), .dat (.int k), .own P3, .dat N, .dat S, .un, .un, .un, .un, .un, .un, .un] = .ok (.nx [.dat (.scr ns), .dat (.int k), .own P3, .dat N, .dat S, .un, .un, .un, .own (.dic []), .dat (.str tx), .un, .un]) := by
    simp [ev_nil, ev_cons, ev_var, ev_con, ev_cI, ev_cS, ev_cB, ev_cN, ev_lst, ev_tup, ev_dic0, ev_bin, ev_neg, ev_not, ev_and, ev_or, ev_cmp, ev_ife, ev_isi, ev_cal, ev_ioA, ev_borA, ev_blt, ev_lenP, ev_sub, ev_subP, ev_slc, ev_rng, ev_rev, ev_items, xs_skip, xs_seq, xs_asg, xs_asgO, xs_frz, xs_fgt, xs_app, xs_ext, xs_setI, xs_exp, xs_ret, xs_retO, xs_retN, xs_ite, xs_rai, xs_par, parR, parM, parO, parDO, parOD, okS, rb_ok, opt, optB, one, truR, tru, optE, bindT, argsD, putOuts, putM, pk, mk, frE, slotsOf, outsOf, runF, wipeE, hr, setV, D.isMut]
  have st5 : exS (calF T 30) (.for (.var 5) (.var 3)
    (.seq (.setI 8 (.var 5) (.cal 23 (.cons (.var 3) (.cons (.var 4) (.cons (.var 5) .nil))) false))
    (.seq (.fgt 5)
    .skip))) [.dat (.scr ns), .dat (.int k), .own P3, .dat N, .dat S, .un, .un, .un, .own (.dic []), .dat (.str tx), .un, .un] = .ok (.nx [.dat (.scr ns), .dat (.int k), .own P3, .dat N, .dat S, .un, .un, .un, .own (.dic (kvL R nm)), .dat (.str tx), .un, .un]) := by
    rw [xs_for, ev_var]
    simp only [List.getElem?_cons_zero, List.getElem?_cons_succ, rb_ok, hN]
    refine forGo_pfx D.str (fun done => [.dat (.scr ns), .dat (.int k), .own P3, .dat N, .dat S, .un, .un, .un, .own (.dic (kvL R done)), .dat (.str tx), .un, .un]) nm nm [] rfl fun done x rest hall => ?_
    have hx : x ∈ nm := by rw [hall]; simp
    refine ⟨[.dat (.scr ns), .dat (.int k), .own P3, .dat N, .dat S, .dat (.str x), .un, .un, .own (.dic (kvL R done)), .dat (.str tx), .un, .un], rfl, ?_⟩
    have a := f1 x hx
    have hk : (D.str x).key = some (kx x) := rfl
    have hp : putD (kvL R done) (kx x) (.lst ((fit nm ts x).map tupS)) = kvL R (done ++ [x]) := kv_put hnd hall
    have hs : (kvL R done).length < sizeLine := by
      have := congrArg List.length hall
      rw [List.length_append, List.length_cons] at this
      unfold kvL
      rw [List.length_map, sizeLine_eq]
      omega
    generalize D.lst ((fit nm ts x).map tupS) = G at *
    simp [ev_nil, ev_cons, ev_var, ev_con, ev_cI, ev_cS, ev_cB, ev_cN, ev_lst, ev_tup, ev_dic0, ev_bin, ev_neg, ev_not, ev_and, ev_or, ev_cmp, ev_ife, ev_isi, ev_cal, ev_ioA, ev_borA, ev_blt, ev_lenP, ev_sub, ev_subP, ev_slc, ev_rng, ev_rev, ev_items, xs_skip, xs_seq, xs_asg, xs_asgO, xs_frz, xs_fgt, xs_app, xs_ext, xs_setI, xs_exp, xs_ret, xs_retO, xs_retN, xs_ite, xs_rai, xs_par, parR, parM, parO, parDO, parOD, okS, rb_ok, opt, optB, one, truR, tru, optE, bindT, argsD, putOuts, putM, pk, mk, frE, slotsOf, outsOf, runF, wipeE, a, setM, hk, hs, hp]
  have lk : ∀ x ∈ nm, subD (.dic (kvL R nm)) (.str x) = some (.lst ((fit nm ts x).map tupS)) := fun x hx => kv_look hx
  generalize hRD : D.dic (kvL R nm) = RD at *
  have st6 : exS (calF T 30) (.asg (.var 6) (.cmp .NotEq (.comp (.var 5) (.var 5) (.var 3) (.cmp .Eq (.subP 8 (.var 5)) (.lst .nil)) [5]) (.lst .nil))) [.dat (.scr ns), .dat (.int k), .own P3, .dat N, .dat S, .un, .un, .un, .own RD, .dat (.str tx), .un, .un] = .ok (.nx [.dat (.scr ns), .dat (.int k), .own P3, .dat N, .dat S, .un, .dat (.bl (!isX nm ts)), .un, .own RD, .dat (.str tx), .un, .un]) := by
    have cc : ev (calF T 30) (.comp (.var 5) (.var 5) (.var 3) (.cmp .Eq (.subP 8 (.var 5)) (.lst .nil)) [5]) [.dat (.scr ns), .dat (.int k), .own P3, .dat N, .dat S, .un, .un, .un, .own RD, .dat (.str tx), .un, .un] = .ok (.lst ((nm.filter fun s => (fit nm ts s).isEmpty).map D.str), [.dat (.scr ns), .dat (.int k), .own P3, .dat N, .dat S, .un, .un, .un, .own RD, .dat (.str tx), .un, .un]) := by
      refine ev_cmp1 (d := N) D.str (fun s => (fit nm ts s).isEmpty) D.str rfl (rowsE_of hN) rfl rfl rfl fun x hx => ?_
      refine ⟨[.dat (.scr ns), .dat (.int k), .own P3, .dat N, .dat S, .dat (.str x), .un, .un, .own RD, .dat (.str tx), .un, .un], [.dat (.scr ns), .dat (.int k), .own P3, .dat N, .dat S, .dat (.str x), .un, .un, .own RD, .dat (.str tx), .un, .un], rfl, ?_, fun _ => rfl, fun _ => ⟨_, rfl, rfl⟩⟩
      have a := lk x hx
      have e := deq_nil ((fit nm ts x).map tupS)
      rw [List.isEmpty_map] at e
      generalize (fit nm ts x).map tupS = G at *
      simp [ev_nil, ev_cons, ev_var, ev_con, ev_cI, ev_cS, ev_cB, ev_cN, ev_lst, ev_tup, ev_dic0, ev_bin, ev_neg, ev_not, ev_and, ev_or, ev_cmp, ev_ife, ev_isi, ev_cal, ev_ioA, ev_borA, ev_blt, ev_lenP, ev_sub, ev_subP, ev_slc, ev_rng, ev_rev, ev_items, xs_skip, xs_seq, xs_asg, xs_asgO, xs_frz, xs_fgt, xs_app, xs_ext, xs_setI, xs_exp, xs_ret, xs_retO, xs_retN, xs_ite, xs_rai, xs_par, parR, parM, parO, parDO, parOD, okS, rb_ok, opt, optB, one, truR, tru, optE, bindT, argsD, putOuts, putM, pk, mk, frE, slotsOf, outsOf, runF, wipeE, a, cmpD, e]
    have e := deq_nil ((nm.filter fun s => (fit nm ts s).isEmpty).map D.str)
    have e2 : ((nm.filter fun s => (fit nm ts s).isEmpty).map D.str).isEmpty = isX nm ts := by
      rw [List.isEmpty_map, ← Bool.not_not (b := isX nm ts), ← none_iff (nm := nm) (ts := ts), Bool.eq_iff_iff, List.isEmpty_iff, List.filter_eq_nil_iff, Bool.not_eq_true', List.any_eq_false]
    rw [e2] at e
    generalize (nm.filter fun s => (fit nm ts s).isEmpty).map D.str = G at *
    simp [ev_nil, ev_cons, ev_var, ev_con, ev_cI, ev_cS, ev_cB, ev_cN, ev_lst, ev_tup, ev_dic0, ev_bin, ev_neg, ev_not, ev_and, ev_or, ev_cmp, ev_ife, ev_isi, ev_cal, ev_ioA, ev_borA, ev_blt, ev_lenP, ev_sub, ev_subP, ev_slc, ev_rng, ev_rev, ev_items, xs_skip, xs_seq, xs_asg, xs_asgO, xs_frz, xs_fgt, xs_app, xs_ext, xs_setI, xs_exp, xs_ret, xs_retO, xs_retN, xs_ite, xs_rai, xs_par, parR, parM, parO, parDO, parOD, okS, rb_ok, opt, optB, one, truR, tru, optE, bindT, argsD, putOuts, putM, pk, mk, frE, slotsOf, outsOf, runF, wipeE, cc, cmpD, e, setV]
  have st7 : exS (calF T 30) (.asgO 7 .dic0) [.dat (.scr ns), .dat (.int k), .own P3, .dat N, .dat S, .un, .dat (.bl (!isX nm ts)), .un, .own RD, .dat (.str tx), .un, .un] = .ok (.nx [.dat (.scr ns), .dat (.int k), .own P3, .dat N, .dat S, .un, .dat (.bl (!isX nm ts)), .own (.dic []), .own RD, .dat (.str tx), .un, .un]) := rfl
  have st8 : exS (calF T 30) (.for (.var 5) (.var 3)
    (.seq (.setI 7 (.var 5) (.blt .tuple (.cons (.cal 24 (.cons (.var 3) (.cons (.subP 8 (.var 5)) .nil)) true) .nil)))
    (.seq (.fgt 5)
    .skip))) [.dat (.scr ns), .dat (.int k), .own P3, .dat N, .dat S, .un, .dat (.bl (!isX nm ts)), .own (.dic []), .own RD, .dat (.str tx), .un, .un] = .ok (.nx [.dat (.scr ns), .dat (.int k), .own P3, .dat N, .dat S, .un, .dat (.bl (!isX nm ts)), .own (.dic (kvL U nm)), .own RD, .dat (.str tx), .un, .un]) := by
    rw [xs_for, ev_var]
    simp only [List.getElem?_cons_zero, List.getElem?_cons_succ, rb_ok, hN]
    refine forGo_pfx D.str (fun done => [.dat (.scr ns), .dat (.int k), .own P3, .dat N, .dat S, .un, .dat (.bl (!isX nm ts)), .own (.dic (kvL U done)), .own RD, .dat (.str tx), .un, .un]) nm nm [] rfl fun done x rest hall => ?_
    have hx : x ∈ nm := by rw [hall]; simp
    refine ⟨[.dat (.scr ns), .dat (.int k), .own P3, .dat N, .dat S, .dat (.str x), .dat (.bl (!isX nm ts)), .own (.dic (kvL U done)), .own RD, .dat (.str tx), .un, .un], rfl, ?_⟩
    have a := lk x hx
    have a2 := u1 x
    have a3 : bltD .tuple [.lst (sds (unionL nm (fit nm ts x)))] = some (U x) := rfl
    have hk : (D.str x).key = some (kx x) := rfl
    have hp : putD (kvL U done) (kx x) (U x) = kvL U (done ++ [x]) := kv_put hnd hall
    have hs : (kvL U done).length < sizeLine := by
      have := congrArg List.length hall
      rw [List.length_append, List.length_cons] at this
      unfold kvL
      rw [List.length_map, sizeLine_eq]
      omega
    generalize D.lst ((fit nm ts x).map tupS) = G at *
    generalize D.lst (sds (unionL nm (fit nm ts x))) = G2 at *
    generalize U x = G3 at *
    simp [ev_nil, ev_cons, ev_var, ev_con, ev_cI, ev_cS, ev_cB, ev_cN, ev_lst, ev_tup, ev_dic0, ev_bin, ev_neg, ev_not, ev_and, ev_or, ev_cmp, ev_ife, ev_isi, ev_cal, ev_ioA, ev_borA, ev_blt, ev_lenP, ev_sub, ev_subP, ev_slc, ev_rng, ev_rev, ev_items, xs_skip, xs_seq, xs_asg, xs_asgO, xs_frz, xs_fgt, xs_app, xs_ext, xs_setI, xs_exp, xs_ret, xs_retO, xs_retN, xs_ite, xs_rai, xs_par, parR, parM, parO, parDO, parOD, okS, rb_ok, opt, optB, one, truR, tru, optE, bindT, argsD, putOuts, putM, pk, mk, frE, slotsOf, outsOf, runF, wipeE, a, a2, a3, setM, hk, hs, hp]
  have g8 : calF T 30 12 [N, S] = .ok (if isX nm ts then .dic (kvL (fun s => tupS (mw nm ts s)) nm) else .non, []) := by
    rw [g7]
    unfold wKv kvL
    rw [List.map_map]
    rfl
  have hU : isX nm ts = true → kvL U nm = kvL (fun s => tupS (mw nm ts s)) nm := fun hx => by
    unfold kvL
    apply List.map_congr_left
    intro s hs
    show (kx s, tupS (unionL nm (fit nm ts s))) = _
    rw [union_eq (isX_iff.mp hx s hs)]
  have st9 : exS (calF T 30) (.ite (.cmp .NotEq (.cal 12 (.cons (.var 3) (.cons (.var 4) .nil)) false) (.ife (.var 6) .cN (.var 7)))
    (.seq (.ret (.cB false))
    .skip)
    .skip) [.dat (.scr ns), .dat (.int k), .own P3, .dat N, .dat S, .un, .dat (.bl (!isX nm ts)), .dat (.dic (kvL U nm)), .own RD, .dat (.str tx), .un, .un] = .ok (.nx [.dat (.scr ns), .dat (.int k), .own P3, .dat N, .dat S, .un, .dat (.bl (!isX nm ts)), .dat (.dic (kvL U nm)), .own RD, .dat (.str tx), .un, .un]) := by
    cases c : isX nm ts with
    | false =>
      rw [c] at g8
      have e : deq .non .non = some true := rfl
      simp [ev_nil, ev_cons, ev_var, ev_con, ev_cI, ev_cS, ev_cB, ev_cN, ev_lst, ev_tup, ev_dic0, ev_bin, ev_neg, ev_not, ev_and, ev_or, ev_cmp, ev_ife, ev_isi, ev_cal, ev_ioA, ev_borA, ev_blt, ev_lenP, ev_sub, ev_subP, ev_slc, ev_rng, ev_rev, ev_items, xs_skip, xs_seq, xs_asg, xs_asgO, xs_frz, xs_fgt, xs_app, xs_ext, xs_setI, xs_exp, xs_ret, xs_retO, xs_retN, xs_ite, xs_rai, xs_par, parR, parM, parO, parDO, parOD, okS, rb_ok, opt, optB, one, truR, tru, optE, bindT, argsD, putOuts, putM, pk, mk, frE, slotsOf, outsOf, runF, wipeE, g8, cmpD, e]
    | true =>
      rw [c] at g8
      have e := deq_kv (nm := nm) (r := fun s => mw nm ts s) (fun s x hx => hg x (mw_mem hx))
      rw [← hU c] at e g8
      generalize D.dic (kvL U nm) = G at *
      simp [ev_nil, ev_cons, ev_var, ev_con, ev_cI, ev_cS, ev_cB, ev_cN, ev_lst, ev_tup, ev_dic0, ev_bin, ev_neg, ev_not, ev_and, ev_or, ev_cmp, ev_ife, ev_isi, ev_cal, ev_ioA, ev_borA, ev_blt, ev_lenP, ev_sub, ev_subP, ev_slc, ev_rng, ev_rev, ev_items, xs_skip, xs_seq, xs_asg, xs_asgO, xs_frz, xs_fgt, xs_app, xs_ext, xs_setI, xs_exp, xs_ret, xs_retO, xs_retN, xs_ite, xs_rai, xs_par, parR, parM, parO, parDO, parOD, okS, rb_ok, opt, optB, one, truR, tru, optE, bindT, argsD, putOuts, putM, pk, mk, frE, slotsOf, outsOf, runF, wipeE, g8, cmpD, e]
  generalize D.dic (kvL U nm) = WD at *
  have dm : ∀ s ∈ nm, mustD nm ts s = (if isX nm ts then commonL nm (fit nm ts s) else []) := fun s hs => by
    unfold mustD
    cases c : isX nm ts with
    | false => rfl
    | true => rw [if_pos rfl, if_pos rfl, common_eq hnd (isX_iff.mp c s hs)]
  have dn : ∀ s ∈ nm, mayD nm ts s = (if isX nm ts then unionL nm (fit nm ts s) else []) := fun s hs => by
    unfold mayD
    cases c : isX nm ts with
    | false => rfl
    | true => rw [if_pos rfl, if_pos rfl, union_eq (isX_iff.mp c s hs)]
  have st10 : exS (calF T 30) (.for (.var 5) (.var 3)
    (.seq (.asg (.var 10) (.ife (.var 6) (.lst .nil) (.cal 25 (.cons (.var 3) (.cons (.subP 8 (.var 5)) .nil)) true)))
    (.seq (.asg (.var 11) (.ife (.var 6) (.lst .nil) (.cal 24 (.cons (.var 3) (.cons (.subP 8 (.var 5)) .nil)) true)))
    (.seq (.ite (.or (.cmp .NotEq (.cal 14 (.cons (.var 3) (.cons (.var 4) (.cons (.var 5) .nil))) true) (.var 10)) (.cmp .NotEq (.cal 15 (.cons (.blt .list (.cons (.var 3) .nil)) (.cons (.blt .tuple (.cons (.var 4) .nil)) (.cons (.var 5) .nil))) false) (.var 11)))
    (.seq (.ret (.cB false))
    .skip)
    .skip)
    (.seq (.ite (.cmp .NotEq (.cal 16 (.cons (.var 3) (.cons (.var 4) (.cons (.var 5) .nil))) false) (.cmp .NotEq (.var 10) (.var 11)))
    (.seq (.ret (.cB false))
    .skip)
    .skip)
    (.seq (.fgt 5)
    (.seq (.fgt 10)
    (.seq (.fgt 11)
    .skip)))))))) [.dat (.scr ns), .dat (.int k), .own P3, .dat N, .dat S, .un, .dat (.bl (!isX nm ts)), .dat WD, .own RD, .dat (.str tx), .un, .un] = .ok (.nx [.dat (.scr ns), .dat (.int k), .own P3, .dat N, .dat S, .un, .dat (.bl (!isX nm ts)), .dat WD, .own RD, .dat (.str tx), .un, .un]) := by
    rw [xs_for, ev_var]
    simp only [List.getElem?_cons_zero, List.getElem?_cons_succ, rb_ok, hN]
    refine forGo_id D.str nm fun x hx => ?_
    refine ⟨[.dat (.scr ns), .dat (.int k), .own P3, .dat N, .dat S, .dat (.str x), .dat (.bl (!isX nm ts)), .dat WD, .own RD, .dat (.str tx), .un, .un], rfl, ?_⟩
    have a := lk x hx
    have a1 := c1 x
    have a2 := u1 x
    have a3 := q1 x hx
    have a4 := q2 x hx
    have a5 := q3 x hx
    have d1 := dm x hx
    have d2 := dn x hx
    rw [d1] at a3 a5
    rw [d2] at a4 a5
    have gu : ∀ y ∈ unionL nm (fit nm ts x), goodS y := fun y hy => hg y (List.mem_filter.mp hy).1
    have gc : ∀ y ∈ commonL nm (fit nm ts x), goodS y := fun y hy => hg y (List.mem_filter.mp hy).1
    have e1 := deq_sds (r := commonL nm (fit nm ts x)) (q := commonL nm (fit nm ts x)) gc gc
    have e2 := deq_sds (r := unionL nm (fit nm ts x)) (q := unionL nm (fit nm ts x)) gu gu
    have e3 := deq_sds (r := commonL nm (fit nm ts x)) (q := unionL nm (fit nm ts x)) gc gu
    have e4 : decide (unionL nm (fit nm ts x) = commonL nm (fit nm ts x)) = decide (commonL nm (fit nm ts x) = unionL nm (fit nm ts x)) := by
      rw [Bool.eq_iff_iff, decide_eq_true_eq, decide_eq_true_eq]
      exact eq_comm
    cases c : isX nm ts with
    | true =>
      rw [c] at a3 a4 a5
      simp only [if_true] at a3 a4 a5
      rw [e4] at a5
      rw [decide_eq_true rfl] at e1 e2
      generalize D.lst ((fit nm ts x).map tupS) = G0 at *
      generalize D.lst (sds (commonL nm (fit nm ts x))) = G1 at *
      generalize D.lst (sds (unionL nm (fit nm ts x))) = G2 at *
      generalize decide (commonL nm (fit nm ts x) = unionL nm (fit nm ts x)) = q at *
      generalize D.lst (sds nm) = G3 at *
      simp [ev_nil, ev_cons, ev_var, ev_con, ev_cI, ev_cS, ev_cB, ev_cN, ev_lst, ev_tup, ev_dic0, ev_bin, ev_neg, ev_not, ev_and, ev_or, ev_cmp, ev_ife, ev_isi, ev_cal, ev_ioA, ev_borA, ev_blt, ev_lenP, ev_sub, ev_subP, ev_slc, ev_rng, ev_rev, ev_items, xs_skip, xs_seq, xs_asg, xs_asgO, xs_frz, xs_fgt, xs_app, xs_ext, xs_setI, xs_exp, xs_ret, xs_retO, xs_retN, xs_ite, xs_rai, xs_par, parR, parM, parO, parDO, parOD, okS, rb_ok, opt, optB, one, truR, tru, optE, bindT, argsD, putOuts, putM, pk, mk, frE, slotsOf, outsOf, runF, wipeE, a, a1, a2, a3, a4, a5, b1, b2, setV, cmpD, e1, e2, e3, deq_bl]
    | false =>
      rw [c] at a3 a4 a5
      simp only [if_false, Bool.false_eq_true, sds, List.map_nil, decide_true, Bool.not_true] at a3 a4 a5
      have e5 : deq (.lst []) (.lst []) = some true := rfl
      have b1' : bltD .list [N] = some (.lst (nm.map D.str)) := b1
      generalize D.lst ((fit nm ts x).map tupS) = G0 at *
      generalize D.lst (nm.map D.str) = G3 at *
      simp [ev_nil, ev_cons, ev_var, ev_con, ev_cI, ev_cS, ev_cB, ev_cN, ev_lst, ev_tup, ev_dic0, ev_bin, ev_neg, ev_not, ev_and, ev_or, ev_cmp, ev_ife, ev_isi, ev_cal, ev_ioA, ev_borA, ev_blt, ev_lenP, ev_sub, ev_subP, ev_slc, ev_rng, ev_rev, ev_items, xs_skip, xs_seq, xs_asg, xs_asgO, xs_frz, xs_fgt, xs_app, xs_ext, xs_setI, xs_exp, xs_ret, xs_retO, xs_retN, xs_ite, xs_rai, xs_par, parR, parM, parO, parDO, parOD, okS, rb_ok, opt, optB, one, truR, tru, optE, bindT, argsD, putOuts, putM, pk, mk, frE, slotsOf, outsOf, runF, wipeE, a, a1, a2, a3, a4, a5, b1', b2, setV, cmpD, e5, deq_bl]
  have st11 : exS (calF T 30) (.ite (.cmp .NotEq (.blt .repr (.cons (.var 4) .nil)) (.var 9))
    (.seq (.ret (.cB false))
    .skip)
    .skip) [.dat (.scr ns), .dat (.int k), .own P3, .dat N, .dat S, .un, .dat (.bl (!isX nm ts)), .dat WD, .own RD, .dat (.str tx), .un, .un] = .ok (.nx [.dat (.scr ns), .dat (.int k), .own P3, .dat N, .dat S, .un, .dat (.bl (!isX nm ts)), .dat WD, .own RD, .dat (.str tx), .un, .un]) := by
    simp [ev_nil, ev_cons, ev_var, ev_con, ev_cI, ev_cS, ev_cB, ev_cN, ev_lst, ev_tup, ev_dic0, ev_bin, ev_neg, ev_not, ev_and, ev_or, ev_cmp, ev_ife, ev_isi, ev_cal, ev_ioA, ev_borA, ev_blt, ev_lenP, ev_sub, ev_subP, ev_slc, ev_rng, ev_rev, ev_items, xs_skip, xs_seq, xs_asg, xs_asgO, xs_frz, xs_fgt, xs_app, xs_ext, xs_setI, xs_exp, xs_ret, xs_retO, xs_retN, xs_ite, xs_rai, xs_par, parR, parM, parO, parDO, parOD, okS, rb_ok, opt, optB, one, truR, tru, optE, bindT, argsD, putOuts, putM, pk, mk, frE, slotsOf, outsOf, runF, wipeE, hr, cmpD, deq_str]
  show exS (calF T 30) (.seq _ (.seq _ (.seq _ (.seq _ (.seq _ (.seq _ (.seq _ (.seq _ (.seq _ (.seq _ (.seq _ (.seq _ _)))))))))))) _ = _
  rw [seq_nx (by exact st1), seq_nx (by exact st2), seq_nx (by exact st3), seq_nx (by exact st4), seq_nx (by exact st5), seq_nx (by exact st6), seq_nx (by exact st7), seq_nx (by exact st8), seq_nx (by exact rfl), seq_nx (by exact st9), seq_nx (by exact st10), seq_nx (by exact st11)]
  rfl
theorem ans (ns : List Int) (hn : ns.length ≤ 63) : calF T 31 27 [.scr ns] = .ok (.bl true, []) := by
  rw [show calF T 31 27 = runF (calF T 30) f27 from rfl]
  have hm : ∃ m : Nat, m ≤ 8 ∧ bltD .min2 [.int 8, .int ns.length] = some (.int m) ∧ ∃ q : Nat, q ≤ 8 ∧ bltD .max2 [.int 1, .int m] = some (.int q) := by
    refine ⟨min 8 ns.length, by omega, ?_, max 1 (min 8 ns.length), by omega, ?_⟩
    · show some (D.int (if (ns.length : Int) < 8 then ns.length else 8)) = _
      congr 2
      split <;> omega
    · show some (D.int (if ((min 8 ns.length : Nat) : Int) > 1 then _ else 1)) = _
      congr 2
      split <;> omega
  obtain ⟨m, hm, e1, q, hq, e2⟩ := hm
  have hr : rngD (.int q) = some (.lst ((List.range q).map fun i => .int (i : Nat))) := by
    show (if _ then _ else _) = _
    rw [if_pos (by omega)]
    rfl
  have hb : bltD .len [.scr ns] = some (.int ns.length) := rfl
  have h1 := forGo_id (tgt := .var 1) (body := exS (calF T 30) (lawB f27)) (e := [.dat (.scr ns), .un, .un, .un, .un, .un, .un, .un, .un, .un, .un, .un]) (fun i : Nat => D.int (i : Nat)) (List.range q) (fun i hi => by
    rw [List.mem_range] at hi
    exact ⟨_, rfl, law_body (by omega)⟩)
  have hf : exS (calF T 30) (.for (.var 1) (.rng (.blt .max2 (.cons (.cI 1) (.cons (.blt .min2 (.cons (.cI 8) (.cons (.blt .len (.cons (.var 0) .nil)) .nil))) .nil)))) (lawB f27)) [.dat (.scr ns), .un, .un, .un, .un, .un, .un, .un, .un, .un, .un, .un] = .ok (.nx [.dat (.scr ns), .un, .un, .un, .un, .un, .un, .un, .un, .un, .un, .un]) := by
    rw [xs_for]
    rw [show ev (calF T 30) (.rng (.blt .max2 (.cons (.cI 1) (.cons (.blt .min2 (.cons (.cI 8) (.cons (.blt .len (.cons (.var 0) .nil)) .nil))) .nil)))) [.dat (.scr ns), .un, .un, .un, .un, .un, .un, .un, .un, .un, .un, .un] = .ok (.lst ((List.range q).map fun i => .int (i : Nat)), [.dat (.scr ns), .un, .un, .un, .un, .un, .un, .un, .un, .un, .un, .un]) by simp only [ev_nil, ev_cons, ev_var, ev_con, ev_cI, ev_cS, ev_cB, ev_cN, ev_lst, ev_tup, ev_dic0, ev_bin, ev_neg, ev_not, ev_and, ev_or, ev_cmp, ev_ife, ev_isi, ev_cal, ev_ioA, ev_borA, ev_blt, ev_lenP, ev_sub, ev_subP, ev_slc, ev_rng, ev_rev, ev_items, xs_skip, xs_seq, xs_asg, xs_asgO, xs_frz, xs_fgt, xs_app, xs_ext, xs_setI, xs_exp, xs_ret, xs_retO, xs_retN, xs_ite, xs_rai, xs_par, parR, parM, parO, parDO, parOD, okS, rb_ok, opt, optB, one, truR, tru, optE, bindT, argsD, putOuts, putM, pk, mk, frE, slotsOf, outsOf, runF, wipeE, List.getElem?_cons_zero, hb, e1, e2, hr], rb_ok]
    exact h1
  have h12 := twelveT 20
  unfold f27
  unfold runF
  simp only [slotsOf, Option.map]
  rw [seq_nx (by exact hf)]
  simp [ev_nil, ev_cons, ev_var, ev_con, ev_cI, ev_cS, ev_cB, ev_cN, ev_lst, ev_tup, ev_dic0, ev_bin, ev_neg, ev_not, ev_and, ev_or, ev_cmp, ev_ife, ev_isi, ev_cal, ev_ioA, ev_borA, ev_blt, ev_lenP, ev_sub, ev_subP, ev_slc, ev_rng, ev_rev, ev_items, xs_skip, xs_seq, xs_asg, xs_asgO, xs_frz, xs_fgt, xs_app, xs_ext, xs_setI, xs_exp, xs_ret, xs_retO, xs_retN, xs_ite, xs_rai, xs_par, parR, parM, parO, parDO, parOD, okS, rb_ok, opt, optB, one, truR, tru, optE, bindT, argsD, putOuts, putM, pk, mk, frE, slotsOf, outsOf, runF, wipeE, h12]
end K70
set_option Elab.async false
set_option linter.all false
set_option maxRecDepth 100000
set_option maxHeartbeats 1000000
namespace Dm
open PySem PySem.Spec PyProof.Rows L2
/-- what is said of the heap at the call -/
structure At0 (P : Program) (w : World) (K : PySem.W.Frag) (mg : Str → Option Value) (s : Shared) (a : Addr) (vs : List Value) : Prop where
  kx : K.In s.heap
  ns : s.heap.Ns mainGlobals mg
  bl : ∃ mb, s.heap.Ns builtinsNs mb ∧ ∀ x : Str, x ≠ "__name__" → mb x = bootBuiltins x
  lim : s.heap.NoLimit
  gn : s.gens = #[]
  ob : s.heap.get? a = some { cls := .type "list", data := .seq vs.toArray }
abbrev goodEnd (s : Shared) : Result → Shared → Prop := fun r s' => r = .ok (.ret (.bool true)) ∧ OldK s.heap s'.heap ∧ s'.os = s.os ∧ AllBare s'.gens
section
variable {P : Program} {w : World} {K : PySem.W.Frag} {mg : Str → Option Value} {s : Shared} {a fa : Addr} {vs : List Value} {ns : List Int} {k : Nat} {fd : FuncData} {x : Str} {sp : Sp}
theorem go_core (Z : At0 P w K mg s a vs) (hr : Room k callerA) (F : ∀ base : Heap, FnG P w K mg base k fa fd [x] sp) (hbind : ∀ (s : Shared) (u : Value), BindsTo s fd ⟨[u], []⟩ [(x, u)])
    {H : Hp} (hO : Only H) (hsp : sp [.ref a] H (fun v _ => v = .bl true) fun _ _ _ => False) (hok : HOk P w H s.heap) (hA : ∀ b, H b ≠ none → b = a ∧ K.lookup a = none) : codeAny (model P w) callerA (.call (.ref fa) ⟨[.ref a], []⟩) (goodEnd s) s := by
  have off : ∀ b, b ≠ a → H b = none := fun b hb => Classical.byContradiction fun z => hb (hA b z).1
  have offD : ∀ {b : Addr} {o : Obj}, s.heap.get? b = some o → (∀ l n, o.data ≠ .seq l n) → H b = none := fun {b o} e hd => by
    refine off b fun z => ?_
    rw [z, Z.ob] at e
    cases e
    exact hd _ _ rfl
  have nsB : ∀ {b : Addr} {m : Str → Option Value}, s.heap.Ns b m → (hidT s.heap H).Ns b m := by
    rintro b m ⟨o, es, ep, e, d, r⟩
    exact ⟨o, es, ep, hidT_get e (offD e fun l n z => by rw [d] at z; cases z), d, r⟩
  have inB : K.In (hidT s.heap H) := fun b o e => hidT_get (Z.kx b o e) (Classical.byContradiction fun z => by
    obtain ⟨z1, z2⟩ := hA b z
    rw [z1, z2] at e
    cases e)
  obtain ⟨mb, b1, b2⟩ := Z.bl
  obtain ⟨mc, c1, c2⟩ := Z.lim
  have e0 : Env0 P w K mg (hidT s.heap H) callerA [] s H := {
    frames := rfl
    mod := ⟨inB, nsB Z.ns, ⟨mb, nsB b1, b2⟩, ⟨mc, nsB c1, c2⟩⟩
    bs := fun b o e => of_hidT e
    bsz := Nat.le_of_eq (hidT_size _ _)
    funs := trivial
    frf := fun b hb => by cases hb
    hok := hok
    bare := .of_eq Z.gn }
  refine codeAny_mono ((F _).runG callerA [] s H _ [.ref a] [.ref a] _ _ hr rfl e0 (hbind s (.ref a)) (.cons rfl .nil) hsp) fun r s' h => ?_
  match r, h with
  | .ok (.ret u), ⟨v, H', os, bare, un, hok', rv, q⟩ =>
    cases (show v = .bl true from q)
    cases (show u = Value.bool true from rv)
    refine ⟨rfl, OldK.of_keep fun b o e => ?_, os, bare⟩
    rcases hO b with z | ⟨ob, xs, z⟩
    · exact un.keep b o e z (fun y => by cases y) (by simp)
    · have e1 := (hok b _ z).1
      have e2 := (hok' b _ (un.frzs b ob _ z)).1
      rw [e] at e1
      cases e1
      exact e2
theorem go_call (Z : At0 P w K mg s a vs) (hr : Room k callerA) (F : ∀ base : Heap, FnG P w K mg base k fa fd [x] sp) (hbind : ∀ (s : Shared) (u : Value), BindsTo s fd ⟨[u], []⟩ [(x, u)]) (hi : IntsAre vs ns) (hl : ns.length ≤ sizeLine)
    (hsp : ∀ H : Hp, Only H → SqL K H a (ns.map V.int) → sp [.ref a] H (fun v _ => v = .bl true) fun _ _ _ => False) : codeAny (model P w) callerA (.call (.ref fa) ⟨[.ref a], []⟩) (goodEnd s) s := by
  have rv := vals_ints hi
  cases hk : K.lookup a with
  | some o =>
    have e := Z.kx a o hk
    rw [Z.ob] at e
    cases e
    have O : Only fun _ => none := fun _ => .inl rfl
    refine go_core Z hr F hbind O (hsp _ O (.inr ⟨_, vs.toArray, _, hk, rfl, rfl, rfl, ?_, ?_⟩)) (fun b u z => nomatch z) fun b z => absurd rfl z
    · rw [List.size_toArray, hi.length]
      exact hl
    · simpa using rv
  | none =>
    let H0 : Hp := fun b => if b = a then some (.frz { cls := .type "list", data := .seq vs.toArray } (.lst (ns.map V.int))) else none
    have hit : H0 a = some (.frz { cls := .type "list", data := .seq vs.toArray } (.lst (ns.map V.int))) := if_pos rfl
    have mis : ∀ b, b ≠ a → H0 b = none := fun b hb => if_neg hb
    have O : Only H0 := fun b => by
      by_cases hb : b = a
      · exact .inr ⟨_, _, by rw [hb]; exact hit⟩
      · exact .inl (mis b hb)
    refine go_core Z hr F hbind O (hsp _ O (.inl (.inr ⟨_, hit⟩))) (fun b u z => ?_) fun b z => ⟨Classical.byContradiction fun hb => z (mis b hb), hk⟩
    by_cases hb : b = a
    · subst hb
      rw [hit] at z
      cases z
      exact ⟨Z.ob, by rw [List.length_map]; exact hl, vs, _, rv, Z.ob⟩
    · rw [mis b hb] at z
      cases z
end
theorem walk_G {l : PySem.W.OpenLaw} {n k : Nat} {q : Program} {loose : List Str} {XP : (Str → Option Value) → Heap → Prop} {YP : World → Heap → Prop} {d : DefRec} {x : Str}
    (hn : l.most = some n) (hn2 : n ≤ sizeLine) (hdf : d.params.defaults = []) (hr : Room k callerA)
    (F : ∀ (w : World) (mg : Str → Option Value) (fa : Addr) (h : Heap), YP w h → h.Ns mainGlobals mg → mg d.name = some (.ref fa) →
      ∃ (K : PySem.W.Frag) (fd : FuncData) (sp : Sp), K.In h ∧ (∀ (s : Shared) (u : Value), BindsTo s fd ⟨[u], []⟩ [(x, u)]) ∧ (∀ (H : Hp) (a : Addr) (ns : List Int), ns.length ≤ n → Only H → SqL K H a (ns.map V.int) → sp [.ref a] H (fun v _ => v = .bl true) fun _ _ _ => False) ∧ ∀ base : Heap, FnG l.prog w K mg base k fa fd [x] sp) :
    PySem.W.WalkO q loose XP YP l.row.toRowW d [] (fun f vs => PySem.call f vs) :=
  Att.attach_call hn hdf fun w s₀ s₁ mg mb fa o pm cd doc a vs ns G Y ho hd hcd hmg hobj hints hlen hg => by
    obtain ⟨K, fd, sp, KX, hb, hsp, hF⟩ := F w mg fa _ Y G.T.g hmg
    exact go_call ⟨KX, G.T.g, ⟨mb, G.T.b, G.T.builtins⟩, G.T.nolimit, hg, hobj⟩ hr hF hb hints (Nat.le_trans hlen hn2) fun H hO hS => hsp H a ns hlen hO hS
end Dm
set_option Elab.async false
set_option linter.all false
set_option maxRecDepth 100000
set_option maxHeartbeats 0
namespace K70
open PySem PySem.Spec PyProof.Rows L2 Dm
def top (i : Nat) : Stmt := PySem.Challenge.pw_refundtrees_k70_whole_wants_told_back.main.body.getD i (.Pass ⟨0, 0, 0, 0⟩)
def d0 : He.DefD := ⟨("is_word", none), "is_word", "is_word", defArgs (top 7), defBody (top 7), defScope (top 7), [], []⟩
def d1 : He.DefD := ⟨("is_row", none), "is_row", "is_row", defArgs (top 8), defBody (top 8), defScope (top 8), [], []⟩
def d2 : He.DefD := ⟨("are_unlike", none), "are_unlike", "are_unlike", defArgs (top 9), defBody (top 9), defScope (top 9), [], []⟩
def d3 : He.DefD := ⟨("are_words", none), "are_words", "are_words", defArgs (top 10), defBody (top 10), defScope (top 10), [], []⟩
def d4 : He.DefD := ⟨("is_build_of", none), "is_build_of", "is_build_of", defArgs (top 13), defBody (top 13), defScope (top 13), [], []⟩
def d5 : He.DefD := ⟨("is_triple", none), "is_triple", "is_triple", defArgs (top 14), defBody (top 14), defScope (top 14), [], []⟩
def d6 : He.DefD := ⟨("look_at_names", none), "look_at_names", "look_at_names", defArgs (top 15), defBody (top 15), defScope (top 15), [], []⟩
def d7 : He.DefD := ⟨("are_triples", none), "are_triples", "are_triples", defArgs (top 16), defBody (top 16), defScope (top 16), [], []⟩
def d8 : He.DefD := ⟨("look_at_seen", none), "look_at_seen", "look_at_seen", defArgs (top 17), defBody (top 17), defScope (top 17), [], []⟩
def d9 : He.DefD := ⟨("most_wanted", none), "most_wanted", "most_wanted", defArgs (top 18), defBody (top 18), defScope (top 18), [], []⟩
def d10 : He.DefD := ⟨("refused_rows", none), "refused_rows", "refused_rows", defArgs (top 19), defBody (top 19), defScope (top 19), [], []⟩
def d11 : He.DefD := ⟨("is_explained", none), "is_explained", "is_explained", defArgs (top 20), defBody (top 20), defScope (top 20), [], []⟩
def d12 : He.DefD := ⟨("greatest_wants", none), "greatest_wants", "greatest_wants", defArgs (top 21), defBody (top 21), defScope (top 21), [], []⟩
def d13 : He.DefD := ⟨("look_at_question", none), "look_at_question", "look_at_question", defArgs (top 22), defBody (top 22), defScope (top 22), [], []⟩
def d14 : He.DefD := ⟨("must", none), "must", "must", defArgs (top 23), defBody (top 23), defScope (top 23), [], []⟩
def d15 : He.DefD := ⟨("may", none), "may", "may", defArgs (top 24), defBody (top 24), defScope (top 24), [], []⟩
def d16 : He.DefD := ⟨("next_ask", none), "next_ask", "next_ask", defArgs (top 25), defBody (top 25), defScope (top 25), [], []⟩
def d17 : He.DefD := ⟨("_law_pool", none), "_law_pool", "_law_pool", defArgs (top 27), defBody (top 27), defScope (top 27), [], []⟩
def d18 : He.DefD := ⟨("_law_take", none), "_law_take", "_law_take", defArgs (top 28), defBody (top 28), defScope (top 28), [], []⟩
def d19 : He.DefD := ⟨("_law_one", none), "_law_one", "_law_one", defArgs (top 29), defBody (top 29), defScope (top 29), [], []⟩
def d20 : He.DefD := ⟨("_law_told_names", none), "_law_told_names", "_law_told_names", defArgs (top 30), defBody (top 30), defScope (top 30), [], []⟩
def d21 : He.DefD := ⟨("_law_parts", none), "_law_parts", "_law_parts", defArgs (top 31), defBody (top 31), defScope (top 31), [], []⟩
def d22 : He.DefD := ⟨("_law_answers", none), "_law_answers", "_law_answers", defArgs (top 32), defBody (top 32), defScope (top 32), [], []⟩
def d23 : He.DefD := ⟨("_law_fitting", none), "_law_fitting", "_law_fitting", defArgs (top 33), defBody (top 33), defScope (top 33), [], []⟩
def d24 : He.DefD := ⟨("_law_union", none), "_law_union", "_law_union", defArgs (top 34), defBody (top 34), defScope (top 34), [], []⟩
def d25 : He.DefD := ⟨("_law_common", none), "_law_common", "_law_common", defArgs (top 35), defBody (top 35), defScope (top 35), [], []⟩
def d26 : He.DefD := ⟨("_law_twelve", none), "_law_twelve", "_law_twelve", defArgs (top 36), defBody (top 36), defScope (top 36), [], []⟩
def d27 : He.DefD := ⟨("law", none), "law", "law", defArgs (top 37), defBody (top 37), defScope (top 37), [], []⟩
def dfn : List He.DefD := [d0, d1, d2, d3, d4, d5, d6, d7, d8, d9, d10, d11, d12, d13, d14, d15, d16, d17, d18, d19] ++ [d20, d21, d22, d23, d24, d25, d26, d27]
def dfa : List He.Fa := ([.glo "is_word", .glo "is_row", .glo "are_unlike", .glo "are_words", .glo "is_build_of", .glo "is_triple", .glo "look_at_names", .glo "are_triples", .glo "look_at_seen", .glo "most_wanted", .glo "refused_rows", .glo "is_explained", .glo "greatest_wants", .glo "look_at_question", .glo "must", .glo "may", .glo "next_ask", .glo "_law_pool", .glo "_law_take", .glo "_law_one"] : List He.Fa) ++ ([.glo "_law_told_names", .glo "_law_parts", .glo "_law_answers", .glo "_law_fitting", .glo "_law_union", .glo "_law_common", .glo "_law_twelve", .glo "law", .free "len", .free "int", .free "max", .free "min", .free "all", .free "any", .free "sum", .free "tuple", .free "list", .free "dict", .free "isinstance", .free "range"] : List He.Fa) ++ ([.free "str", .free "bool", .free "sorted", .free "repr", .str "LETTERS" "abcdefghijklmnopqrstuvwxyz", .int "MOST_LETTERS" 8, .int "MOST_SKILLS" 12] : List He.Fa)
abbrev R : PySem.W.OpenRow := PySem.W.OpenLaw.row PySem.Challenge.rw_refundtrees_k70_whole_wants_told_back
abbrev hk : PySem.W.Hook := He.hookD 4 dfa dfn
def ob (s : PySem.W.SharedT) : He.AlD := He.obsDG 4 dfa dfn (HandSHeadRun.getT s)
theorem ob_eq (s : PySem.W.SharedT) : ob s = hk.obs s.abs := He.obsDG_eq (HandSHeadRun.getT_eq s)
def loose : List PySem.Str := (["TreeError", "NoSkill", "NoSeen", "LETTERS", "MOST_LETTERS", "is_word", "is_row", "are_unlike", "are_words", "MOST_SKILLS", "is_build_of", "is_triple", "look_at_names", "are_triples", "look_at_seen", "most_wanted", "refused_rows", "is_explained", "greatest_wants", "look_at_question"] : List PySem.Str) ++ (["must", "may", "next_ask", "_law_pool", "_law_take", "_law_one", "_law_told_names", "_law_parts", "_law_answers", "_law_fitting", "_law_union", "_law_common", "_law_twelve"] : List PySem.Str)
theorem run (w : World) : HandSHeadRun.RunEq R (PySem.W.view R.prog [37]) hk ob 3000 loose w := by
  intro os
  kernel_rfl
section
variable {K : PySem.W.Frag} {h : Heap} {mg : Str → Option Value}
def N0 : List Str := ["value", "sign"]
def P0 : List Str := ["value"]
theorem sc0 : FnScope N0 P0 (defScope (top 7)) := ⟨by kernel_rfl, by kernel_rfl, by kernel_rfl, by decide +kernel, by rfl, by decide +kernel, by decide +kernel⟩
theorem ck0 : chkS ⟨N0, nm, fs, con, at_⟩ (defScope (top 7)) f0.body (defBody (top 7)) = true := by kernel_rfl
theorem ok0 (X : K.In h) (G : h.Ns mainGlobals mg) (c : He.SaysD dfa dfn K) : DefOk K mg nm fs con at_ f0 (.glo "is_word") := by
  obtain ⟨fd, F⟩ := c.def_ 0 (d := d0) rfl
  exact ⟨_, fd, P0, N0, _, _, _, _, _, _, _, ⟨He.glo_ok X G (c.fact 0 (f := .glo "is_word") rfl), F.kp, F.bindsN (fun _ _ _ _ _ _ us hl => match us, hl with | [_], _ => rfl)⟩, F, sc0, rfl, rfl, by decide, ck0⟩
def N1 : List Str := ["value"]
def P1 : List Str := ["value"]
theorem sc1 : FnScope N1 P1 (defScope (top 8)) := ⟨by kernel_rfl, by kernel_rfl, by kernel_rfl, by decide +kernel, by rfl, by decide +kernel, by decide +kernel⟩
theorem ck1 : chkS ⟨N1, nm, fs, con, at_⟩ (defScope (top 8)) f1.body (defBody (top 8)) = true := by kernel_rfl
theorem ok1 (X : K.In h) (G : h.Ns mainGlobals mg) (c : He.SaysD dfa dfn K) : DefOk K mg nm fs con at_ f1 (.glo "is_row") := by
  obtain ⟨fd, F⟩ := c.def_ 1 (d := d1) rfl
  exact ⟨_, fd, P1, N1, _, _, _, _, _, _, _, ⟨He.glo_ok X G (c.fact 1 (f := .glo "is_row") rfl), F.kp, F.bindsN (fun _ _ _ _ _ _ us hl => match us, hl with | [_], _ => rfl)⟩, F, sc1, rfl, rfl, by decide, ck1⟩
def N2 : List Str := ["some", "one"]
def P2 : List Str := ["some"]
theorem sc2 : FnScope N2 P2 (defScope (top 9)) := ⟨by kernel_rfl, by kernel_rfl, by kernel_rfl, by decide +kernel, by rfl, by decide +kernel, by decide +kernel⟩
theorem ck2 : chkS ⟨N2, nm, fs, con, at_⟩ (defScope (top 9)) f2.body (defBody (top 9)) = true := by kernel_rfl
theorem ok2 (X : K.In h) (G : h.Ns mainGlobals mg) (c : He.SaysD dfa dfn K) : DefOk K mg nm fs con at_ f2 (.glo "are_unlike") := by
  obtain ⟨fd, F⟩ := c.def_ 2 (d := d2) rfl
  exact ⟨_, fd, P2, N2, _, _, _, _, _, _, _, ⟨He.glo_ok X G (c.fact 2 (f := .glo "are_unlike") rfl), F.kp, F.bindsN (fun _ _ _ _ _ _ us hl => match us, hl with | [_], _ => rfl)⟩, F, sc2, rfl, rfl, by decide, ck2⟩
def N3 : List Str := ["value", "low", "high", "word"]
def P3 : List Str := ["value", "low", "high"]
theorem sc3 : FnScope N3 P3 (defScope (top 10)) := ⟨by kernel_rfl, by kernel_rfl, by kernel_rfl, by decide +kernel, by rfl, by decide +kernel, by decide +kernel⟩
theorem ck3 : chkS ⟨N3, nm, fs, con, at_⟩ (defScope (top 10)) f3.body (defBody (top 10)) = true := by kernel_rfl
theorem ok3 (X : K.In h) (G : h.Ns mainGlobals mg) (c : He.SaysD dfa dfn K) : DefOk K mg nm fs con at_ f3 (.glo "are_words") := by
  obtain ⟨fd, F⟩ := c.def_ 3 (d := d3) rfl
  exact ⟨_, fd, P3, N3, _, _, _, _, _, _, _, ⟨He.glo_ok X G (c.fact 3 (f := .glo "are_words") rfl), F.kp, F.bindsN (fun _ _ _ _ _ _ us hl => match us, hl with | [_, _, _], _ => rfl)⟩, F, sc3, rfl, rfl, by decide, ck3⟩
def N4 : List Str := ["names", "value", "name"]
def P4 : List Str := ["names", "value"]
theorem sc4 : FnScope N4 P4 (defScope (top 13)) := ⟨by kernel_rfl, by kernel_rfl, by kernel_rfl, by decide +kernel, by rfl, by decide +kernel, by decide +kernel⟩
theorem ck4 : chkS ⟨N4, nm, fs, con, at_⟩ (defScope (top 13)) f4.body (defBody (top 13)) = true := by kernel_rfl
theorem ok4 (X : K.In h) (G : h.Ns mainGlobals mg) (c : He.SaysD dfa dfn K) : DefOk K mg nm fs con at_ f4 (.glo "is_build_of") := by
  obtain ⟨fd, F⟩ := c.def_ 4 (d := d4) rfl
  exact ⟨_, fd, P4, N4, _, _, _, _, _, _, _, ⟨He.glo_ok X G (c.fact 4 (f := .glo "is_build_of") rfl), F.kp, F.bindsN (fun _ _ _ _ _ _ us hl => match us, hl with | [_, _], _ => rfl)⟩, F, sc4, rfl, rfl, by decide, ck4⟩
def N5 : List Str := ["names", "value"]
def P5 : List Str := ["names", "value"]
theorem sc5 : FnScope N5 P5 (defScope (top 14)) := ⟨by kernel_rfl, by kernel_rfl, by kernel_rfl, by decide +kernel, by rfl, by decide +kernel, by decide +kernel⟩
theorem ck5 : chkS ⟨N5, nm, fs, con, at_⟩ (defScope (top 14)) f5.body (defBody (top 14)) = true := by kernel_rfl
theorem ok5 (X : K.In h) (G : h.Ns mainGlobals mg) (c : He.SaysD dfa dfn K) : DefOk K mg nm fs con at_ f5 (.glo "is_triple") := by
  obtain ⟨fd, F⟩ := c.def_ 5 (d := d5) rfl
  exact ⟨_, fd, P5, N5, _, _, _, _, _, _, _, ⟨He.glo_ok X G (c.fact 5 (f := .glo "is_triple") rfl), F.kp, F.bindsN (fun _ _ _ _ _ _ us hl => match us, hl with | [_, _], _ => rfl)⟩, F, sc5, rfl, rfl, by decide, ck5⟩
def N6 : List Str := ["names"]
def P6 : List Str := ["names"]
theorem sc6 : FnScope N6 P6 (defScope (top 15)) := ⟨by kernel_rfl, by kernel_rfl, by kernel_rfl, by decide +kernel, by rfl, by decide +kernel, by decide +kernel⟩
theorem ck6 : chkS ⟨N6, nm, fs, con, at_⟩ (defScope (top 15)) f6.body (defBody (top 15)) = true := by kernel_rfl
theorem ok6 (X : K.In h) (G : h.Ns mainGlobals mg) (c : He.SaysD dfa dfn K) : DefOk K mg nm fs con at_ f6 (.glo "look_at_names") := by
  obtain ⟨fd, F⟩ := c.def_ 6 (d := d6) rfl
  exact ⟨_, fd, P6, N6, _, _, _, _, _, _, _, ⟨He.glo_ok X G (c.fact 6 (f := .glo "look_at_names") rfl), F.kp, F.bindsN (fun _ _ _ _ _ _ us hl => match us, hl with | [_], _ => rfl)⟩, F, sc6, rfl, rfl, by decide, ck6⟩
def N7 : List Str := ["names", "value", "triple"]
def P7 : List Str := ["names", "value"]
theorem sc7 : FnScope N7 P7 (defScope (top 16)) := ⟨by kernel_rfl, by kernel_rfl, by kernel_rfl, by decide +kernel, by rfl, by decide +kernel, by decide +kernel⟩
theorem ck7 : chkS ⟨N7, nm, fs, con, at_⟩ (defScope (top 16)) f7.body (defBody (top 16)) = true := by kernel_rfl
theorem ok7 (X : K.In h) (G : h.Ns mainGlobals mg) (c : He.SaysD dfa dfn K) : DefOk K mg nm fs con at_ f7 (.glo "are_triples") := by
  obtain ⟨fd, F⟩ := c.def_ 7 (d := d7) rfl
  exact ⟨_, fd, P7, N7, _, _, _, _, _, _, _, ⟨He.glo_ok X G (c.fact 7 (f := .glo "are_triples") rfl), F.kp, F.bindsN (fun _ _ _ _ _ _ us hl => match us, hl with | [_, _], _ => rfl)⟩, F, sc7, rfl, rfl, by decide, ck7⟩
def N8 : List Str := ["names", "seen"]
def P8 : List Str := ["names", "seen"]
theorem sc8 : FnScope N8 P8 (defScope (top 17)) := ⟨by kernel_rfl, by kernel_rfl, by kernel_rfl, by decide +kernel, by rfl, by decide +kernel, by decide +kernel⟩
theorem ck8 : chkS ⟨N8, nm, fs, con, at_⟩ (defScope (top 17)) f8.body (defBody (top 17)) = true := by kernel_rfl
theorem ok8 (X : K.In h) (G : h.Ns mainGlobals mg) (c : He.SaysD dfa dfn K) : DefOk K mg nm fs con at_ f8 (.glo "look_at_seen") := by
  obtain ⟨fd, F⟩ := c.def_ 8 (d := d8) rfl
  exact ⟨_, fd, P8, N8, _, _, _, _, _, _, _, ⟨He.glo_ok X G (c.fact 8 (f := .glo "look_at_seen") rfl), F.kp, F.bindsN (fun _ _ _ _ _ _ us hl => match us, hl with | [_, _], _ => rfl)⟩, F, sc8, rfl, rfl, by decide, ck8⟩
def N9 : List Str := ["names", "seen", "skill", "rows", "build", "one", "let", "name"]
def P9 : List Str := ["names", "seen", "skill"]
theorem sc9 : FnScope N9 P9 (defScope (top 18)) := ⟨by kernel_rfl, by kernel_rfl, by kernel_rfl, by decide +kernel, by rfl, by decide +kernel, by decide +kernel⟩
theorem ck9 : chkS ⟨N9, nm, fs, con, at_⟩ (defScope (top 18)) f9.body (defBody (top 18)) = true := by kernel_rfl
theorem ok9 (X : K.In h) (G : h.Ns mainGlobals mg) (c : He.SaysD dfa dfn K) : DefOk K mg nm fs con at_ f9 (.glo "most_wanted") := by
  obtain ⟨fd, F⟩ := c.def_ 9 (d := d9) rfl
  exact ⟨_, fd, P9, N9, _, _, _, _, _, _, _, ⟨He.glo_ok X G (c.fact 9 (f := .glo "most_wanted") rfl), F.kp, F.bindsN (fun _ _ _ _ _ _ us hl => match us, hl with | [_, _, _], _ => rfl)⟩, F, sc9, rfl, rfl, by decide, ck9⟩
def N10 : List Str := ["names", "seen", "skill", "most", "name", "build", "one", "let"]
def P10 : List Str := ["names", "seen", "skill"]
theorem sc10 : FnScope N10 P10 (defScope (top 19)) := ⟨by kernel_rfl, by kernel_rfl, by kernel_rfl, by decide +kernel, by rfl, by decide +kernel, by decide +kernel⟩
theorem ck10 : chkS ⟨N10, nm, fs, con, at_⟩ (defScope (top 19)) f10.body (defBody (top 19)) = true := by kernel_rfl
theorem ok10 (X : K.In h) (G : h.Ns mainGlobals mg) (c : He.SaysD dfa dfn K) : DefOk K mg nm fs con at_ f10 (.glo "refused_rows") := by
  obtain ⟨fd, F⟩ := c.def_ 10 (d := d10) rfl
  exact ⟨_, fd, P10, N10, _, _, _, _, _, _, _, ⟨He.glo_ok X G (c.fact 10 (f := .glo "refused_rows") rfl), F.kp, F.bindsN (fun _ _ _ _ _ _ us hl => match us, hl with | [_, _, _], _ => rfl)⟩, F, sc10, rfl, rfl, by decide, ck10⟩
def N11 : List Str := ["names", "seen", "skill"]
def P11 : List Str := ["names", "seen"]
theorem sc11 : FnScope N11 P11 (defScope (top 20)) := ⟨by kernel_rfl, by kernel_rfl, by kernel_rfl, by decide +kernel, by rfl, by decide +kernel, by decide +kernel⟩
theorem ck11 : chkS ⟨N11, nm, fs, con, at_⟩ (defScope (top 20)) f11.body (defBody (top 20)) = true := by kernel_rfl
theorem ok11 (X : K.In h) (G : h.Ns mainGlobals mg) (c : He.SaysD dfa dfn K) : DefOk K mg nm fs con at_ f11 (.glo "is_explained") := by
  obtain ⟨fd, F⟩ := c.def_ 11 (d := d11) rfl
  exact ⟨_, fd, P11, N11, _, _, _, _, _, _, _, ⟨He.glo_ok X G (c.fact 11 (f := .glo "is_explained") rfl), F.kp, F.bindsN (fun _ _ _ _ _ _ us hl => match us, hl with | [_, _], _ => rfl)⟩, F, sc11, rfl, rfl, by decide, ck11⟩
def N12 : List Str := ["names", "seen", "skill"]
def P12 : List Str := ["names", "seen"]
theorem sc12 : FnScope N12 P12 (defScope (top 21)) := ⟨by kernel_rfl, by kernel_rfl, by kernel_rfl, by decide +kernel, by rfl, by decide +kernel, by decide +kernel⟩
theorem ck12 : chkS ⟨N12, nm, fs, con, at_⟩ (defScope (top 21)) f12.body (defBody (top 21)) = true := by kernel_rfl
theorem ok12 (X : K.In h) (G : h.Ns mainGlobals mg) (c : He.SaysD dfa dfn K) : DefOk K mg nm fs con at_ f12 (.glo "greatest_wants") := by
  obtain ⟨fd, F⟩ := c.def_ 12 (d := d12) rfl
  exact ⟨_, fd, P12, N12, _, _, _, _, _, _, _, ⟨He.glo_ok X G (c.fact 12 (f := .glo "greatest_wants") rfl), F.kp, F.bindsN (fun _ _ _ _ _ _ us hl => match us, hl with | [_, _], _ => rfl)⟩, F, sc12, rfl, rfl, by decide, ck12⟩
def N13 : List Str := ["names", "seen", "skill"]
def P13 : List Str := ["names", "seen", "skill"]
theorem sc13 : FnScope N13 P13 (defScope (top 22)) := ⟨by kernel_rfl, by kernel_rfl, by kernel_rfl, by decide +kernel, by rfl, by decide +kernel, by decide +kernel⟩
theorem ck13 : chkS ⟨N13, nm, fs, con, at_⟩ (defScope (top 22)) f13.body (defBody (top 22)) = true := by kernel_rfl
theorem ok13 (X : K.In h) (G : h.Ns mainGlobals mg) (c : He.SaysD dfa dfn K) : DefOk K mg nm fs con at_ f13 (.glo "look_at_question") := by
  obtain ⟨fd, F⟩ := c.def_ 13 (d := d13) rfl
  exact ⟨_, fd, P13, N13, _, _, _, _, _, _, _, ⟨He.glo_ok X G (c.fact 13 (f := .glo "look_at_question") rfl), F.kp, F.bindsN (fun _ _ _ _ _ _ us hl => match us, hl with | [_, _, _], _ => rfl)⟩, F, sc13, rfl, rfl, by decide, ck13⟩
def N14 : List Str := ["names", "seen", "skill", "rows", "name"]
def P14 : List Str := ["names", "seen", "skill"]
theorem sc14 : FnScope N14 P14 (defScope (top 23)) := ⟨by kernel_rfl, by kernel_rfl, by kernel_rfl, by decide +kernel, by rfl, by decide +kernel, by decide +kernel⟩
theorem ck14 : chkS ⟨N14, nm, fs, con, at_⟩ (defScope (top 23)) f14.body (defBody (top 23)) = true := by kernel_rfl
theorem ok14 (X : K.In h) (G : h.Ns mainGlobals mg) (c : He.SaysD dfa dfn K) : DefOk K mg nm fs con at_ f14 (.glo "must") := by
  obtain ⟨fd, F⟩ := c.def_ 14 (d := d14) rfl
  exact ⟨_, fd, P14, N14, _, _, _, _, _, _, _, ⟨He.glo_ok X G (c.fact 14 (f := .glo "must") rfl), F.kp, F.bindsN (fun _ _ _ _ _ _ us hl => match us, hl with | [_, _, _], _ => rfl)⟩, F, sc14, rfl, rfl, by decide, ck14⟩
def N15 : List Str := ["names", "seen", "skill"]
def P15 : List Str := ["names", "seen", "skill"]
theorem sc15 : FnScope N15 P15 (defScope (top 24)) := ⟨by kernel_rfl, by kernel_rfl, by kernel_rfl, by decide +kernel, by rfl, by decide +kernel, by decide +kernel⟩
theorem ck15 : chkS ⟨N15, nm, fs, con, at_⟩ (defScope (top 24)) f15.body (defBody (top 24)) = true := by kernel_rfl
theorem ok15 (X : K.In h) (G : h.Ns mainGlobals mg) (c : He.SaysD dfa dfn K) : DefOk K mg nm fs con at_ f15 (.glo "may") := by
  obtain ⟨fd, F⟩ := c.def_ 15 (d := d15) rfl
  exact ⟨_, fd, P15, N15, _, _, _, _, _, _, _, ⟨He.glo_ok X G (c.fact 15 (f := .glo "may") rfl), F.kp, F.bindsN (fun _ _ _ _ _ _ us hl => match us, hl with | [_, _, _], _ => rfl)⟩, F, sc15, rfl, rfl, by decide, ck15⟩
def N16 : List Str := ["names", "seen", "skill"]
def P16 : List Str := ["names", "seen", "skill"]
theorem sc16 : FnScope N16 P16 (defScope (top 25)) := ⟨by kernel_rfl, by kernel_rfl, by kernel_rfl, by decide +kernel, by rfl, by decide +kernel, by decide +kernel⟩
theorem ck16 : chkS ⟨N16, nm, fs, con, at_⟩ (defScope (top 25)) f16.body (defBody (top 25)) = true := by kernel_rfl
theorem ok16 (X : K.In h) (G : h.Ns mainGlobals mg) (c : He.SaysD dfa dfn K) : DefOk K mg nm fs con at_ f16 (.glo "next_ask") := by
  obtain ⟨fd, F⟩ := c.def_ 16 (d := d16) rfl
  exact ⟨_, fd, P16, N16, _, _, _, _, _, _, _, ⟨He.glo_ok X G (c.fact 16 (f := .glo "next_ask") rfl), F.kp, F.bindsN (fun _ _ _ _ _ _ us hl => match us, hl with | [_, _, _], _ => rfl)⟩, F, sc16, rfl, rfl, by decide, ck16⟩
def N17 : List Str := ["_law_script", "_law_k", "_law_cell", "_law_big", "_law_mixed"]
def P17 : List Str := ["_law_script", "_law_k"]
theorem sc17 : FnScope N17 P17 (defScope (top 27)) := ⟨by kernel_rfl, by kernel_rfl, by kernel_rfl, by decide +kernel, by rfl, by decide +kernel, by decide +kernel⟩
theorem ck17 : chkS ⟨N17, nm, fs, con, at_⟩ (defScope (top 27)) f17.body (defBody (top 27)) = true := by kernel_rfl
theorem ok17 (X : K.In h) (G : h.Ns mainGlobals mg) (c : He.SaysD dfa dfn K) : DefOk K mg nm fs con at_ f17 (.glo "_law_pool") := by
  obtain ⟨fd, F⟩ := c.def_ 17 (d := d17) rfl
  exact ⟨_, fd, P17, N17, _, _, _, _, _, _, _, ⟨He.glo_ok X G (c.fact 17 (f := .glo "_law_pool") rfl), F.kp, F.bindsN (fun _ _ _ _ _ _ us hl => match us, hl with | [_, _], _ => rfl)⟩, F, sc17, rfl, rfl, by decide, ck17⟩
def N18 : List Str := ["_law_pool_here", "_law_bound", "_law_result"]
def P18 : List Str := ["_law_pool_here", "_law_bound"]
theorem sc18 : FnScope N18 P18 (defScope (top 28)) := ⟨by kernel_rfl, by kernel_rfl, by kernel_rfl, by decide +kernel, by rfl, by decide +kernel, by decide +kernel⟩
theorem ck18 : chkS ⟨N18, nm, fs, con, at_⟩ (defScope (top 28)) f18.body (defBody (top 28)) = true := by kernel_rfl
theorem ok18 (X : K.In h) (G : h.Ns mainGlobals mg) (c : He.SaysD dfa dfn K) : DefOk K mg nm fs con at_ f18 (.glo "_law_take") := by
  obtain ⟨fd, F⟩ := c.def_ 18 (d := d18) rfl
  exact ⟨_, fd, P18, N18, _, _, _, _, _, _, _, ⟨He.glo_ok X G (c.fact 18 (f := .glo "_law_take") rfl), F.kp, F.bindsN (fun _ _ _ _ _ _ us hl => match us, hl with | [_, _], _ => rfl)⟩, F, sc18, rfl, rfl, by decide, ck18⟩
def N19 : List Str := ["_law_pool_here", "_law_things"]
def P19 : List Str := ["_law_pool_here", "_law_things"]
theorem sc19 : FnScope N19 P19 (defScope (top 29)) := ⟨by kernel_rfl, by kernel_rfl, by kernel_rfl, by decide +kernel, by rfl, by decide +kernel, by decide +kernel⟩
theorem ck19 : chkS ⟨N19, nm, fs, con, at_⟩ (defScope (top 29)) f19.body (defBody (top 29)) = true := by kernel_rfl
theorem ok19 (X : K.In h) (G : h.Ns mainGlobals mg) (c : He.SaysD dfa dfn K) : DefOk K mg nm fs con at_ f19 (.glo "_law_one") := by
  obtain ⟨fd, F⟩ := c.def_ 19 (d := d19) rfl
  exact ⟨_, fd, P19, N19, _, _, _, _, _, _, _, ⟨He.glo_ok X G (c.fact 19 (f := .glo "_law_one") rfl), F.kp, F.bindsN (fun _ _ _ _ _ _ us hl => match us, hl with | [_, _], _ => rfl)⟩, F, sc19, rfl, rfl, by decide, ck19⟩
def N20 : List Str := ["_law_pool_here", "_law_top", "_law_some"]
def P20 : List Str := ["_law_pool_here", "_law_top"]
theorem sc20 : FnScope N20 P20 (defScope (top 30)) := ⟨by kernel_rfl, by kernel_rfl, by kernel_rfl, by decide +kernel, by rfl, by decide +kernel, by decide +kernel⟩
theorem ck20 : chkS ⟨N20, nm, fs, con, at_⟩ (defScope (top 30)) f20.body (defBody (top 30)) = true := by kernel_rfl
theorem ok20 (X : K.In h) (G : h.Ns mainGlobals mg) (c : He.SaysD dfa dfn K) : DefOk K mg nm fs con at_ f20 (.glo "_law_told_names") := by
  obtain ⟨fd, F⟩ := c.def_ 20 (d := d20) rfl
  exact ⟨_, fd, P20, N20, _, _, _, _, _, _, _, ⟨He.glo_ok X G (c.fact 20 (f := .glo "_law_told_names") rfl), F.kp, F.bindsN (fun _ _ _ _ _ _ us hl => match us, hl with | [_, _], _ => rfl)⟩, F, sc20, rfl, rfl, by decide, ck20⟩
def N21 : List Str := ["_law_some", "_law_found", "_law_name", "_law_row"]
def P21 : List Str := ["_law_some"]
theorem sc21 : FnScope N21 P21 (defScope (top 31)) := ⟨by kernel_rfl, by kernel_rfl, by kernel_rfl, by decide +kernel, by rfl, by decide +kernel, by decide +kernel⟩
theorem ck21 : chkS ⟨N21, nm, fs, con, at_⟩ (defScope (top 31)) f21.body (defBody (top 31)) = true := by kernel_rfl
theorem ok21 (X : K.In h) (G : h.Ns mainGlobals mg) (c : He.SaysD dfa dfn K) : DefOk K mg nm fs con at_ f21 (.glo "_law_parts") := by
  obtain ⟨fd, F⟩ := c.def_ 21 (d := d21) rfl
  exact ⟨_, fd, P21, N21, _, _, _, _, _, _, _, ⟨He.glo_ok X G (c.fact 21 (f := .glo "_law_parts") rfl), F.kp, F.bindsN (fun _ _ _ _ _ _ us hl => match us, hl with | [_], _ => rfl)⟩, F, sc21, rfl, rfl, by decide, ck21⟩
def N22 : List Str := ["_law_pool_here", "_law_names", "_law_many", "_law_wants", "_law_name", "_law_found", "_law_turn", "_law_skill", "_law_build", "_law_lets", "_law_other"]
def P22 : List Str := ["_law_pool_here", "_law_names", "_law_many"]
theorem sc22 : FnScope N22 P22 (defScope (top 32)) := ⟨by kernel_rfl, by kernel_rfl, by kernel_rfl, by decide +kernel, by rfl, by decide +kernel, by decide +kernel⟩
theorem ck22 : chkS ⟨N22, nm, fs, con, at_⟩ (defScope (top 32)) f22.body (defBody (top 32)) = true := by kernel_rfl
theorem ok22 (X : K.In h) (G : h.Ns mainGlobals mg) (c : He.SaysD dfa dfn K) : DefOk K mg nm fs con at_ f22 (.glo "_law_answers") := by
  obtain ⟨fd, F⟩ := c.def_ 22 (d := d22) rfl
  exact ⟨_, fd, P22, N22, _, _, _, _, _, _, _, ⟨He.glo_ok X G (c.fact 22 (f := .glo "_law_answers") rfl), F.kp, F.bindsN (fun _ _ _ _ _ _ us hl => match us, hl with | [_, _, _], _ => rfl)⟩, F, sc22, rfl, rfl, by decide, ck22⟩
def N23 : List Str := ["_law_names", "_law_seen", "_law_skill", "_law_found", "_law_row", "_law_bad", "_law_other", "_law_one_here", "_law_name"]
def P23 : List Str := ["_law_names", "_law_seen", "_law_skill"]
theorem sc23 : FnScope N23 P23 (defScope (top 33)) := ⟨by kernel_rfl, by kernel_rfl, by kernel_rfl, by decide +kernel, by rfl, by decide +kernel, by decide +kernel⟩
theorem ck23 : chkS ⟨N23, nm, fs, con, at_⟩ (defScope (top 33)) f23.body (defBody (top 33)) = true := by kernel_rfl
theorem ok23 (X : K.In h) (G : h.Ns mainGlobals mg) (c : He.SaysD dfa dfn K) : DefOk K mg nm fs con at_ f23 (.glo "_law_fitting") := by
  obtain ⟨fd, F⟩ := c.def_ 23 (d := d23) rfl
  exact ⟨_, fd, P23, N23, _, _, _, _, _, _, _, ⟨He.glo_ok X G (c.fact 23 (f := .glo "_law_fitting") rfl), F.kp, F.bindsN (fun _ _ _ _ _ _ us hl => match us, hl with | [_, _, _], _ => rfl)⟩, F, sc23, rfl, rfl, by decide, ck23⟩
def N24 : List Str := ["_law_names", "_law_rows", "_law_name", "_law_row"]
def P24 : List Str := ["_law_names", "_law_rows"]
theorem sc24 : FnScope N24 P24 (defScope (top 34)) := ⟨by kernel_rfl, by kernel_rfl, by kernel_rfl, by decide +kernel, by rfl, by decide +kernel, by decide +kernel⟩
theorem ck24 : chkS ⟨N24, nm, fs, con, at_⟩ (defScope (top 34)) f24.body (defBody (top 34)) = true := by kernel_rfl
theorem ok24 (X : K.In h) (G : h.Ns mainGlobals mg) (c : He.SaysD dfa dfn K) : DefOk K mg nm fs con at_ f24 (.glo "_law_union") := by
  obtain ⟨fd, F⟩ := c.def_ 24 (d := d24) rfl
  exact ⟨_, fd, P24, N24, _, _, _, _, _, _, _, ⟨He.glo_ok X G (c.fact 24 (f := .glo "_law_union") rfl), F.kp, F.bindsN (fun _ _ _ _ _ _ us hl => match us, hl with | [_, _], _ => rfl)⟩, F, sc24, rfl, rfl, by decide, ck24⟩
def N25 : List Str := ["_law_names", "_law_rows", "_law_name", "_law_row"]
def P25 : List Str := ["_law_names", "_law_rows"]
theorem sc25 : FnScope N25 P25 (defScope (top 35)) := ⟨by kernel_rfl, by kernel_rfl, by kernel_rfl, by decide +kernel, by rfl, by decide +kernel, by decide +kernel⟩
theorem ck25 : chkS ⟨N25, nm, fs, con, at_⟩ (defScope (top 35)) f25.body (defBody (top 35)) = true := by kernel_rfl
theorem ok25 (X : K.In h) (G : h.Ns mainGlobals mg) (c : He.SaysD dfa dfn K) : DefOk K mg nm fs con at_ f25 (.glo "_law_common") := by
  obtain ⟨fd, F⟩ := c.def_ 25 (d := d25) rfl
  exact ⟨_, fd, P25, N25, _, _, _, _, _, _, _, ⟨He.glo_ok X G (c.fact 25 (f := .glo "_law_common") rfl), F.kp, F.bindsN (fun _ _ _ _ _ _ us hl => match us, hl with | [_, _], _ => rfl)⟩, F, sc25, rfl, rfl, by decide, ck25⟩
def N26 : List Str := ["_law_names", "_law_seen"]
def P26 : List Str := []
theorem sc26 : FnScope N26 P26 (defScope (top 36)) := ⟨by kernel_rfl, by kernel_rfl, by kernel_rfl, by decide +kernel, by rfl, by decide +kernel, by decide +kernel⟩
theorem ck26 : chkS ⟨N26, nm, fs, con, at_⟩ (defScope (top 36)) f26.body (defBody (top 36)) = true := by kernel_rfl
theorem ok26 (X : K.In h) (G : h.Ns mainGlobals mg) (c : He.SaysD dfa dfn K) : DefOk K mg nm fs con at_ f26 (.glo "_law_twelve") := by
  obtain ⟨fd, F⟩ := c.def_ 26 (d := d26) rfl
  exact ⟨_, fd, P26, N26, _, _, _, _, _, _, _, ⟨He.glo_ok X G (c.fact 26 (f := .glo "_law_twelve") rfl), F.kp, F.bindsN (fun _ _ _ _ _ _ us hl => match us, hl with | [], _ => rfl)⟩, F, sc26, rfl, rfl, by decide, ck26⟩
def N27 : List Str := ["_law_script", "_law_k", "_law_pool_here", "_law_names", "_law_seen", "_law_skill", "_law_is_none", "_law_wanted", "_law_rows", "_law_text", "_law_all_have", "_law_some_have"]
def P27 : List Str := ["_law_script"]
theorem sc27 : FnScope N27 P27 (defScope (top 37)) := ⟨by kernel_rfl, by kernel_rfl, by kernel_rfl, by decide +kernel, by rfl, by decide +kernel, by decide +kernel⟩
theorem ck27 : chkS ⟨N27, nm, fs, con, at_⟩ (defScope (top 37)) f27.body (defBody (top 37)) = true := by kernel_rfl
theorem ok27 (X : K.In h) (G : h.Ns mainGlobals mg) (c : He.SaysD dfa dfn K) : DefOk K mg nm fs con at_ f27 (.glo "law") := by
  obtain ⟨fd, F⟩ := c.def_ 27 (d := d27) rfl
  exact ⟨_, fd, P27, N27, _, _, _, _, _, _, _, ⟨He.glo_ok X G (c.fact 27 (f := .glo "law") rfl), F.kp, F.bindsN (fun _ _ _ _ _ _ us hl => match us, hl with | [_], _ => rfl)⟩, F, sc27, rfl, rfl, by decide, ck27⟩
theorem nb_ok (X : K.In h) (G : h.Ns mainGlobals mg) (c : He.SaysD dfa dfn K) : ∀ x ∈ blts, mg x = none := by
  intro x hx
  simp only [blts, List.mem_cons, List.not_mem_nil, or_false] at hx
  rcases hx with rfl | rfl | rfl | rfl | rfl | rfl | rfl | rfl | rfl | rfl | rfl | rfl | rfl | rfl | rfl | rfl
  · exact He.free_ok X G (c.fact 28 (f := .free "len") rfl)
  · exact He.free_ok X G (c.fact 29 (f := .free "int") rfl)
  · exact He.free_ok X G (c.fact 30 (f := .free "max") rfl)
  · exact He.free_ok X G (c.fact 31 (f := .free "min") rfl)
  · exact He.free_ok X G (c.fact 32 (f := .free "all") rfl)
  · exact He.free_ok X G (c.fact 33 (f := .free "any") rfl)
  · exact He.free_ok X G (c.fact 34 (f := .free "sum") rfl)
  · exact He.free_ok X G (c.fact 35 (f := .free "tuple") rfl)
  · exact He.free_ok X G (c.fact 36 (f := .free "list") rfl)
  · exact He.free_ok X G (c.fact 37 (f := .free "dict") rfl)
  · exact He.free_ok X G (c.fact 38 (f := .free "isinstance") rfl)
  · exact He.free_ok X G (c.fact 39 (f := .free "range") rfl)
  · exact He.free_ok X G (c.fact 40 (f := .free "str") rfl)
  · exact He.free_ok X G (c.fact 41 (f := .free "bool") rfl)
  · exact He.free_ok X G (c.fact 42 (f := .free "sorted") rfl)
  · exact He.free_ok X G (c.fact 43 (f := .free "repr") rfl)
theorem con_ok (X : K.In h) (G : h.Ns mainGlobals mg) (c : He.SaysD dfa dfn K) : ∀ p ∈ con, ∃ u, mg p.1 = some u ∧ RelV p.2.v u := by
  intro p hp
  simp only [con, List.mem_cons, List.not_mem_nil, or_false] at hp
  rcases hp with rfl | rfl | rfl
  · obtain ⟨t, e⟩ := He.str_ok X G (c.fact 44 rfl); exact ⟨_, e, t, rfl⟩
  · obtain ⟨t, e⟩ := He.int_ok X G (c.fact 45 rfl); exact ⟨_, e, t, rfl⟩
  · obtain ⟨t, e⟩ := He.int_ok X G (c.fact 46 rfl); exact ⟨_, e, t, rfl⟩
theorem defs_ok (X : K.In h) (G : h.Ns mainGlobals mg) (c : He.SaysD dfa dfn K) : DefsOk K mg nm fs con at_ fs nm := (.cons (ok0 X G c) (.cons (ok1 X G c) (.cons (ok2 X G c) (.cons (ok3 X G c) (.cons (ok4 X G c) (.cons (ok5 X G c) (.cons (ok6 X G c) (.cons (ok7 X G c) (.cons (ok8 X G c) (.cons (ok9 X G c) (.cons (ok10 X G c) (.cons (ok11 X G c) (.cons (ok12 X G c) (.cons (ok13 X G c) (.cons (ok14 X G c) (.cons (ok15 X G c) (.cons (ok16 X G c) (.cons (ok17 X G c) (.cons (ok18 X G c) (.cons (ok19 X G c) (.cons (ok20 X G c) (.cons (ok21 X G c) (.cons (ok22 X G c) (.cons (ok23 X G c) (.cons (ok24 X G c) (.cons (ok25 X G c) (.cons (ok26 X G c) (.cons (ok27 X G c) .nil))))))))))))))))))))))))))))
end
theorem facts {P : Program} {w : World} {K : PySem.W.Frag} {h : Heap} {mg : Str → Option Value} {f : Addr} (ans : ∀ ns : List Int, ns.length ≤ 63 → calF (tabOf fs) (30 + 1) 27 [.scr ns] = .ok (.bl true, [])) (X : K.In h) (G : h.Ns mainGlobals mg) (hfa : mg ("law" : Str) = some (.ref f)) (c : He.SaysD dfa dfn K) :
    ∃ (fd : FuncData) (sp : Sp), (∀ (s : Shared) (v : Value), BindsTo s fd ⟨[v], []⟩ [("_law_script", v)]) ∧ (∀ (H : Hp) (a : Addr) (ns : List Int), ns.length ≤ 63 → Only H → SqL K H a (ns.map V.int) → sp [.ref a] H (fun v _ => v = .bl true) fun _ _ _ => False) ∧ ∀ base : Heap, FnG P w K mg base (2 * 30 + 1 + 1) f fd ["_law_script"] sp := by
  obtain ⟨fd, F⟩ := c.def_ 27 (d := d27) rfl
  have e := hfa.symm.trans (He.glo_ok X G (c.fact 27 (f := .glo "law") rfl))
  cases e
  have b := FunD.bindsA (ps := ["_law_script"]) F fun _ _ _ _ _ _ us hl => match us, hl with | [_], _ => rfl
  obtain ⟨sp, h1, h2⟩ := law_all (P := P) (w := w) (nb_ok X G c) (con_ok X G c) (fun _ _ h => absurd h (by simp [at_])) (defs_ok X G c) (n := 30) (L := 27) (fn := f27) (by rfl) rfl rfl F sc27 rfl (by decide) ck27 ans
  exact ⟨fd, sp, fun s v => b s [v] rfl, h1, h2⟩
end K70
set_option maxRecDepth 100000
set_option maxHeartbeats 8000000
open PySem PySem.W PySem.Calls PyProof.Rows
theorem PySem.Challenge.cw_refundtrees_k70_whole_wants_told_back_holds : PySem.Challenge.rw_refundtrees_k70_whole_wants_told_back.Holds := by
  w_on; o_law
  refine HandSHeadRun.head_any (r := OpenLaw.row PySem.Challenge.rw_refundtrees_k70_whole_wants_told_back) (q := view (OpenLaw.row PySem.Challenge.rw_refundtrees_k70_whole_wants_told_back).prog [37]) (H := K70.hk) (ob := K70.ob) (M := 3000) (loose := K70.loose) (d := HandSHeadRun.topDef (OpenLaw.row PySem.Challenge.rw_refundtrees_k70_whole_wants_told_back).prog 37) (kwd := []) K70.ob_eq
    (by kernel_rfl) (fun s => by kernel_rfl) K70.run (by kernel_rfl) (by kernel_rfl) (by kernel_rfl) (by rfl) (by first | assumption | decide +kernel) (by decide +kernel) ⟨rfl, rfl, rfl, rfl, rfl, by decide +kernel⟩ ?hw ?hc
  case hw => w_witness2
  case hc =>
    refine Dm.walk_G (l := PySem.Challenge.rw_refundtrees_k70_whole_wants_told_back) (n := 63) (k := 2 * 30 + 1 + 1) (x := "_law_script") rfl (by decide) (by kernel_rfl) ⟨rfl, by decide, by decide⟩ ?F
    intro w mg fa h Y G hmg0
    obtain ⟨K, KX, c⟩ := Y
    have hmg : mg ("law" : PySem.Str) = some (.ref fa) := by
      have e : (HandSHeadRun.topDef (OpenLaw.row PySem.Challenge.rw_refundtrees_k70_whole_wants_told_back).prog 37).name = ("law" : PySem.Str) := by kernel_rfl
      rw [← e]
      exact hmg0
    obtain ⟨fd, sp, hb, h1, h2⟩ := K70.facts (P := (PySem.Challenge.rw_refundtrees_k70_whole_wants_told_back).prog) (w := w) K70.ans KX G hmg c
    exact ⟨K, fd, sp, KX, hb, h1, h2⟩
