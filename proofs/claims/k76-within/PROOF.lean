import PyProof.Rows.All
import Wide.All
import OpenK.AllK
import Wide.FinOn
import PyProof.P3Statements
import HandS.ForMost
import HandS.Flow
import HandS.IsInst
import HandS.Conv
import HandS.Zip
import HandS.DictComp
import HandS.TupAny
import HandS.Style
import HandS.Defaults
import PyProof.Rows.SortShellAny
import HandS.SortInts
import KE.GoesMore
import KE.GoesEnum
import KE.KTurns
import HandS.More
import HandS.NoneIn
import KE.KStateDown
import HandS.Words
import HandS.Head0
import HandS.Head1
import HandS.Head2
import HandS.HeadEnd
import HandS.HeadHook1
import HandS.HeadHook2
import PySem.Challenge.RW_fringes_k76_whole_within
set_option Elab.async false
set_option linter.all false
set_option maxRecDepth 100000
/-! MiSem: a small language over plain data, with its interpreter. -/
namespace Mi
open PySem (Str PyData)

/-- values: tuples are trees, lists and dicts stand in the store, fl is a list that nobody changes -/
inductive D where
  | non | bl (b : Bool) | int (i : Int) | str (x : Str) | tup (xs : List D) | fl (xs : List D) | obj (n : Nat)
abbrev Key := Sum Int Str
inductive MO where
  | lst (xs : List D) | dic (kvs : List (Key × D))
abbrev MH := List MO
abbrev Env := List (Option D)
@[irreducible] def LINE : Nat := 16777216
theorem LINE_eq : LINE = 16777216 := by unfold LINE; rfl

def M (α : Type) : Type := MH → Option (α × MH)
def M.ret {α : Type} (a : α) : M α := fun h => some (a, h)
def M.bnd {α β : Type} (m : M α) (f : α → M β) : M β := fun h => match m h with
  | none => none
  | some (a, h') => f a h'
def M.no {α : Type} : M α := fun _ => none
def M.opt {α : Type} : Option α → M α
  | none => M.no
  | some a => M.ret a
/-- read off the store -/
def M.rd {α : Type} (f : MH → Option α) : M α := fun h => match f h with
  | none => none
  | some a => some (a, h)
def M.new (o : MO) : M D := fun h => some (.obj h.length, h ++ [o])
def M.put (n : Nat) (o : MO) : M Unit := fun h => some ((), h.set n o)
def M.grd (b : Bool) : M Unit := if b then M.ret () else M.no
instance : Monad M where
  pure := M.ret
  bind := M.bnd

/-! ### values -/
def ixN (n : Nat) (i : Int) : Option Nat := if 0 ≤ i then (if i < n then some i.toNat else none) else if -(n : Int) ≤ i then some (i + n).toNat else none
def atI {α : Type} (xs : List α) (i : Int) : Option α := (ixN xs.length i).bind fun j => xs[j]?
def sIx (n d : Nat) : Option Int → Nat
  | none => d
  | some v => if v < 0 then (v + (n : Int)).toNat else min v.toNat n
def cut {α : Type} (xs : List α) (lo hi : Option Int) : List α := (xs.drop (sIx xs.length 0 lo)).take (sIx xs.length xs.length hi - sIx xs.length 0 lo)

def lstAt (h : MH) (n : Nat) : Option (List D) := match h[n]? with
  | some (.lst xs) => some xs
  | _ => none
def dicAt (h : MH) (n : Nat) : Option (List (Key × D)) := match h[n]? with
  | some (.dic kvs) => some kvs
  | _ => none
/-- a list or a tuple that may be read -/
def seqOf (h : MH) : D → Option (List D)
  | .tup xs => some xs
  | .fl xs => some xs
  | .obj n => lstAt h n
  | _ => none
def isTup : D → Bool
  | .tup _ => true
  | _ => false
def keyOf : D → Option Key
  | .int i => some (.inl i)
  | .str x => some (.inr x)
  | _ => none
def kget (kvs : List (Key × D)) (k : Key) : Option D := (kvs.find? fun kv => decide (kv.1 = k)).map (·.2)
def kput (kvs : List (Key × D)) (k : Key) (v : D) : List (Key × D) :=
  if kvs.any fun kv => decide (kv.1 = k) then kvs.map fun kv => if kv.1 = k then (kv.1, v) else kv else kvs ++ [(k, v)]

/-- a list that may be changed -/
def isLst (h : MH) : D → Option Unit
  | .obj n => (lstAt h n).map fun _ => ()
  | _ => none

def lstOf (h : MH) : D → Option (List D)
  | .obj n => lstAt h n
  | _ => none
/-- truth -/
def truD (h : MH) : D → Option Bool
  | .non => some false
  | .bl b => some b
  | .int i => some (i != 0)
  | .str y => if y.length ≤ LINE then some ((y.length : Int) != 0) else none
  | .tup xs => some (!xs.isEmpty)
  | .fl xs => some (!xs.isEmpty)
  | .obj n => match h[n]? with
    | some (.lst xs) => some (!xs.isEmpty)
    | some (.dic kvs) => some (!kvs.isEmpty)
    | none => none

/-- data without the store; at most so deep -/
def pyOf (h : MH) : Nat → D → Option PyData
  | _, .non => some .none
  | _, .bl b => some (.bool b)
  | _, .int i => some (.int i)
  | _, .str x => if PyData.strOk x then some (.str x) else none
  | 0, _ => none
  | k + 1, .tup xs => (xs.mapM (pyOf h k)).map .tuple
  | k + 1, .fl xs => (xs.mapM (pyOf h k)).map .list
  | k + 1, .obj n => match h[n]? with
    | some (.lst xs) => (xs.mapM (pyOf h k)).map .list
    | _ => none
def eqD (h : MH) (x y : D) : Option Bool := match pyOf h 60 x, pyOf h 60 y with
  | some a, some b => some (PyData.eqv a b)
  | _, _ => none
/-- items that membership looks at -/
def flatD : D → Bool
  | .non => true
  | .bl _ => true
  | .int _ => true
  | .str _ => true
  | _ => false
def eqF : D → D → Bool
  | .non, .non => true
  | .bl a, .bl b => a == b
  | .bl a, .int b => (if a then 1 else 0) == b
  | .int a, .bl b => a == (if b then 1 else 0)
  | .int a, .int b => a == b
  | .str a, .str b => a == b
  | _, _ => false
def inD (h : MH) (x y : D) : Option Bool := match y with
  | .obj n => match h[n]? with
    | some (.lst xs) => if flatD x && xs.all flatD then some (xs.any fun z => eqF z x) else none
    | some (.dic kvs) => (keyOf x).map fun k => (kget kvs k).isSome
    | none => none
  | .tup xs => if flatD x && xs.all flatD then some (xs.any fun z => eqF z x) else none
  | _ => none

def nonD : D → Bool
  | .non => true
  | _ => false

inductive BOp where | add | sub | mul | fdiv | mod | pow
  deriving DecidableEq
inductive COp where | eq | ne | lt | le | gt | ge | isN | notN | in_ | notIn
  deriving DecidableEq
inductive Ty where | int | bool | str | tuple | list | dict
  deriving DecidableEq
inductive Blt where | len | abs | int | str | list | tuple | sum | sorted | min2 | max2 | min1 | max1
  deriving DecidableEq

def small64 (i : Int) : Bool := decide (-(2 ^ 64) < i) && decide (i < 2 ^ 64)

def binD (op : BOp) (x y : D) : M D := match op, x, y with
  | .add, .int i, .int j => M.ret (.int (i + j))
  | .sub, .int i, .int j => M.ret (.int (i - j))
  | .mul, .int i, .int j => if small64 i || small64 j then M.ret (.int (i * j)) else M.no
  | .fdiv, .int i, .int j => if decide (0 < j) && decide (j < 1073741824) then M.ret (.int (i / j)) else M.no
  | .mod, .int i, .int j => if 0 < j then M.ret (.int (i % j)) else M.no
  | .pow, .int i, .int j => if decide (0 ≤ j) && decide (j ≤ 1000000) && decide (i.natAbs < 2 ^ 64) then M.ret (.int (i ^ j.toNat)) else M.no
  | .add, .str a, .str b => if a.length + b.length ≤ LINE then M.ret (.str (a ++ b)) else M.no
  | .add, .tup xs, .tup ys => if xs.length + ys.length ≤ LINE then M.ret (.tup (xs ++ ys)) else M.no
  | .add, .obj n, .obj m => M.bnd (M.rd fun h => lstAt h n) fun xs => M.bnd (M.rd fun h => lstAt h m) fun ys =>
      if xs.length + ys.length ≤ LINE then M.new (.lst (xs ++ ys)) else M.no
  | .mul, .obj n, .int k => M.bnd (M.rd fun h => lstAt h n) fun xs =>
      if decide (-(2 ^ 63) ≤ k) && decide (k < 2 ^ 63) && decide (xs.length * k.toNat ≤ LINE) then M.new (.lst (List.replicate k.toNat xs).flatten) else M.no
  | _, _, _ => M.no

def cmpD (op : COp) (x y : D) (h : MH) : Option Bool := match op with
  | .eq => eqD h x y
  | .ne => (eqD h x y).map (!·)
  | .lt => match x, y with
    | .int i, .int j => some (decide (i < j))
    | .str i, .str j => some (decide (i.cps.toList < j.cps.toList))
    | _, _ => none
  | .le => match x, y with
    | .int i, .int j => some (decide (i ≤ j))
    | _, _ => none
  | .gt => match x, y with
    | .int i, .int j => some (decide (j < i))
    | .str i, .str j => some (decide (j.cps.toList < i.cps.toList))
    | _, _ => none
  | .ge => match x, y with
    | .int i, .int j => some (decide (j ≤ i))
    | _, _ => none
  | .isN => match y with
    | .non => some (nonD x)
    | _ => none
  | .notN => match y with
    | .non => some (!nonD x)
    | _ => none
  | .in_ => inD h x y
  | .notIn => (inD h x y).map (!·)

def idxD (x y : D) (h : MH) : Option D := match x, y with
  | .tup xs, .int i => atI xs i
  | .fl xs, .int i => atI xs i
  | .str z, .int i => if z.length ≤ LINE then (atI z.cps.toList i).map fun c => .str ⟨#[c]⟩ else none
  | .obj n, k => match h[n]? with
    | some (.lst xs) => match k with
      | .int i => atI xs i
      | _ => none
    | some (.dic kvs) => (keyOf k).bind (kget kvs)
    | none => none
  | _, _ => none

def slcD (x : D) (lo hi : Option Int) : M D := match x with
  | .tup xs => M.ret (.tup (cut xs lo hi))
  | .fl xs => M.new (.lst (cut xs lo hi))
  | .obj n => M.bnd (M.rd fun h => lstAt h n) fun xs => M.new (.lst (cut xs lo hi))
  | _ => M.no
def revD (x : D) : M D := match x with
  | .tup xs => M.ret (.tup xs.reverse)
  | .obj n => M.bnd (M.rd fun h => lstAt h n) fun xs => M.new (.lst xs.reverse)
  | _ => M.no

def isinD (t : Ty) (x : D) (h : MH) : Option Bool := match x with
  | .non => some false
  | .bl _ => some (t == .bool || t == .int)
  | .int _ => some (t == .int)
  | .str _ => some (t == .str)
  | .tup _ => some (t == .tuple)
  | .fl _ => none
  | .obj n => match h[n]? with
    | some (.lst _) => some (t == .list)
    | some (.dic _) => some (t == .dict)
    | none => none

/-- o[i] = v -/
def putD (o i v : D) : M Unit := fun h => match o with
  | .obj n => match h[n]? with
    | some (.lst xs) => match i with
      | .int k => match ixN xs.length k with
        | some j => some ((), h.set n (.lst (xs.set j v)))
        | none => none
      | _ => none
    | some (.dic kvs) => match keyOf i with
      | some k => if kvs.length < LINE then some ((), h.set n (.dic (kput kvs k v))) else none
      | none => none
    | none => none
  | _ => none
def appD (o v : D) : M Unit := fun h => match o with
  | .obj n => match h[n]? with
    | some (.lst xs) => if xs.length < LINE then some ((), h.set n (.lst (xs ++ [v]))) else none
    | _ => none
  | _ => none

def intsOf : List D → Option (List Int)
  | [] => some []
  | .int i :: r => (intsOf r).map (i :: ·)
  | _ => none
def strsOf : List D → Option (List Str)
  | [] => some []
  | .str i :: r => (strsOf r).map (i :: ·)
  | _ => none
def leastI : List Int → Option Int
  | [] => none
  | i :: r => some (r.foldl min i)
def mostI : List Int → Option Int
  | [] => none
  | i :: r => some (r.foldl max i)
/-- texts in order of their signs -/
def strLe (a b : Str) : Bool := !decide (b.cps.toList < a.cps.toList)
def sortD (xs : List D) : Option (List D) := match intsOf xs with
  | some is => some ((is.mergeSort fun a b => decide (a ≤ b)).map .int)
  | none => match strsOf xs with
    | some ss => some ((ss.mergeSort strLe).map .str)
    | none => none
def lenD (h : MH) : D → Option Int
  | .str y => if y.length ≤ LINE then some y.length else none
  | .obj n => match h[n]? with
    | some (.lst xs) => some xs.length
    | some (.dic kvs) => some kvs.length
    | none => none
  | d => (seqOf h d).map fun xs => (xs.length : Int)

def bltD (b : Blt) (args : List D) : M D := match b, args with
  | .len, [x] => M.bnd (M.rd fun h => lenD h x) fun n => M.ret (.int n)
  | .abs, [.int i] => M.ret (.int (if i < 0 then -i else i))
  | .int, [.int i] => M.ret (.int i)
  | .int, [.bl b] => M.ret (.int (if b then 1 else 0))
  | .str, [.int i] => if i.natAbs.log2 < 1920 then M.ret (.str (Str.ofString (toString i))) else M.no
  | .list, [x] => M.bnd (M.rd fun h => seqOf h x) fun xs => M.new (.lst xs)
  | .tuple, [.tup xs] => M.ret (.tup xs)
  | .tuple, [.obj n] => M.bnd (M.rd fun h => lstAt h n) fun xs => M.ret (.tup xs)
  | .sum, [.obj n] => M.bnd (M.rd fun h => (lstAt h n).bind intsOf) fun is => M.ret (.int is.sum)
  | .sorted, [.obj n] => M.bnd (M.rd fun h => (lstAt h n).bind sortD) fun xs => M.new (.lst xs)
  | .min2, [.int i, .int j] => M.ret (.int (if j < i then j else i))
  | .max2, [.int i, .int j] => M.ret (.int (if j > i then j else i))
  | .min1, [.obj n] => M.bnd (M.rd fun h => ((lstAt h n).bind intsOf).bind leastI) fun i => M.ret (.int i)
  | .max1, [.obj n] => M.bnd (M.rd fun h => ((lstAt h n).bind intsOf).bind mostI) fun i => M.ret (.int i)
  | _, _ => M.no

/-! ### methods of lists -/
inductive Mt where | index | pop | popAt | insert | extend
  deriving DecidableEq
/-- the first place at which it stands -/
def placeD (y : D) : List D → Option Nat
  | [] => none
  | z :: r => if eqF z y then some 0 else (placeD y r).map (· + 1)
def metD (m : Mt) (o : D) (args : List D) : M D := match m, o, args with
  | .index, .obj n, [y] => M.bnd (M.rd fun h => (lstAt h n).bind fun xs => if flatD y && xs.all flatD then placeD y xs else none) fun j => M.ret (.int (j : Nat))
  | .pop, .obj n, [] => M.bnd (M.rd fun h => lstAt h n) fun xs => M.bnd (M.opt xs[xs.length - 1]?) fun y => M.bnd (M.put n (.lst xs.dropLast)) fun _ => M.ret y
  | .popAt, .obj n, [.int i] => M.bnd (M.rd fun h => lstAt h n) fun xs => if decide (0 ≤ i) && decide (i < 2 ^ 62) && decide (i < xs.length) then
      M.bnd (M.opt xs[i.toNat]?) fun y => M.bnd (M.put n (.lst (xs.eraseIdx i.toNat))) fun _ => M.ret y else M.no
  | .insert, .obj n, [.int i, y] => M.bnd (M.rd fun h => lstAt h n) fun xs => if decide (0 ≤ i) && decide (i < 2 ^ 62) && decide (xs.length < LINE) then
      M.bnd (M.put n (.lst (xs.take i.toNat ++ [y] ++ xs.drop i.toNat))) fun _ => M.ret .non else M.no
  | .extend, .obj n, [.obj m] => M.bnd (M.rd fun h => lstAt h n) fun xs => M.bnd (M.rd fun h => lstAt h m) fun ys => if xs.length + ys.length ≤ LINE then
      M.bnd (M.put n (.lst (xs ++ ys))) fun _ => M.ret .non else M.no
  | _, _, _ => M.no

/-! ### the language -/
inductive CG where
  | nm (i : Nat) | tp (gs : List CG)
mutual
inductive CE where
  | var (i : Nat)
  | cst (d : D)
  | tup (es : List CE)
  | lst (es : List CE)
  | bin (op : BOp) (a b : CE)
  | neg (a : CE)
  | cmp (op : COp) (a b : CE)
  | chn (op op' : COp) (a b c : CE)
  | and (a b : CE)
  | or (a b : CE)
  | not (a : CE)
  | ite (c : CT) (a b : CE)
  | idx (a i : CE)
  | slc (a : CE) (lo hi : Option CE)
  | rev (a : CE)
  | call (f : Nat) (es : List CE)
  | callK (f : Nat) (at_ : List Nat) (es : List CE)
  | blt (b : Blt) (es : List CE)
  | lrng (it : CI)
  | isin (t : Ty) (a : CE)
  | app (o e : CE)
  | met (m : Mt) (o : CE) (es : List CE)
  | lc (own : List Nat) (g : CG) (it : CI) (t : Option CT) (e : CE)
  | dc (own : List Nat) (g : CG) (it : CI) (k v : CE)
  | dsp (kvs : List (CE × CE))
inductive CT where
  | tru (e : CE)
  | cmp (op : COp) (a b : CE)
  | chn (op op' : COp) (a b c : CE)
  | and (a b : CT)
  | or (a b : CT)
  | not (a : CT)
inductive CI where
  | val (e : CE)
  | rng1 (b : CE)
  | rng2 (a b : CE)
  | rngD (a b : CE)
  | zip (a b : CE)
  | enm (a : CE)
end
inductive CS where
  | set (i : Nat) (e : CE)
  | asg (g : CG) (e : CE)
  | asgL (gs : List CG) (e : CE)
  | par (i j : Nat) (a b : CE)
  | put (o i e : CE)
  | exp (e : CE)
  | ret (e : CE)
  | retN
  | ifs (c : CT) (a b : List CS)
  | for (g : CG) (it : CI) (b : List CS)
  | whl (c : CT) (b : List CS)
  | pass | brk | cnt
  | rse

inductive Out where
  | nx | ret (d : D) | bk | ct

/-! ### the interpreter -/
abbrev Ga := Nat → List D → M D

mutual
def bindG : CG → D → Env → Option Env
  | .nm i, d, env => if i < env.length then some (env.set i (some d)) else none
  | .tp gs, d, env => match d with
    | .tup xs => bindGs gs xs env
    | _ => none
def bindGs : List CG → List D → Env → Option Env
  | [], [], env => some env
  | g :: gs, d :: ds, env => match bindG g d env with
    | some env' => bindGs gs ds env'
    | none => none
  | _, _, _ => none
end

mutual
def D.beq : D → D → Bool
  | .non, .non => true
  | .bl a, .bl b => a == b
  | .int a, .int b => a == b
  | .str a, .str b => decide (a = b)
  | .tup xs, .tup ys => D.beqs xs ys
  | .fl xs, .fl ys => D.beqs xs ys
  | .obj n, .obj m => n == m
  | _, _ => false
def D.beqs : List D → List D → Bool
  | [], [] => true
  | x :: xs, y :: ys => D.beq x y && D.beqs xs ys
  | _, _ => false
end
abbrev Kp := List (Nat × List D)
/-- the lists that a loop walks stand as they stood -/
def keepOk (ks : Kp) (h : MH) : Bool := ks.all fun p => match lstAt h p.1 with
  | some xs => D.beqs xs p.2
  | none => false
def keepM (ks : Kp) : M Unit := fun h => if keepOk ks h then some ((), h) else none

def forL (bnd : D → Env → Option Env) (body : Env → M (Out × Env)) (ks : Kp) : List D → Env → M (Out × Env)
  | [], env => M.bnd (keepM ks) fun _ => M.ret (.nx, env)
  | d :: ds, env => M.bnd (keepM ks) fun _ => match bnd d env with
    | none => M.no
    | some env1 => M.bnd (body env1) fun r => match r.1 with
      | .nx => forL bnd body ks ds r.2
      | .ct => forL bnd body ks ds r.2
      | .bk => M.ret (.nx, r.2)
      | .ret d => M.ret (.ret d, r.2)
def whlL (c : Env → M Bool) (body : Env → M (Out × Env)) : Nat → Env → M (Out × Env)
  | 0, _ => M.no
  | k + 1, env => M.bnd (c env) fun b => if b then M.bnd (body env) fun r => match r.1 with
      | .nx => whlL c body k r.2
      | .ct => whlL c body k r.2
      | .bk => M.ret (.nx, r.2)
      | .ret d => M.ret (.ret d, r.2)
    else M.ret (.nx, env)
/-- one item more at the new list (dict) at n -/
def pushAt (n : Nat) (d : D) : M Unit := appD (.obj n) d
def lcL (bnd : D → Env → Option Env) (tst : Env → M Bool) (elt : Env → M D) (ks : Kp) (n : Nat) (env : Env) : List D → M Unit
  | [] => keepM ks
  | d :: ds => M.bnd (keepM ks) fun _ => match bnd d env with
    | none => M.no
    | some env1 => M.bnd (tst env1) fun b => if b then M.bnd (elt env1) fun y => M.bnd (pushAt n y) fun _ => lcL bnd tst elt ks n env ds
      else lcL bnd tst elt ks n env ds
def putKat (n : Nat) (k v : D) : M Unit := fun h => match h[n]? with
  | some (.dic kvs) => match keyOf k with
    | some kk => if kvs.length < LINE then some ((), h.set n (.dic (kput kvs kk v))) else none
    | none => none
  | _ => none
def dcL (bnd : D → Env → Option Env) (key val : Env → M D) (ks : Kp) (n : Nat) (env : Env) : List D → M Unit
  | [] => keepM ks
  | d :: ds => M.bnd (keepM ks) fun _ => match bnd d env with
    | none => M.no
    | some env1 => M.bnd (key env1) fun k => M.bnd (val env1) fun v => M.bnd (putKat n k v) fun _ => dcL bnd key val ks n env ds
def wipeE (env : Env) : List Nat → Env
  | [] => env
  | v :: vs => (wipeE env vs).set v none
/-- what a for walks, of a value -/
def itemsD (d : D) : M (List D × Kp) := match d with
  | .tup xs => M.ret (xs, [])
  | .fl xs => M.ret (xs, [])
  | .obj n => M.bnd (M.rd fun h => lstAt h n) fun xs => M.ret (xs, [(n, xs)])
  | _ => M.no
def rngL (lo : Int) (n : Nat) : List D := (List.range n).map fun i => .int (lo + (i : Nat))
def rngDn (lo : Int) (n : Nat) : List D := (List.range n).map fun i => .int (lo - (i : Nat))
def within62 (i : Int) : Bool := decide (-(2 ^ 62) ≤ i) && decide (i < 2 ^ 62)
def enumD (xs : List D) : List D := xs.zipIdx.map fun p => .tup [.int (p.2 : Nat), p.1]
def zipD (xs ys : List D) : List D := (xs.zip ys).map fun p => .tup [p.1, p.2]
def dspL (n : Nat) (ps : List (D × D)) : M D := fun h => match h[n]? with
  | some (.dic []) => match ps.mapM fun p => (keyOf p.1).map fun k => (k, p.2) with
    | some kvs => if kvs.length ≤ 15 then some (.obj n, h.set n (.dic (kvs.foldl (fun a kv => kput a kv.1 kv.2) []))) else none
    | none => none
  | _ => none
/-- the values at the places told -/
def placed (at_ : List Nat) (vs : List D) : List D := at_.filterMap fun i => vs[i]?

mutual
def evE (G : Ga) : CE → Env → M D
  | .var i, env => match env[i]? with
    | some (some d) => M.ret d
    | _ => M.no
  | .cst d, _ => M.ret d
  | .tup es, env => M.bnd (evEs G es env) fun vs => if vs.length ≤ LINE then M.ret (.tup vs) else M.no
  | .lst es, env => M.bnd (evEs G es env) fun vs => if vs.length ≤ LINE then M.new (.lst vs) else M.no
  | .bin op a b, env => M.bnd (evE G a env) fun x => M.bnd (evE G b env) fun y => binD op x y
  | .neg a, env => M.bnd (evE G a env) fun x => match x with
    | .int i => M.ret (.int (-i))
    | _ => M.no
  | .cmp op a b, env => M.bnd (evE G a env) fun x => M.bnd (evE G b env) fun y => M.bnd (M.rd (cmpD op x y)) fun r => M.ret (.bl r)
  | .chn op op' a b c, env => M.bnd (evE G a env) fun x => M.bnd (evE G b env) fun y => M.bnd (M.rd (cmpD op x y)) fun r =>
      if r then M.bnd (evE G c env) fun z => M.bnd (M.rd (cmpD op' y z)) fun r => M.ret (.bl r) else M.ret (.bl false)
  | .and a b, env => M.bnd (evE G a env) fun x => M.bnd (M.rd fun h => truD h x) fun k => if k then evE G b env else M.ret x
  | .or a b, env => M.bnd (evE G a env) fun x => M.bnd (M.rd fun h => truD h x) fun k => if k then M.ret x else evE G b env
  | .not a, env => M.bnd (evE G a env) fun x => M.bnd (M.rd fun h => truD h x) fun k => M.ret (.bl (!k))
  | .ite c a b, env => M.bnd (evT G c env) fun k => if k then evE G a env else evE G b env
  | .idx a i, env => M.bnd (evE G a env) fun x => M.bnd (evE G i env) fun y => M.rd (idxD x y)
  | .slc a lo hi, env => M.bnd (evE G a env) fun x => M.bnd (evO G lo env) fun l => M.bnd (evO G hi env) fun u => slcD x l u
  | .rev a, env => M.bnd (evE G a env) revD
  | .call f es, env => M.bnd (evEs G es env) fun vs => G f vs
  | .callK f at_ es, env => M.bnd (evEs G es env) fun vs => G f (placed at_ vs)
  | .blt b es, env => M.bnd (evEs G es env) fun vs => bltD b vs
  | .lrng it, env => M.bnd (evI G it env) fun r => if r.1.length ≤ LINE then M.new (.lst r.1) else M.no
  | .isin t a, env => M.bnd (evE G a env) fun x => M.bnd (M.rd (isinD t x)) fun k => M.ret (.bl k)
  | .app o e, env => M.bnd (evE G o env) fun x => M.bnd (M.rd fun h => isLst h x) fun _ => M.bnd (evE G e env) fun y => M.bnd (appD x y) fun _ => M.ret .non
  | .met m o es, env => M.bnd (evE G o env) fun x => M.bnd (M.rd fun h => isLst h x) fun _ => M.bnd (evEs G es env) fun ys => metD m x ys
  | .lc own g it t e, env => M.bnd (evI G it env) fun r => fun h =>
      (M.bnd (M.new (.lst [])) fun l => M.bnd (lcL (bindG g) (evOT G t) (evE G e) r.2 h.length (wipeE env own) r.1) fun _ => M.ret l) h
  | .dc own g it k v, env => M.bnd (evI G it env) fun r => fun h =>
      (M.bnd (M.new (.dic [])) fun l => M.bnd (dcL (bindG g) (evE G k) (evE G v) r.2 h.length (wipeE env own) r.1) fun _ => M.ret l) h
  | .dsp kvs, env => fun h => (M.bnd (M.new (.dic [])) fun _ => M.bnd (evPs G kvs env) fun ps => dspL h.length ps) h
def evEs (G : Ga) : List CE → Env → M (List D)
  | [], _ => M.ret []
  | e :: es, env => M.bnd (evE G e env) fun x => M.bnd (evEs G es env) fun xs => M.ret (x :: xs)
def evPs (G : Ga) : List (CE × CE) → Env → M (List (D × D))
  | [], _ => M.ret []
  | (k, v) :: ps, env => M.bnd (evE G k env) fun x => M.bnd (evE G v env) fun y => M.bnd (evPs G ps env) fun xs => M.ret ((x, y) :: xs)
def evO (G : Ga) : Option CE → Env → M (Option Int)
  | none, _ => M.ret none
  | some e, env => M.bnd (evE G e env) fun x => match x with
    | .int i => M.ret (some i)
    | _ => M.no
def evT (G : Ga) : CT → Env → M Bool
  | .tru e, env => M.bnd (evE G e env) fun x => M.rd fun h => truD h x
  | .cmp op a b, env => M.bnd (evE G a env) fun x => M.bnd (evE G b env) fun y => M.rd (cmpD op x y)
  | .chn op op' a b c, env => M.bnd (evE G a env) fun x => M.bnd (evE G b env) fun y => M.bnd (M.rd (cmpD op x y)) fun r =>
      if r then M.bnd (evE G c env) fun z => M.rd (cmpD op' y z) else M.ret false
  | .and a b, env => M.bnd (evT G a env) fun k => if k then evT G b env else M.ret false
  | .or a b, env => M.bnd (evT G a env) fun k => if k then M.ret true else evT G b env
  | .not a, env => M.bnd (evT G a env) fun k => M.ret (!k)
def evOT (G : Ga) : Option CT → Env → M Bool
  | none, _ => M.ret true
  | some t, env => evT G t env
def evI (G : Ga) : CI → Env → M (List D × Kp)
  | .val e, env => M.bnd (evE G e env) itemsD
  | .rng1 b, env => M.bnd (evE G b env) fun y => match y with
    | .int j => if within62 j then M.ret (rngL 0 j.toNat, []) else M.no
    | _ => M.no
  | .rng2 a b, env => M.bnd (evE G a env) fun x => M.bnd (evE G b env) fun y => match x, y with
    | .int i, .int j => if within62 i && within62 j then M.ret (rngL i (j - i).toNat, []) else M.no
    | _, _ => M.no
  | .rngD a b, env => M.bnd (evE G a env) fun x => M.bnd (evE G b env) fun y => match x, y with
    | .int i, .int j => if within62 i && within62 j then M.ret (rngDn i (i - j).toNat, []) else M.no
    | _, _ => M.no
  | .zip a b, env => M.bnd (evE G a env) fun x => M.bnd (evE G b env) fun y => M.bnd (itemsD x) fun p => M.bnd (itemsD y) fun q => M.ret (zipD p.1 q.1, p.2 ++ q.2)
  | .enm a, env => M.bnd (evE G a env) fun x => M.bnd (itemsD x) fun p => M.ret (enumD p.1, p.2)
end

mutual
def evS (G : Ga) (w : Nat) : CS → Env → M (Out × Env)
  | .set i e, env => M.bnd (evE G e env) fun x => if i < env.length then M.ret (.nx, env.set i (some x)) else M.no
  | .asg g e, env => M.bnd (evE G e env) fun x => match bindG g x env with
    | some env' => M.ret (.nx, env')
    | none => M.no
  | .asgL gs e, env => M.bnd (evE G e env) fun x => M.bnd (M.rd fun h => lstOf h x) fun xs => match bindGs gs xs env with
    | some env' => M.ret (.nx, env')
    | none => M.no
  | .par i j a b, env => M.bnd (evE G a env) fun x => M.bnd (evE G b env) fun y =>
      if i < env.length ∧ j < env.length then M.ret (.nx, (env.set i (some x)).set j (some y)) else M.no
  | .put o i e, env => M.bnd (evE G e env) fun v => M.bnd (evE G o env) fun x => M.bnd (evE G i env) fun y => M.bnd (putD x y v) fun _ => M.ret (.nx, env)
  | .exp e, env => M.bnd (evE G e env) fun _ => M.ret (.nx, env)
  | .ret e, env => M.bnd (evE G e env) fun x => M.ret (.ret x, env)
  | .retN, env => M.ret (.ret .non, env)
  | .ifs c a b, env => M.bnd (evT G c env) fun k => if k then evSs G w a env else evSs G w b env
  | .for g it b, env => M.bnd (evI G it env) fun r => forL (bindG g) (evSs G w b) r.2 r.1 env
  | .whl c b, env => whlL (evT G c) (evSs G w b) w env
  | .pass, env => M.ret (.nx, env)
  | .brk, env => M.ret (.bk, env)
  | .cnt, env => M.ret (.ct, env)
  | .rse, _ => M.no
def evSs (G : Ga) (w : Nat) : List CS → Env → M (Out × Env)
  | [], env => M.ret (.nx, env)
  | s :: ss, env => M.bnd (evS G w s env) fun r => match r.1 with
    | .nx => evSs G w ss r.2
    | o => M.ret (o, r.2)
end

structure CDef where
  ps : Nat
  ns : Nat
  body : List CS
def runD (G : Ga) (w : Nat) (d : CDef) (args : List D) : M D :=
  if args.length = d.ps then M.bnd (evSs G w d.body (args.map some ++ List.replicate (d.ns - args.length) none)) fun r => match r.1 with
    | .nx => M.ret .non
    | .ret x => M.ret x
    | _ => M.no
  else M.no
/-- the defs of a program, to so many calls one in another -/
def Gn (ds : List CDef) (w : Nat) : Nat → Ga
  | 0, _, _ => M.no
  | k + 1, f, args => match ds[f]? with
    | some d => runD (Gn ds w k) w d args
    | none => M.no
end Mi

set_option maxHeartbeats 4000000
/-! MiRel: how the small language's data lie in the layer's heap. -/
namespace Mi
open PySem PySem.Spec PyProof.Rows L2

theorem bnd_some {α β : Type} {m : M α} {f : α → M β} {h : MH} {r : β × MH} : M.bnd m f h = some r ↔ ∃ a h1, m h = some (a, h1) ∧ f a h1 = some r := by
  unfold M.bnd
  constructor
  · intro e
    split at e
    · cases e
    · rename_i a h1 q
      exact ⟨a, h1, q, e⟩
  · rintro ⟨a, h1, q, e⟩
    rw [q]
    exact e
theorem ret_some {α : Type} {a b : α} {h h' : MH} : M.ret a h = some (b, h') ↔ a = b ∧ h = h' := by
  unfold M.ret
  simp
theorem no_some {α : Type} {h : MH} {r : α × MH} : ¬ (M.no : M α) h = some r := fun e => nomatch e
theorem rd_some {α : Type} {f : MH → Option α} {h h' : MH} {a : α} : M.rd f h = some (a, h') ↔ f h = some a ∧ h = h' := by
  unfold M.rd
  constructor
  · intro e
    split at e
    · cases e
    · rename_i b q
      cases e
      exact ⟨q, rfl⟩
  · rintro ⟨q, rfl⟩
    rw [q]

def Frz (K : PySem.W.Frag) (H : Hp) (a : Addr) (xs : List V) : Prop :=
  (∃ o, H a = some (.frz o (.lst xs))) ∨
    ∃ (o : Obj) (its : Array Value) (n : Nat), K.lookup a = some o ∧ o.cls = .type "list" ∧ o.dict = none ∧ o.data = .seq its n ∧ its.size ≤ sizeLine ∧ Vals xs its.toList
theorem Frz.seq {K : PySem.W.Frag} {H : Hp} {a : Addr} {xs : List V} (f : Frz K H a xs) : SqL K H a xs := by
  rcases f with ⟨o, e⟩ | f
  · exact .inl (.inr ⟨o, e⟩)
  · exact .inr f

mutual
def DR (K : PySem.W.Frag) (H : Hp) (ι : List Addr) : D → V → Prop
  | .non, v => v = .non
  | .bl b, v => v = .bl b
  | .int i, v => v = .int i
  | .str x, v => v = .str x
  | .tup ds, v => ∃ a vs, v = .ref a ∧ H a = some (.tup vs) ∧ DRs K H ι ds vs
  | .fl ds, v => ∃ a vs, v = .ref a ∧ Frz K H a vs ∧ DRs K H ι ds vs
  | .obj n, v => ∃ a, ι[n]? = some a ∧ v = .ref a
def DRs (K : PySem.W.Frag) (H : Hp) (ι : List Addr) : List D → List V → Prop
  | [], vs => vs = []
  | d :: ds, vs => ∃ w ws, vs = w :: ws ∧ DR K H ι d w ∧ DRs K H ι ds ws
end
def KRs (K : PySem.W.Frag) (H : Hp) (ι : List Addr) : List (Key × D) → List (L2.Key × V) → Prop
  | [], ks => ks = []
  | p :: r, ks => ∃ w ws, ks = (p.1, w) :: ws ∧ DR K H ι p.2 w ∧ KRs K H ι r ws

structure Gr (H : Hp) (ι : List Addr) (H' : Hp) (ι' : List Addr) : Prop where
  tup : ∀ a xs, H a = some (.tup xs) → H' a = some (.tup xs)
  frz : ∀ a o u, H a = some (.frz o u) → H' a = some (.frz o u)
  ext : ∃ t, ι' = ι ++ t
theorem Gr.refl {H : Hp} {ι : List Addr} : Gr H ι H ι := ⟨fun _ _ h => h, fun _ _ _ h => h, [], by simp⟩
theorem Gr.trans {H H1 H2 : Hp} {ι ι1 ι2 : List Addr} (a : Gr H ι H1 ι1) (b : Gr H1 ι1 H2 ι2) : Gr H ι H2 ι2 := by
  obtain ⟨t, ht⟩ := a.ext
  obtain ⟨u, hu⟩ := b.ext
  exact ⟨fun x xs h => b.tup x xs (a.tup x xs h), fun x o u h => b.frz x o u (a.frz x o u h), t ++ u, by rw [hu, ht, List.append_assoc]⟩
theorem Gr.at_ {H H' : Hp} {ι ι' : List Addr} (g : Gr H ι H' ι') {n : Nat} {a : Addr} (h : ι[n]? = some a) : ι'[n]? = some a := by
  obtain ⟨t, rfl⟩ := g.ext
  rw [List.getElem?_append_left]
  · exact h
  · exact (List.getElem?_eq_some_iff.mp h).1

section
variable {K : PySem.W.Frag} {H H' : Hp} {ι ι' : List Addr}
theorem Frz.mono (g : Gr H ι H' ι') {a : Addr} {vs : List V} (f : Frz K H a vs) : Frz K H' a vs := by
  rcases f with ⟨o, e⟩ | f
  · exact .inl ⟨o, g.frz _ _ _ e⟩
  · exact .inr f
mutual
theorem DR.mono (g : Gr H ι H' ι') : ∀ {d : D} {v : V}, DR K H ι d v → DR K H' ι' d v
  | .non, _, h => h
  | .bl _, _, h => h
  | .int _, _, h => h
  | .str _, _, h => h
  | .tup ds, v, h => by
    unfold DR at h ⊢
    obtain ⟨a, vs, e, t, r⟩ := h
    exact ⟨a, vs, e, g.tup _ _ t, DRs.mono g r⟩
  | .fl ds, v, h => by
    unfold DR at h ⊢
    obtain ⟨a, vs, e, t, r⟩ := h
    exact ⟨a, vs, e, t.mono g, DRs.mono g r⟩
  | .obj n, v, h => by
    unfold DR at h ⊢
    obtain ⟨a, e, r⟩ := h
    exact ⟨a, g.at_ e, r⟩
theorem DRs.mono (g : Gr H ι H' ι') : ∀ {ds : List D} {vs : List V}, DRs K H ι ds vs → DRs K H' ι' ds vs
  | [], _, h => h
  | d :: ds, _, h => by
    unfold DRs at h ⊢
    obtain ⟨w, ws, e, r, rs⟩ := h
    exact ⟨w, ws, e, DR.mono g r, DRs.mono g rs⟩
end
theorem KRs.mono (g : Gr H ι H' ι') : ∀ {ds : List (Key × D)} {vs : List (L2.Key × V)}, KRs K H ι ds vs → KRs K H' ι' ds vs
  | [], _, h => h
  | d :: ds, _, h => by
    unfold KRs at h ⊢
    obtain ⟨w, ws, e, r, rs⟩ := h
    exact ⟨w, ws, e, DR.mono g r, KRs.mono g rs⟩

/-! ### lists of related things -/
theorem DRs.nil_ : DRs K H ι [] [] := by unfold DRs; rfl
theorem DRs.cons_ {d : D} {ds : List D} {v : V} {vs : List V} (h : DR K H ι d v) (r : DRs K H ι ds vs) : DRs K H ι (d :: ds) (v :: vs) := by
  unfold DRs
  exact ⟨v, vs, rfl, h, r⟩
theorem DRs.uncons {d : D} {ds : List D} {ws : List V} (h : DRs K H ι (d :: ds) ws) : ∃ v vs, ws = v :: vs ∧ DR K H ι d v ∧ DRs K H ι ds vs := by
  unfold DRs at h
  exact h
theorem DRs.len : ∀ {ds : List D} {vs : List V}, DRs K H ι ds vs → ds.length = vs.length
  | [], _, h => by unfold DRs at h; rw [h]; rfl
  | _ :: _, _, h => by
    obtain ⟨v, vs, rfl, _, r⟩ := h.uncons
    rw [List.length_cons, List.length_cons, DRs.len r]
theorem DRs.get : ∀ {ds : List D} {vs : List V} {i : Nat} {d : D}, DRs K H ι ds vs → ds[i]? = some d → ∃ v, vs[i]? = some v ∧ DR K H ι d v
  | [], _, _, _, _, e => by simp at e
  | _ :: _, _, 0, _, h, e => by
    obtain ⟨v, vs, rfl, r, _⟩ := h.uncons
    simp at e
    subst e
    exact ⟨v, rfl, r⟩
  | _ :: ds, _, i + 1, d, h, e => by
    obtain ⟨v, vs, rfl, _, rs⟩ := h.uncons
    obtain ⟨w, ew, rw'⟩ := DRs.get (i := i) (d := d) rs (by simpa using e)
    exact ⟨w, by simpa using ew, rw'⟩
theorem DRs.append : ∀ {ds es : List D} {vs ws : List V}, DRs K H ι ds vs → DRs K H ι es ws → DRs K H ι (ds ++ es) (vs ++ ws)
  | [], _, _, _, h, r => by
    unfold DRs at h
    subst h
    exact r
  | _ :: _, _, _, _, h, r => by
    obtain ⟨v, vs, rfl, q, qs⟩ := h.uncons
    exact DRs.cons_ q (DRs.append qs r)
theorem DRs.take : ∀ (n : Nat) {ds : List D} {vs : List V}, DRs K H ι ds vs → DRs K H ι (ds.take n) (vs.take n)
  | 0, _, _, _ => by rw [List.take_zero, List.take_zero]; exact DRs.nil_
  | n + 1, [], _, h => by
    unfold DRs at h
    subst h
    exact DRs.nil_
  | n + 1, _ :: _, _, h => by
    obtain ⟨v, vs, rfl, q, qs⟩ := h.uncons
    exact DRs.cons_ q (DRs.take n qs)
theorem DRs.drop : ∀ (n : Nat) {ds : List D} {vs : List V}, DRs K H ι ds vs → DRs K H ι (ds.drop n) (vs.drop n)
  | 0, _, _, h => by rw [List.drop_zero, List.drop_zero]; exact h
  | n + 1, [], _, h => by
    unfold DRs at h
    subst h
    exact DRs.nil_
  | n + 1, _ :: _, _, h => by
    obtain ⟨v, vs, rfl, q, qs⟩ := h.uncons
    exact DRs.drop n qs
theorem DRs.reverse : ∀ {ds : List D} {vs : List V}, DRs K H ι ds vs → DRs K H ι ds.reverse vs.reverse
  | [], _, h => by
    unfold DRs at h
    subst h
    exact DRs.nil_
  | _ :: _, _, h => by
    obtain ⟨v, vs, rfl, q, qs⟩ := h.uncons
    rw [List.reverse_cons, List.reverse_cons]
    exact (DRs.reverse qs).append (DRs.cons_ q DRs.nil_)
theorem DRs.set : ∀ (i : Nat) {ds : List D} {vs : List V} {d : D} {v : V}, DRs K H ι ds vs → DR K H ι d v → DRs K H ι (ds.set i d) (vs.set i v)
  | _, [], _, _, _, h, _ => by
    unfold DRs at h
    subst h
    exact DRs.nil_
  | 0, _ :: _, _, _, _, h, r => by
    obtain ⟨v, vs, rfl, q, qs⟩ := h.uncons
    exact DRs.cons_ r qs
  | i + 1, _ :: _, _, _, _, h, r => by
    obtain ⟨v, vs, rfl, q, qs⟩ := h.uncons
    exact DRs.cons_ q (DRs.set i qs r)
theorem DRs.rep {ds : List D} {vs : List V} (h : DRs K H ι ds vs) : ∀ k : Nat, DRs K H ι (List.replicate k ds).flatten (List.replicate k vs).flatten
  | 0 => DRs.nil_
  | k + 1 => by
    rw [List.replicate_succ, List.replicate_succ, List.flatten_cons, List.flatten_cons]
    exact h.append (DRs.rep h k)
theorem DRs.nil_iff {ds : List D} {vs : List V} (h : DRs K H ι ds vs) : ds = [] ↔ vs = [] := by
  have e := h.len
  constructor
  · rintro rfl
    exact List.eq_nil_of_length_eq_zero e.symm
  · rintro rfl
    exact List.eq_nil_of_length_eq_zero e
theorem DRs.isEmpty {ds : List D} {vs : List V} (h : DRs K H ι ds vs) : ds.isEmpty = vs.isEmpty := by
  cases ds with
  | nil => unfold DRs at h; subst h; rfl
  | cons d ds =>
    obtain ⟨v, vs, rfl, _, _⟩ := h.uncons
    rfl
theorem DRs.snoc_ {ds : List D} {vs : List V} {d : D} {v : V} (h : DRs K H ι ds vs) (r : DR K H ι d v) : DRs K H ι (ds ++ [d]) (vs ++ [v]) := h.append (DRs.cons_ r DRs.nil_)
theorem DRs.atI {ds : List D} {vs : List V} {i : Int} {d : D} (h : DRs K H ι ds vs) (e : Mi.atI ds i = some d) : ∃ v, L2.atI vs i = some v ∧ DR K H ι d v := by
  unfold Mi.atI at e
  cases q : Mi.ixN ds.length i with
  | none => rw [q] at e; cases e
  | some j =>
    rw [q] at e
    obtain ⟨v, ev, r⟩ := h.get e
    refine ⟨v, ?_, r⟩
    unfold L2.atI
    rw [← h.len]
    have q' : L2.ixN ds.length i = some j := q
    rw [q']
    exact ev
theorem DRs.cut {ds : List D} {vs : List V} {lo hi : Option Int} (h : DRs K H ι ds vs) : DRs K H ι (Mi.cut ds lo hi) (cutV vs lo hi) := by
  unfold Mi.cut cutV
  rw [← h.len]
  exact (h.drop _).take _

/-! ### the store -/
def OR (K : PySem.W.Frag) (H : Hp) (ι : List Addr) : MO → Addr → Prop
  | .lst xs, a => ∃ vs, H a = some (.lst vs) ∧ DRs K H ι xs vs
  | .dic kvs, a => ∃ ks, H a = some (.dK ks) ∧ KRs K H ι kvs ks
structure HR (K : PySem.W.Frag) (H : Hp) (ι : List Addr) (h : MH) : Prop where
  len : ι.length = h.length
  nd : ι.Nodup
  at_ : ∀ (n : Nat) (a : Addr) (o : MO), ι[n]? = some a → h[n]? = some o → OR K H ι o a
theorem OR.live {o : MO} {a : Addr} (r : OR K H ι o a) : H a ≠ none := by
  cases o with
  | lst xs => obtain ⟨vs, e, _⟩ := r; rw [e]; exact fun q => nomatch q
  | dic kvs => obtain ⟨vs, e, _⟩ := r; rw [e]; exact fun q => nomatch q
theorem OR.notup {o : MO} {a : Addr} (r : OR K H ι o a) : (∀ xs, H a ≠ some (.tup xs)) ∧ ∀ ob u, H a ≠ some (.frz ob u) := by
  cases o with
  | lst xs => obtain ⟨vs, e, _⟩ := r; rw [e]; exact ⟨fun _ q => (nomatch q), fun _ _ q => (nomatch q)⟩
  | dic kvs => obtain ⟨vs, e, _⟩ := r; rw [e]; exact ⟨fun _ q => (nomatch q), fun _ _ q => (nomatch q)⟩
variable {h : MH}
theorem HR.adr (R : HR K H ι h) {n : Nat} {o : MO} (e : h[n]? = some o) : ∃ a, ι[n]? = some a ∧ OR K H ι o a := by
  have hn : n < ι.length := by rw [R.len]; exact (List.getElem?_eq_some_iff.mp e).1
  exact ⟨ι[n], by simp [hn], R.at_ n _ o (by simp [hn]) e⟩
theorem HR.live (R : HR K H ι h) {a : Addr} (m : a ∈ ι) : ∃ o, OR K H ι o a := by
  obtain ⟨n, hn⟩ := List.getElem?_of_mem m
  have hl : n < h.length := by rw [← R.len]; exact (List.getElem?_eq_some_iff.mp hn).1
  exact ⟨h[n], R.at_ n a _ hn (by simp [hl])⟩
theorem HR.fresh (R : HR K H ι h) {p : Addr} (np : H p = none) : p ∉ ι := fun m => by
  obtain ⟨o, r⟩ := R.live m
  exact r.live np
theorem OR.mono (g : Gr H ι H' ι') {a : Addr} (e : H' a = H a) {o : MO} (r : OR K H ι o a) : OR K H' ι' o a := by
  cases o with
  | lst xs => obtain ⟨vs, q, s⟩ := r; exact ⟨vs, by rw [e]; exact q, s.mono g⟩
  | dic kvs => obtain ⟨vs, q, s⟩ := r; exact ⟨vs, by rw [e]; exact q, s.mono g⟩
theorem gr_new {p : Addr} {o : HO} (np : H p = none) (t : List Addr) : Gr H ι (upd H p o) (ι ++ t) :=
  ⟨fun a xs e => by rw [upd_ne (ne_of_none e np)]; exact e, fun a ob u e => by rw [upd_ne (ne_of_none e np)]; exact e, t, rfl⟩
theorem gr_new0 {p : Addr} {o : HO} (np : H p = none) : Gr H ι (upd H p o) ι := by
  have g : Gr H ι (upd H p o) (ι ++ []) := gr_new np []
  rw [List.append_nil] at g
  exact g
/-- a new tuple -/
theorem HR.tup (R : HR K H ι h) {p : Addr} {o : HO} (np : H p = none) : HR K (upd H p o) ι h :=
  ⟨R.len, R.nd, fun n a ob e1 e2 => (R.at_ n a ob e1 e2).mono (gr_new0 np) (by rw [upd_ne]; rintro rfl; exact (R.at_ n _ ob e1 e2).live np)⟩
/-- a new list, a new dict -/
theorem HR.new (R : HR K H ι h) {p : Addr} {o : HO} {mo : MO} (np : H p = none) (hO : ∀ H' ι', Gr H ι H' ι' → H' p = some o → OR K H' ι' mo p) : HR K (upd H p o) (ι ++ [p]) (h ++ [mo]) := by
  have np' := R.fresh np
  refine ⟨by rw [List.length_append, List.length_append, R.len]; rfl, ?_, fun n a ob e1 e2 => ?_⟩
  · rw [List.nodup_append]
    exact ⟨R.nd, by simp, fun a ha b hb => by rw [List.mem_singleton] at hb; subst hb; rintro rfl; exact np' ha⟩
  · by_cases hn : n < h.length
    · rw [List.getElem?_append_left (by rw [R.len]; exact hn)] at e1
      rw [List.getElem?_append_left hn] at e2
      exact (R.at_ n a ob e1 e2).mono (gr_new np [p]) (by rw [upd_ne]; rintro rfl; exact (R.at_ n _ ob e1 e2).live np)
    · have hn' : n = h.length := by
        have := (List.getElem?_eq_some_iff.mp e2).1
        rw [List.length_append, List.length_singleton] at this
        omega
      subst hn'
      rw [← R.len] at e1
      rw [List.getElem?_concat_length] at e1 e2
      cases e1
      cases e2
      exact hO _ _ (gr_new np [p]) upd_same
/-- an object changed -/
theorem HR.put (R : HR K H ι h) {n : Nat} {a : Addr} {o : HO} {mo : MO} (e : ι[n]? = some a) (hO : ∀ H' ι', Gr H ι H' ι' → H' a = some o → OR K H' ι' mo a) :
    Gr H ι (upd H a o) ι ∧ HR K (upd H a o) ι (h.set n mo) := by
  have hn : n < h.length := by rw [← R.len]; exact (List.getElem?_eq_some_iff.mp e).1
  have old := R.at_ n a h[n] e (by simp [hn])
  have g : Gr H ι (upd H a o) ι := ⟨fun b xs q => by rw [upd_ne]; exact q; rintro rfl; exact old.notup.1 _ q, fun b ob u q => by rw [upd_ne]; exact q; rintro rfl; exact old.notup.2 _ _ q, [], by simp⟩
  refine ⟨g, by rw [List.length_set]; exact R.len, R.nd, fun m b ob e1 e2 => ?_⟩
  by_cases hm : m = n
  · subst hm
    rw [e] at e1
    cases e1
    rw [List.getElem?_set_self hn] at e2
    cases e2
    exact hO _ _ g upd_same
  · rw [List.getElem?_set_ne (Ne.symm hm)] at e2
    refine (R.at_ m b ob e1 e2).mono g ?_
    rw [upd_ne]
    rintro rfl
    refine hm ?_
    obtain ⟨h1, q1⟩ := List.getElem?_eq_some_iff.mp e
    obtain ⟨h2, q2⟩ := List.getElem?_eq_some_iff.mp e1
    exact (List.getElem_inj R.nd).mp (q2.trans q1.symm)

theorem HR.lst (R : HR K H ι h) {n : Nat} {xs : List D} (e : lstAt h n = some xs) : ∃ a vs, ι[n]? = some a ∧ H a = some (.lst vs) ∧ DRs K H ι xs vs ∧ h[n]? = some (.lst xs) := by
  unfold lstAt at e
  split at e
  · rename_i ys q
    cases e
    obtain ⟨a, ea, vs, hv, r⟩ := R.adr q
    exact ⟨a, vs, ea, hv, r, q⟩
  · cases e
theorem HR.lst' (R : HR K H ι h) {n : Nat} {xs : List D} {a : Addr} (e : lstAt h n = some xs) (ea : ι[n]? = some a) : ∃ vs, H a = some (.lst vs) ∧ DRs K H ι xs vs := by
  obtain ⟨b, vs, eb, hv, r, _⟩ := R.lst e
  rw [ea] at eb
  cases eb
  exact ⟨vs, hv, r⟩
end

/-! ### the slots -/
def ER (K : PySem.W.Frag) (H : Hp) (ι : List Addr) (env : Env) (σ : L2.St) : Prop :=
  env.length = σ.length ∧ ∀ (i : Nat) (d : D), env[i]? = some (some d) → ∃ v : V, σ[i]? = some (some v) ∧ DR K H ι d v
section
variable {K : PySem.W.Frag} {H H' : Hp} {ι ι' : List Addr} {env : Env} {σ : L2.St}
theorem ER.mono (g : Gr H ι H' ι') (e : ER K H ι env σ) : ER K H' ι' env σ := ⟨e.1, fun i d q => let ⟨v, a, b⟩ := e.2 i d q; ⟨v, a, b.mono g⟩⟩
theorem ER.set (e : ER K H ι env σ) {i : Nat} {d : D} {v : V} (r : DR K H ι d v) : ER K H ι (env.set i (some d)) (σ.set i (some v)) := by
  refine ⟨by rw [List.length_set, List.length_set]; exact e.1, fun j d' q => ?_⟩
  by_cases hj : j = i
  · subst hj
    have hl : j < env.length := by
      have := (List.getElem?_eq_some_iff.mp q).1
      rw [List.length_set] at this
      exact this
    rw [List.getElem?_set_self hl] at q
    cases q
    exact ⟨v, by rw [List.getElem?_set_self (by rw [← e.1]; exact hl)], r⟩
  · rw [List.getElem?_set_ne (Ne.symm hj)] at q
    rw [List.getElem?_set_ne (Ne.symm hj)]
    exact e.2 j d' q
theorem ER.unset (e : ER K H ι env σ) (i : Nat) : ER K H ι (env.set i none) (σ.set i none) := by
  refine ⟨by rw [List.length_set, List.length_set]; exact e.1, fun j d' q => ?_⟩
  by_cases hj : j = i
  · subst hj
    have hl : j < env.length := by
      have := (List.getElem?_eq_some_iff.mp q).1
      rw [List.length_set] at this
      exact this
    rw [List.getElem?_set_self hl] at q
    cases q
  · rw [List.getElem?_set_ne (Ne.symm hj)] at q
    rw [List.getElem?_set_ne (Ne.symm hj)]
    exact e.2 j d' q
theorem ER.wipe (e : ER K H ι env σ) : ∀ vs : List Nat, ER K H ι (wipeE env vs) (L2.wipe σ vs)
  | [] => e
  | v :: vs => (ER.wipe e vs).unset v
end

/-! ### readings -/
def tE (K : PySem.W.Frag) (m : Env → M D) : TE := fun σ H Q => ∃ ι h env d h', ER K H ι env σ ∧ HR K H ι h ∧ m env h = some (d, h') ∧
  ∀ v H' ι', Gr H ι H' ι' → DR K H' ι' d v → HR K H' ι' h' → Q v H'
def tT (K : PySem.W.Frag) (m : Env → M Bool) : TT := fun σ H Q => ∃ ι h env b h', ER K H ι env σ ∧ HR K H ι h ∧ m env h = some (b, h') ∧
  ∀ H' ι', Gr H ι H' ι' → HR K H' ι' h' → Q b H'
def tAs (K : PySem.W.Frag) (m : Env → M (List D)) : TA := fun σ H Q => ∃ ι h env ds h', ER K H ι env σ ∧ HR K H ι h ∧ m env h = some (ds, h') ∧
  ∀ vs H' ι', Gr H ι H' ι' → DRs K H' ι' ds vs → HR K H' ι' h' → Q vs H'
def tOo (K : PySem.W.Frag) (m : Env → M (Option Int)) : TO := fun σ H Q => ∃ ι h env o h', ER K H ι env σ ∧ HR K H ι h ∧ m env h = some (o, h') ∧
  ∀ H' ι', Gr H ι H' ι' → HR K H' ι' h' → Q o H'
/-- what is wanted at a statement's end -/
def endS (K : PySem.W.Frag) (D : Ends) (H : Hp) (ι : List Addr) (h' : MH) (env' : Env) : Out → Prop
  | .nx => ∀ σ' H' ι', Gr H ι H' ι' → ER K H' ι' env' σ' → HR K H' ι' h' → D.nx σ' H'
  | .bk => ∀ σ' H' ι', Gr H ι H' ι' → ER K H' ι' env' σ' → HR K H' ι' h' → D.bk σ' H'
  | .ct => ∀ σ' H' ι', Gr H ι H' ι' → ER K H' ι' env' σ' → HR K H' ι' h' → D.ct σ' H'
  | .ret d => ∀ v H' ι', Gr H ι H' ι' → DR K H' ι' d v → HR K H' ι' h' → D.rt v H'
def tS (K : PySem.W.Frag) (m : Env → M (Out × Env)) : TS := fun D σ H => ∃ ι h env o env' h', ER K H ι env σ ∧ HR K H ι h ∧ m env h = some ((o, env'), h') ∧ endS K D H ι h' env' o
theorem endS.mono {K : PySem.W.Frag} {D : Ends} {H H1 : Hp} {ι ι1 : List Addr} {h' : MH} {env' : Env} (g : Gr H ι H1 ι1) : ∀ {o : Out}, endS K D H ι h' env' o → endS K D H1 ι1 h' env' o
  | .nx, e => fun σ' H' ι' g' => e σ' H' ι' (g.trans g')
  | .bk, e => fun σ' H' ι' g' => e σ' H' ι' (g.trans g')
  | .ct, e => fun σ' H' ι' g' => e σ' H' ι' (g.trans g')
  | .ret d, e => fun v H' ι' g' => e v H' ι' (g.trans g')

theorem PE.imp {X : Cx} {e : PySem.Expr} {t t' : TE} (h : PE X e t) (w : ∀ σ H Q, t' σ H Q → t σ H Q) : PE X e t' := ⟨fun pins s σ H Q I q => h.run pins s σ H Q I (w _ _ _ q)⟩
theorem PT.imp {X : Cx} {e : PySem.Expr} {t t' : TT} (h : PT X e t) (w : ∀ σ H Q, t' σ H Q → t σ H Q) : PT X e t' := ⟨fun pins s σ H Q I q => h.run pins s σ H Q I (w _ _ _ q)⟩
theorem PW.imp {X : Cx} {e : PySem.Expr} {t t' : TT} (h : PW X e t) (w : ∀ σ H Q, t' σ H Q → t σ H Q) : PW X e t' := ⟨fun wh pins s σ H Q I q => h.run wh pins s σ H Q I (w _ _ _ q)⟩
theorem PA.imp {X : Cx} {e : List PySem.Expr} {t t' : TA} (h : PA X e t) (w : ∀ σ H Q, t' σ H Q → t σ H Q) : PA X e t' := ⟨fun pos pins s σ H Q I q => h.run pos pins s σ H Q I (w _ _ _ q)⟩
theorem PO.imp {X : Cx} {e : Option PySem.Expr} {t t' : TO} (h : PO X e t) (w : ∀ σ H Q, t' σ H Q → t σ H Q) : PO X e t' := ⟨fun pins s σ H Q I q => h.run pins s σ H Q I (w _ _ _ q)⟩
theorem PS.imp {X : Cx} {e : PySem.Stmt} {t t' : TS} (h : PS X e t) (w : ∀ σ H Q, t' σ H Q → t σ H Q) : PS X e t' := ⟨fun pins s σ H Q I q => h.run pins s σ H Q I (w _ _ _ q)⟩
theorem PSs.imp {X : Cx} {e : List PySem.Stmt} {t t' : TS} (h : PSs X e t) (w : ∀ σ H Q, t' σ H Q → t σ H Q) : PSs X e t' := ⟨fun pins s σ H Q I q => h.run pins s σ H Q I (w _ _ _ q)⟩
theorem PE.orr {X : Cx} {e : PySem.Expr} {t t' : TE} (h : PE X e t) (h' : PE X e t') : PE X e (fun σ H Q => t σ H Q ∨ t' σ H Q) :=
  ⟨fun pins s σ H Q I q => q.elim (h.run pins s σ H Q I) (h'.run pins s σ H Q I)⟩
end Mi

set_option maxHeartbeats 4000000
/-! MiOps: the operations by values. -/
namespace Mi
open PySem PySem.Spec PyProof.Rows L2

def opOf : BOp → Operator
  | .add => .Add | .sub => .Sub | .mul => .Mult | .fdiv => .FloorDiv | .mod => .Mod | .pow => .Pow
def copOf : COp → CmpOp
  | .eq => .Eq | .ne => .NotEq | .lt => .Lt | .le => .LtE | .gt => .Gt | .ge => .GtE | .isN => .Is | .notN => .IsNot | .in_ => .In | .notIn => .NotIn

/-- a value that comes of two -/
def rV2 (K : PySem.W.Frag) (f : D → D → M D) : R2 := fun x y H Q => ∃ ι h d1 d2 d h', DR K H ι d1 x ∧ DR K H ι d2 y ∧ HR K H ι h ∧ f d1 d2 h = some (d, h') ∧
  ∀ v H' ι', Gr H ι H' ι' → DR K H' ι' d v → HR K H' ι' h' → Q v H'
/-- a truth that comes of two -/
def rB2 (K : PySem.W.Frag) (f : D → D → MH → Option Bool) : R2 := fun x y H Q => ∃ ι h d1 d2 b, DR K H ι d1 x ∧ DR K H ι d2 y ∧ HR K H ι h ∧ f d1 d2 h = some b ∧ Q (.bl b) H
theorem dr_int {K : PySem.W.Frag} {H : Hp} {ι : List Addr} {i : Int} {v : V} : DR K H ι (.int i) v ↔ v = .int i := by unfold DR; exact Iff.rfl
theorem dr_bl {K : PySem.W.Frag} {H : Hp} {ι : List Addr} {i : Bool} {v : V} : DR K H ι (.bl i) v ↔ v = .bl i := by unfold DR; exact Iff.rfl
theorem dr_str {K : PySem.W.Frag} {H : Hp} {ι : List Addr} {i : Str} {v : V} : DR K H ι (.str i) v ↔ v = .str i := by unfold DR; exact Iff.rfl
theorem dr_non {K : PySem.W.Frag} {H : Hp} {ι : List Addr} {v : V} : DR K H ι .non v ↔ v = .non := by unfold DR; exact Iff.rfl
theorem dr_tup {K : PySem.W.Frag} {H : Hp} {ι : List Addr} {ds : List D} {v : V} : DR K H ι (.tup ds) v ↔ ∃ a vs, v = .ref a ∧ H a = some (.tup vs) ∧ DRs K H ι ds vs := by
  conv => lhs; unfold DR
theorem dr_fl {K : PySem.W.Frag} {H : Hp} {ι : List Addr} {ds : List D} {v : V} : DR K H ι (.fl ds) v ↔ ∃ a vs, v = .ref a ∧ Frz K H a vs ∧ DRs K H ι ds vs := by
  conv => lhs; unfold DR
theorem dr_obj {K : PySem.W.Frag} {H : Hp} {ι : List Addr} {n : Nat} {v : V} : DR K H ι (.obj n) v ↔ ∃ a, ι[n]? = some a ∧ v = .ref a := by
  conv => lhs; unfold DR

section
variable {K : PySem.W.Frag} {H : Hp} {ι : List Addr} {h : MH}
theorem dr_obj' {n : Nat} {v : V} {xs : List D} (R : HR K H ι h) (r : DR K H ι (.obj n) v) (e : lstAt h n = some xs) : ∃ a vs, v = .ref a ∧ ι[n]? = some a ∧ H a = some (.lst vs) ∧ DRs K H ι xs vs := by
  obtain ⟨a, ea, rfl⟩ := dr_obj.mp r
  obtain ⟨vs, hv, rs⟩ := R.lst' e ea
  exact ⟨a, vs, rfl, ea, hv, rs⟩
/-- a new list, for what is wanted -/
theorem fin_lst {Q : VK} {xs : List D} {vs : List V} (R : HR K H ι h) (r : DRs K H ι xs vs) (k : ∀ v H' ι', Gr H ι H' ι' → DR K H' ι' (.obj h.length) v → HR K H' ι' (h ++ [.lst xs]) → Q v H') :
    ∀ p, H p = none → Q (.ref p) (upd H p (.lst vs)) := fun p np => by
  refine k _ _ (ι ++ [p]) (gr_new np [p]) ?_ (R.new np fun H' ι' g e => ⟨vs, e, r.mono g⟩)
  rw [dr_obj]
  exact ⟨p, by rw [← R.len, List.getElem?_concat_length], rfl⟩
theorem fin_tup {Q : VK} {xs : List D} {vs : List V} (R : HR K H ι h) (r : DRs K H ι xs vs) (k : ∀ v H' ι', Gr H ι H' ι' → DR K H' ι' (.tup xs) v → HR K H' ι' h → Q v H') :
    ∀ p, H p = none → Q (.ref p) (upd H p (.tup vs)) := fun p np => by
  refine k _ _ ι (gr_new0 np) ?_ (R.tup np)
  rw [dr_tup]
  exact ⟨p, vs, rfl, upd_same, r.mono (gr_new0 np)⟩
theorem fin_same {Q : VK} {d : D} {v : V} (R : HR K H ι h) (r : DR K H ι d v) (k : ∀ v H' ι', Gr H ι H' ι' → DR K H' ι' d v → HR K H' ι' h → Q v H') : Q v H := k v H ι Gr.refl r R
end
theorem line_le : (sizeLine : Nat) = LINE := by rw [LINE_eq]; exact sizeLine_eq

section
variable {X : Cx}
theorem ok_bin (op : BOp) : OpR X (binaryOp (opOf op)) (rV2 X.K (binD op)) := by
  intro pins s σ H x y v u Q I rx ry q
  obtain ⟨ι, g, d1, d2, d, g', r1, r2, R, e, k⟩ := q
  unfold binD at e
  split at e
  · obtain ⟨rfl, rfl⟩ := ret_some.mp e
    rw [dr_int] at r1 r2
    exact op_add pins s σ H x y v u Q I rx ry ⟨_, _, r1, r2, fin_same R (dr_int.mpr rfl) k⟩
  · obtain ⟨rfl, rfl⟩ := ret_some.mp e
    rw [dr_int] at r1 r2
    exact op_sub pins s σ H x y v u Q I rx ry ⟨_, _, r1, r2, fin_same R (dr_int.mpr rfl) k⟩
  · split at e
    · rename_i c
      obtain ⟨rfl, rfl⟩ := ret_some.mp e
      rw [dr_int] at r1 r2
      refine op_mul pins s σ H x y v u Q I rx ry ⟨_, _, r1, r2, ?_, fin_same R (dr_int.mpr rfl) k⟩
      unfold small64 at c
      simp only [Bool.or_eq_true, Bool.and_eq_true, decide_eq_true_eq] at c
      exact c
    · exact absurd e no_some
  · split at e
    · rename_i c
      obtain ⟨rfl, rfl⟩ := ret_some.mp e
      rw [dr_int] at r1 r2
      simp only [Bool.and_eq_true, decide_eq_true_eq] at c
      exact op_fdiv pins s σ H x y v u Q I rx ry ⟨_, _, r1, r2, c, fin_same R (dr_int.mpr rfl) k⟩
    · exact absurd e no_some
  · split at e
    · rename_i c
      obtain ⟨rfl, rfl⟩ := ret_some.mp e
      rw [dr_int] at r1 r2
      exact op_mod pins s σ H x y v u Q I rx ry ⟨_, _, r1, r2, c, fin_same R (dr_int.mpr rfl) k⟩
    · exact absurd e no_some
  · split at e
    · rename_i c
      obtain ⟨rfl, rfl⟩ := ret_some.mp e
      rw [dr_int] at r1 r2
      simp only [Bool.and_eq_true, decide_eq_true_eq] at c
      exact op_pow pins s σ H x y v u Q I rx ry ⟨_, _, r1, r2, ⟨c.1.1, c.1.2, c.2⟩, fin_same R (dr_int.mpr rfl) k⟩
    · exact absurd e no_some
  · split at e
    · rename_i c
      obtain ⟨rfl, rfl⟩ := ret_some.mp e
      rw [dr_str] at r1 r2
      exact op_add_str pins s σ H x y v u Q I rx ry ⟨_, _, r1, r2, by rw [line_le]; exact c, fin_same R (dr_str.mpr rfl) k⟩
    · exact absurd e no_some
  · split at e
    · rename_i c
      obtain ⟨rfl, rfl⟩ := ret_some.mp e
      rw [dr_tup] at r1 r2
      obtain ⟨a, vs, rfl, ha, ra⟩ := r1
      obtain ⟨b, ws, rfl, hb, rb⟩ := r2
      refine op_catA pins s σ H _ _ v u Q I rx ry ⟨a, b, vs, ws, rfl, rfl, SqT.of ha, SqT.of hb, by rw [line_le, ← ra.len, ← rb.len]; exact c, fun z => ?_, fun _ z => ?_, fun _ _ => fin_tup R (ra.append rb) k⟩
      · have z' := ra.nil_iff.mpr z
        subst z'
        exact fin_same R (dr_tup.mpr ⟨b, ws, rfl, hb, rb⟩) k
      · have z' := rb.nil_iff.mpr z
        subst z'
        rw [List.append_nil] at k
        exact fin_same R (dr_tup.mpr ⟨a, vs, rfl, ha, ra⟩) k
    · exact absurd e no_some
  · obtain ⟨xs, h1, e1, e⟩ := bnd_some.mp e
    obtain ⟨f1, rfl⟩ := rd_some.mp e1
    obtain ⟨ys, h2, e2, e⟩ := bnd_some.mp e
    obtain ⟨f2, rfl⟩ := rd_some.mp e2
    split at e
    · rename_i c
      cases e
      obtain ⟨a, vs, rfl, _, ha, ra⟩ := dr_obj' R r1 f1
      obtain ⟨b, ws, rfl, _, hb, rb⟩ := dr_obj' R r2 f2
      exact op_cat pins s σ H _ _ v u Q I rx ry ⟨a, b, vs, ws, rfl, rfl, ha, hb, by rw [line_le, ← ra.len, ← rb.len]; exact c, fin_lst R (ra.append rb) k⟩
    · exact absurd e no_some
  · obtain ⟨xs, h1, e1, e⟩ := bnd_some.mp e
    obtain ⟨f1, rfl⟩ := rd_some.mp e1
    split at e
    · rename_i c
      cases e
      simp only [Bool.and_eq_true, decide_eq_true_eq] at c
      obtain ⟨a, vs, rfl, _, ha, ra⟩ := dr_obj' R r1 f1
      rw [dr_int] at r2
      subst r2
      exact op_rep pins s σ H _ _ v u Q I rx ry ⟨a, _, vs, rfl, rfl, ha, c.1.1, c.1.2, by rw [line_le, ← ra.len]; exact c.2, fin_lst R (ra.rep _) k⟩
    · exact absurd e no_some
  · exact absurd e no_some

/-! ### == by data -/
mutual
theorem py_dp {K : PySem.W.Frag} {H : Hp} {ι : List Addr} {h : MH} (R : HR K H ι h) : ∀ (n : Nat) (d : D) (v : V) (p : PyData), DR K H ι d v → pyOf h n d = some p → Dp K H v p ∧ p.canLay0 = true ∧ p.depth ≤ n
  | 0, .non, v, p, r, e => by
    rw [dr_non] at r
    simp only [pyOf, Option.some.injEq] at e
    subst r e
    exact ⟨.non, rfl, Nat.zero_le _⟩
  | _ + 1, .non, v, p, r, e => by
    rw [dr_non] at r
    simp only [pyOf, Option.some.injEq] at e
    subst r e
    exact ⟨.non, rfl, Nat.zero_le _⟩
  | 0, .bl b, v, p, r, e => by
    rw [dr_bl] at r
    simp only [pyOf, Option.some.injEq] at e
    subst r e
    exact ⟨.bl b, rfl, Nat.zero_le _⟩
  | _ + 1, .bl b, v, p, r, e => by
    rw [dr_bl] at r
    simp only [pyOf, Option.some.injEq] at e
    subst r e
    exact ⟨.bl b, rfl, Nat.zero_le _⟩
  | 0, .int b, v, p, r, e => by
    rw [dr_int] at r
    simp only [pyOf, Option.some.injEq] at e
    subst r e
    exact ⟨.int b, rfl, Nat.zero_le _⟩
  | _ + 1, .int b, v, p, r, e => by
    rw [dr_int] at r
    simp only [pyOf, Option.some.injEq] at e
    subst r e
    exact ⟨.int b, rfl, Nat.zero_le _⟩
  | 0, .str b, v, p, r, e => by
    rw [dr_str] at r
    simp only [pyOf] at e
    split at e
    · rename_i c
      cases e
      subst r
      exact ⟨.str b, c, Nat.zero_le _⟩
    · cases e
  | _ + 1, .str b, v, p, r, e => by
    rw [dr_str] at r
    simp only [pyOf] at e
    split at e
    · rename_i c
      cases e
      subst r
      exact ⟨.str b, c, Nat.zero_le _⟩
    · cases e
  | 0, .tup _, _, _, _, e => by simp only [pyOf] at e; cases e
  | 0, .fl _, _, _, _, e => by simp only [pyOf] at e; cases e
  | 0, .obj _, _, _, _, e => by simp only [pyOf] at e; cases e
  | n + 1, .tup xs, v, p, r, e => by
    rw [dr_tup] at r
    obtain ⟨a, vs, rfl, ha, rs⟩ := r
    simp only [pyOf, Option.map_eq_some_iff] at e
    obtain ⟨ps, e1, rfl⟩ := e
    obtain ⟨q1, q2, q3⟩ := py_dps R n xs vs ps rs e1
    exact ⟨.tup (SqT.of ha) q1, q2, Nat.succ_le_succ q3⟩
  | n + 1, .fl xs, v, p, r, e => by
    rw [dr_fl] at r
    obtain ⟨a, vs, rfl, ha, rs⟩ := r
    simp only [pyOf, Option.map_eq_some_iff] at e
    obtain ⟨ps, e1, rfl⟩ := e
    obtain ⟨q1, q2, q3⟩ := py_dps R n xs vs ps rs e1
    exact ⟨.lst ha.seq q1, q2, Nat.succ_le_succ q3⟩
  | n + 1, .obj m, v, p, r, e => by
    simp only [pyOf] at e
    split at e
    · rename_i xs hx
      simp only [Option.map_eq_some_iff] at e
      obtain ⟨ps, e1, rfl⟩ := e
      have hl : lstAt h m = some xs := by unfold lstAt; rw [hx]
      obtain ⟨a, vs, rfl, _, ha, rs⟩ := dr_obj' R r hl
      obtain ⟨q1, q2, q3⟩ := py_dps R n xs vs ps rs e1
      exact ⟨.lst (SqL.of ha) q1, q2, Nat.succ_le_succ q3⟩
    · cases e
theorem py_dps {K : PySem.W.Frag} {H : Hp} {ι : List Addr} {h : MH} (R : HR K H ι h) : ∀ (n : Nat) (ds : List D) (vs : List V) (ps : List PyData), DRs K H ι ds vs → ds.mapM (pyOf h n) = some ps →
    DpAll K H vs ps ∧ PyData.canLayAll0 ps = true ∧ PyData.depthAll ps ≤ n
  | n, [], vs, ps, r, e => by
    unfold DRs at r
    rw [List.mapM_nil] at e
    cases e
    subst r
    exact ⟨.nil, rfl, Nat.zero_le _⟩
  | n, d :: ds, vs, ps, r, e => by
    obtain ⟨w, ws, rfl, r1, r2⟩ := r.uncons
    rw [List.mapM_cons] at e
    obtain ⟨p, e1, e⟩ := Option.bind_eq_some_iff.mp e
    obtain ⟨qs, e2, e⟩ := Option.bind_eq_some_iff.mp e
    cases e
    obtain ⟨a1, a2, a3⟩ := py_dp R n d w p r1 e1
    obtain ⟨b1, b2, b3⟩ := py_dps R n ds ws qs r2 e2
    exact ⟨.cons a1 b1, by show (p.canLay0 && PyData.canLayAll0 qs) = true; rw [a2, b2]; rfl, Nat.max_le.mpr ⟨a3, b3⟩⟩
end
theorem eqD_dp {K : PySem.W.Frag} {H : Hp} {ι : List Addr} {h : MH} {d1 d2 : D} {x y : V} {b : Bool} (R : HR K H ι h) (r1 : DR K H ι d1 x) (r2 : DR K H ι d2 y) (e : eqD h d1 d2 = some b) :
    ∃ p q, Dp K H x p ∧ Dp K H y q ∧ SeqAt.shaped p = true ∧ SeqAt.shaped q = true ∧ b = PyData.eqv p q := by
  unfold eqD at e
  split at e
  · rename_i p q e1 e2
    cases e
    obtain ⟨a1, a2, a3⟩ := py_dp R 60 d1 x p r1 e1
    obtain ⟨b1, b2, b3⟩ := py_dp R 60 d2 y q r2 e2
    refine ⟨p, q, a1, b1, ?_, ?_, rfl⟩
    · unfold SeqAt.shaped
      rw [a2, Bool.true_and]
      exact decide_eq_true (by omega)
    · unfold SeqAt.shaped
      rw [b2, Bool.true_and]
      exact decide_eq_true (by omega)
  · cases e

/-! ### membership -/
def flatEq {K : PySem.W.Frag} {H : Hp} {ι : List Addr} : ∀ {d : D} {v : V}, DR K H ι d v → flatD d = true → flatV v = true ∧ ∀ {e : D} {w : V}, DR K H ι e w → flatD e = true → L2.eqV v w = eqF d e := fun {d v} r f => by
  cases d with
  | non =>
    rw [dr_non] at r
    subst r
    refine ⟨rfl, fun {e w} q g => ?_⟩
    cases e with
    | non => rw [dr_non] at q; subst q; rfl
    | bl b => rw [dr_bl] at q; subst q; rfl
    | int b => rw [dr_int] at q; subst q; rfl
    | str b => rw [dr_str] at q; subst q; rfl
    | _ => cases g
  | bl a =>
    rw [dr_bl] at r
    subst r
    refine ⟨rfl, fun {e w} q g => ?_⟩
    cases e with
    | non => rw [dr_non] at q; subst q; rfl
    | bl b => rw [dr_bl] at q; subst q; rfl
    | int b => rw [dr_int] at q; subst q; rfl
    | str b => rw [dr_str] at q; subst q; rfl
    | _ => cases g
  | int a =>
    rw [dr_int] at r
    subst r
    refine ⟨rfl, fun {e w} q g => ?_⟩
    cases e with
    | non => rw [dr_non] at q; subst q; rfl
    | bl b => rw [dr_bl] at q; subst q; rfl
    | int b => rw [dr_int] at q; subst q; rfl
    | str b => rw [dr_str] at q; subst q; rfl
    | _ => cases g
  | str a =>
    rw [dr_str] at r
    subst r
    refine ⟨rfl, fun {e w} q g => ?_⟩
    cases e with
    | non => rw [dr_non] at q; subst q; rfl
    | bl b => rw [dr_bl] at q; subst q; rfl
    | int b => rw [dr_int] at q; subst q; rfl
    | str b => rw [dr_str] at q; subst q; rfl
    | _ => cases g
  | _ => cases f
theorem inSeq {K : PySem.W.Frag} {H : Hp} {ι : List Addr} {d : D} {v : V} (r : DR K H ι d v) (f : flatD d = true) : ∀ {ds : List D} {vs : List V}, DRs K H ι ds vs → ds.all flatD = true → vs.all flatV = true ∧ inV v vs = ds.any fun z => eqF z d
  | [], _, q, _ => by
    unfold DRs at q
    subst q
    exact ⟨rfl, rfl⟩
  | e :: ds, _, q, g => by
    obtain ⟨w, ws, rfl, q1, q2⟩ := q.uncons
    rw [List.all_cons, Bool.and_eq_true] at g
    obtain ⟨i1, i2⟩ := inSeq r f q2 g.2
    obtain ⟨fw, ew⟩ := flatEq q1 g.1
    refine ⟨by rw [List.all_cons, fw, i1]; rfl, ?_⟩
    unfold inV at i2 ⊢
    rw [List.any_cons, List.any_cons, i2, ew r f]
theorem KRs.get {K : PySem.W.Frag} {H : Hp} {ι : List Addr} (k : Key) : ∀ {ds : List (Key × D)} {ks : List (L2.Key × V)}, KRs K H ι ds ks → match kget ds k with
    | some d => ∃ v, valV ks k = some v ∧ DR K H ι d v
    | none => valV ks k = none
  | [], _, q => by
    unfold KRs at q
    subst q
    rfl
  | p :: r, _, q => by
    unfold KRs at q
    obtain ⟨w, ws, rfl, q1, q2⟩ := q
    have ih := KRs.get k q2
    unfold kget at ih ⊢
    rw [List.find?_cons]
    by_cases e : p.1 = k
    · rw [decide_eq_true e]
      exact ⟨w, valV_pos e, q1⟩
    · rw [decide_eq_false e, valV_neg (p := (p.1, w)) e]
      exact ih
theorem KRs.some_ {K : PySem.W.Frag} {H : Hp} {ι : List Addr} {k : Key} {ds : List (Key × D)} {ks : List (L2.Key × V)} {d : D} (q : KRs K H ι ds ks) (e : kget ds k = some d) : ∃ v, valV ks k = some v ∧ DR K H ι d v := by
  have h := KRs.get k q
  rw [e] at h
  exact h
theorem KRs.isSome {K : PySem.W.Frag} {H : Hp} {ι : List Addr} {k : Key} {ds : List (Key × D)} {ks : List (L2.Key × V)} (q : KRs K H ι ds ks) : (valV ks k).isSome = (kget ds k).isSome := by
  have h := KRs.get k q
  split at h
  · rename_i d e
    obtain ⟨v, ev, _⟩ := h
    rw [ev, e]
    rfl
  · rename_i e
    rw [h, e]
    rfl
theorem KRs.len {K : PySem.W.Frag} {H : Hp} {ι : List Addr} : ∀ {ds : List (Key × D)} {ks : List (L2.Key × V)}, KRs K H ι ds ks → ds.length = ks.length
  | [], _, q => by
    unfold KRs at q
    subst q
    rfl
  | p :: r, _, q => by
    unfold KRs at q
    obtain ⟨w, ws, rfl, q1, q2⟩ := q
    rw [List.length_cons, List.length_cons, KRs.len q2]
theorem KRs.anyK {K : PySem.W.Frag} {H : Hp} {ι : List Addr} (k : Key) : ∀ {ds : List (Key × D)} {ks : List (L2.Key × V)}, KRs K H ι ds ks → (ks.any fun kv => decide (kv.1 = k)) = ds.any fun kv => decide (kv.1 = k)
  | [], _, q => by
    unfold KRs at q
    subst q
    rfl
  | p :: r, _, q => by
    unfold KRs at q
    obtain ⟨w, ws, rfl, q1, q2⟩ := q
    rw [List.any_cons, List.any_cons, KRs.anyK k q2]
theorem KRs.mapK {K : PySem.W.Frag} {H : Hp} {ι : List Addr} (k : Key) {d : D} {v : V} (rv : DR K H ι d v) : ∀ {ds : List (Key × D)} {ks : List (L2.Key × V)}, KRs K H ι ds ks →
    KRs K H ι (ds.map fun kv => if kv.1 = k then (kv.1, d) else kv) (ks.map fun kv => if kv.1 = k then (kv.1, v) else kv)
  | [], _, q => by
    unfold KRs at q
    subst q
    rfl
  | p :: r, _, q => by
    unfold KRs at q
    obtain ⟨w, ws, rfl, q1, q2⟩ := q
    rw [List.map_cons, List.map_cons]
    unfold KRs
    by_cases e : p.1 = k
    · rw [if_pos e, if_pos e]
      exact ⟨v, _, rfl, rv, KRs.mapK k rv q2⟩
    · rw [if_neg e, if_neg e]
      exact ⟨w, _, rfl, q1, KRs.mapK k rv q2⟩
theorem KRs.snoc_ {K : PySem.W.Frag} {H : Hp} {ι : List Addr} (k : Key) {d : D} {v : V} (rv : DR K H ι d v) : ∀ {ds : List (Key × D)} {ks : List (L2.Key × V)}, KRs K H ι ds ks → KRs K H ι (ds ++ [(k, d)]) (ks ++ [(k, v)])
  | [], _, q => by
    unfold KRs at q
    subst q
    rw [List.nil_append, List.nil_append]
    unfold KRs
    exact ⟨v, [], rfl, rv, rfl⟩
  | p :: r, _, q => by
    unfold KRs at q
    obtain ⟨w, ws, rfl, q1, q2⟩ := q
    rw [List.cons_append, List.cons_append]
    unfold KRs
    exact ⟨w, _, rfl, q1, KRs.snoc_ k rv q2⟩
theorem KRs.put {K : PySem.W.Frag} {H : Hp} {ι : List Addr} (k : Key) {d : D} {v : V} (rv : DR K H ι d v) {ds : List (Key × D)} {ks : List (L2.Key × V)} (q : KRs K H ι ds ks) : KRs K H ι (kput ds k d) (putK ks k v) := by
  unfold kput putK
  rw [KRs.anyK k q]
  split
  · exact KRs.mapK k rv q
  · exact KRs.snoc_ k rv q
theorem key_dr {K : PySem.W.Frag} {H : Hp} {ι : List Addr} {d : D} {v : V} {k : Key} (r : DR K H ι d v) (e : keyOf d = some k) : v = kV k := by
  unfold keyOf at e
  split at e
  · cases e
    rw [dr_int] at r
    exact r
  · cases e
    rw [dr_str] at r
    exact r
  · cases e
theorem dr_dic {K : PySem.W.Frag} {H : Hp} {ι : List Addr} {h : MH} {n : Nat} {v : V} {kvs : List (Key × D)} (R : HR K H ι h) (r : DR K H ι (.obj n) v) (e : h[n]? = some (.dic kvs)) : ∃ a ks, v = .ref a ∧ ι[n]? = some a ∧ H a = some (.dK ks) ∧ KRs K H ι kvs ks := by
  obtain ⟨a, ea, rfl⟩ := dr_obj.mp r
  obtain ⟨ks, hk, q⟩ := R.at_ n a _ ea e
  exact ⟨a, ks, rfl, ea, hk, q⟩
theorem dr_lst {K : PySem.W.Frag} {H : Hp} {ι : List Addr} {h : MH} {n : Nat} {v : V} {xs : List D} (R : HR K H ι h) (r : DR K H ι (.obj n) v) (e : h[n]? = some (.lst xs)) : ∃ a vs, v = .ref a ∧ ι[n]? = some a ∧ H a = some (.lst vs) ∧ DRs K H ι xs vs :=
  dr_obj' R r (by unfold lstAt; rw [e])
end
end Mi

set_option maxHeartbeats 4000000
/-! MiOps2: comparisons, subscripts, slices, truth, built-ins by values. -/
namespace Mi
open PySem PySem.Spec PyProof.Rows L2
section
variable {X : Cx}
theorem ok_in (hu : X.A.units + 64 < cLine) : OpR X (compareOp .In) (rB2 X.K fun a b h => inD h a b) := by
  intro pins s σ H x y v u Q I rx ry q
  obtain ⟨ι, g, d1, d2, b, r1, r2, R, e, k⟩ := q
  replace e : inD g d1 d2 = some b := e
  unfold inD at e
  split at e
  · split at e
    · rename_i n xs hn
      split at e
      · rename_i c
        cases e
        rw [Bool.and_eq_true] at c
        obtain ⟨a, vs, rfl, _, ha, rs⟩ := dr_lst R r2 hn
        obtain ⟨i1, i2⟩ := inSeq r1 c.1 rs c.2
        exact op_in_seq pins s σ H x _ v u Q I rx ry ⟨a, vs, rfl, .inl (SqL.of ha), (flatEq r1 c.1).1, i1, by rw [if_neg (by decide), i2]; exact k⟩
      · cases e
    · rename_i n kvs hn
      rw [Option.map_eq_some_iff] at e
      obtain ⟨kk, ek, e⟩ := e
      subst e
      obtain ⟨a, ks, rfl, _, ha, rs⟩ := dr_dic R r2 hn
      obtain rfl := key_dr r1 ek
      obtain rfl : u = Value.ref a := ry
      refine d_in (by omega) I (DGet.k (k := kk) ha) rx fun s' I' => ⟨.bl (valV ks kk).isSome, H, I', rfl, ?_⟩
      rw [rs.isSome]
      exact k
    · cases e
  · split at e
    · rename_i c
      cases e
      rw [Bool.and_eq_true] at c
      obtain ⟨a, vs, rfl, ha, rs⟩ := dr_tup.mp r2
      obtain ⟨i1, i2⟩ := inSeq r1 c.1 rs c.2
      exact op_in_seq pins s σ H x _ v u Q I rx ry ⟨a, vs, rfl, .inr (SqT.of ha), (flatEq r1 c.1).1, i1, by rw [if_neg (by decide), i2]; exact k⟩
    · cases e
  · cases e
theorem ok_notIn (hu : X.A.units + 64 < cLine) : OpR X (compareOp .NotIn) (rB2 X.K fun a b h => (inD h a b).map (!·)) := by
  intro pins s σ H x y v u Q I rx ry q
  obtain ⟨ι, g, d1, d2, b, r1, r2, R, e, k⟩ := q
  rw [Option.map_eq_some_iff] at e
  obtain ⟨b', e, eb⟩ := e
  subst eb
  unfold inD at e
  split at e
  · split at e
    · rename_i n xs hn
      split at e
      · rename_i c
        cases e
        rw [Bool.and_eq_true] at c
        obtain ⟨a, vs, rfl, _, ha, rs⟩ := dr_lst R r2 hn
        obtain ⟨i1, i2⟩ := inSeq r1 c.1 rs c.2
        exact op_notIn_seq pins s σ H x _ v u Q I rx ry ⟨a, vs, rfl, .inl (SqL.of ha), (flatEq r1 c.1).1, i1, by rw [if_pos rfl, i2]; exact k⟩
      · cases e
    · rename_i n kvs hn
      rw [Option.map_eq_some_iff] at e
      obtain ⟨kk, ek, e⟩ := e
      subst e
      obtain ⟨a, ks, rfl, _, ha, rs⟩ := dr_dic R r2 hn
      obtain rfl := key_dr r1 ek
      obtain rfl : u = Value.ref a := ry
      refine d_notIn (by omega) I (DGet.k (k := kk) ha) rx fun s' I' => ⟨.bl (!(valV ks kk).isSome), H, I', rfl, ?_⟩
      rw [rs.isSome]
      exact k
    · cases e
  · split at e
    · rename_i c
      cases e
      rw [Bool.and_eq_true] at c
      obtain ⟨a, vs, rfl, ha, rs⟩ := dr_tup.mp r2
      obtain ⟨i1, i2⟩ := inSeq r1 c.1 rs c.2
      exact op_notIn_seq pins s σ H x _ v u Q I rx ry ⟨a, vs, rfl, .inr (SqT.of ha), (flatEq r1 c.1).1, i1, by rw [if_pos rfl, i2]; exact k⟩
    · cases e
  · cases e
theorem non_iff {K : PySem.W.Frag} {H : Hp} {ι : List Addr} {d : D} {v : V} (r : DR K H ι d v) : decide (v = .non) = nonD d := by
  cases d with
  | non => rw [dr_non] at r; subst r; rfl
  | bl b => rw [dr_bl] at r; subst r; rfl
  | int b => rw [dr_int] at r; subst r; rfl
  | str b => rw [dr_str] at r; subst r; rfl
  | tup b => rw [dr_tup] at r; obtain ⟨a, vs, rfl, _, _⟩ := r; rfl
  | fl b => rw [dr_fl] at r; obtain ⟨a, vs, rfl, _, _⟩ := r; rfl
  | obj b => rw [dr_obj] at r; obtain ⟨a, _, rfl⟩ := r; rfl
theorem ok_cmp (hu : X.A.units + 64 < cLine) (op : COp) : OpR X (compareOp (copOf op)) (rB2 X.K (cmpD op)) := by
  cases op with
  | in_ => exact ok_in hu
  | notIn => exact ok_notIn hu
  | eq =>
    intro pins s σ H x y v u Q I rx ry q
    obtain ⟨ι, g, d1, d2, b, r1, r2, R, e, k⟩ := q
    obtain ⟨p, q, e1, e2, s1, s2, rfl⟩ := eqD_dp R r1 r2 e
    exact op_eqD hu pins s σ H x y v u Q I rx ry ⟨p, q, e1, e2, s1, s2, k⟩
  | ne =>
    intro pins s σ H x y v u Q I rx ry q
    obtain ⟨ι, g, d1, d2, b, r1, r2, R, e, k⟩ := q
    simp only [cmpD, Option.map_eq_some_iff] at e
    obtain ⟨b', e, eb⟩ := e
    subst eb
    obtain ⟨p, q, e1, e2, s1, s2, rfl⟩ := eqD_dp R r1 r2 e
    exact op_neD hu pins s σ H x y v u Q I rx ry ⟨p, q, e1, e2, s1, s2, k⟩
  | lt =>
    intro pins s σ H x y v u Q I rx ry q
    obtain ⟨ι, g, d1, d2, b, r1, r2, R, e, k⟩ := q
    simp only [cmpD] at e
    split at e
    · cases e
      exact op_lt pins s σ H x y v u Q I rx ry ⟨_, _, dr_int.mp r1, dr_int.mp r2, k⟩
    · cases e
      exact op_lt_str pins s σ H x y v u Q I rx ry ⟨_, _, dr_str.mp r1, dr_str.mp r2, k⟩
    · cases e
  | gt =>
    intro pins s σ H x y v u Q I rx ry q
    obtain ⟨ι, g, d1, d2, b, r1, r2, R, e, k⟩ := q
    simp only [cmpD] at e
    split at e
    · cases e
      exact op_gt pins s σ H x y v u Q I rx ry ⟨_, _, dr_int.mp r1, dr_int.mp r2, k⟩
    · cases e
      exact op_gt_str pins s σ H x y v u Q I rx ry ⟨_, _, dr_str.mp r1, dr_str.mp r2, k⟩
    · cases e
  | le =>
    intro pins s σ H x y v u Q I rx ry q
    obtain ⟨ι, g, d1, d2, b, r1, r2, R, e, k⟩ := q
    simp only [cmpD] at e
    split at e
    · cases e
      exact op_le pins s σ H x y v u Q I rx ry ⟨_, _, dr_int.mp r1, dr_int.mp r2, k⟩
    · cases e
  | ge =>
    intro pins s σ H x y v u Q I rx ry q
    obtain ⟨ι, g, d1, d2, b, r1, r2, R, e, k⟩ := q
    simp only [cmpD] at e
    split at e
    · cases e
      exact op_ge pins s σ H x y v u Q I rx ry ⟨_, _, dr_int.mp r1, dr_int.mp r2, k⟩
    · cases e
  | isN =>
    intro pins s σ H x y v u Q I rx ry q
    obtain ⟨ι, g, d1, d2, b, r1, r2, R, e, k⟩ := q
    simp only [cmpD] at e
    split at e
    · cases e
      refine op_isN pins s σ H x y v u Q I rx ry ⟨dr_non.mp r2, ?_⟩
      rw [non_iff r1]
      exact k
    · cases e
  | notN =>
    intro pins s σ H x y v u Q I rx ry q
    obtain ⟨ι, g, d1, d2, b, r1, r2, R, e, k⟩ := q
    simp only [cmpD] at e
    split at e
    · cases e
      refine op_notN pins s σ H x y v u Q I rx ry ⟨dr_non.mp r2, ?_⟩
      rw [non_iff r1]
      exact k
    · cases e

/-! ### subscripts -/
def rD2 (K : PySem.W.Frag) (f : D → D → MH → Option D) : R2 := fun x y H Q => ∃ ι h d1 d2 d, DR K H ι d1 x ∧ DR K H ι d2 y ∧ HR K H ι h ∧ f d1 d2 h = some d ∧ ∀ v, DR K H ι d v → Q v H
theorem ix_dict (hu : X.A.units + 64 < cLine) : IxR X (fun x y H Q => ∃ a v, x = .ref a ∧ DGet H a y (some v) ∧ Q v H) := by
  intro value slice pins s σ H x y v u Q I rx ry q hs
  obtain ⟨a, w, rfl, g, q⟩ := q
  obtain rfl : v = Value.ref a := rx
  refine tail_any (dict_typeIs I g) PySem.F.slot_dict_getitem.lookup ?_ hs
  exact d_getItem (by omega) I g ry fun w' s' I' rw' => ⟨w, H, I', rw', q⟩
theorem ok_idx (hu : X.A.units + 64 < cLine) : IxR X (rD2 X.K idxD) := by
  intro value slice pins s σ H x y v u Q I rx ry q hs
  obtain ⟨ι, g, d1, d2, d, r1, r2, R, e, k⟩ := q
  unfold idxD at e
  split at e
  · obtain ⟨a, vs, rfl, ha, rs⟩ := dr_tup.mp r1
    obtain ⟨w, ew, rw'⟩ := rs.atI e
    rw [dr_int] at r2
    exact ix_tup value slice pins s σ H _ y v u Q I rx ry ⟨a, vs, _, w, rfl, r2, SqT.of ha, ew, k w rw'⟩ hs
  · obtain ⟨a, vs, rfl, ha, rs⟩ := dr_fl.mp r1
    obtain ⟨w, ew, rw'⟩ := rs.atI e
    rw [dr_int] at r2
    exact ix_list value slice pins s σ H _ y v u Q I rx ry ⟨a, vs, _, w, rfl, r2, ha.seq, ew, k w rw'⟩ hs
  · split at e
    · rename_i c
      rw [Option.map_eq_some_iff] at e
      obtain ⟨ch, e1, rfl⟩ := e
      rw [dr_str] at r1
      rw [dr_int] at r2
      exact ix_str value slice pins s σ H x y v u Q I rx ry ⟨_, _, ch, r1, r2, by rw [line_le]; exact c, e1, k _ (dr_str.mpr rfl)⟩ hs
    · cases e
  · split at e
    · rename_i n kk xs hn
      split at e
      · obtain ⟨a, vs, rfl, _, ha, rs⟩ := dr_lst R r1 hn
        obtain ⟨w, ew, rw'⟩ := rs.atI e
        rw [dr_int] at r2
        exact ix_list value slice pins s σ H _ y v u Q I rx ry ⟨a, vs, _, w, rfl, r2, SqL.of ha, ew, k w rw'⟩ hs
      · cases e
    · rename_i n kk kvs hn
      obtain ⟨key, e1, e2⟩ := Option.bind_eq_some_iff.mp e
      obtain ⟨a, ks, rfl, _, ha, rs⟩ := dr_dic R r1 hn
      obtain ⟨w, ew, rw'⟩ := rs.some_ e2
      obtain rfl := key_dr r2 e1
      have g : DGet H a (kV key) (some w) := by
        rw [← ew]
        exact DGet.k ha
      exact ix_dict hu value slice pins s σ H _ _ v u Q I rx ry ⟨a, w, rfl, g, k w rw'⟩ hs
    · cases e
  · cases e

/-! ### slices -/
def rSl (K : PySem.W.Frag) : V → Option Int → Option Int → Hp → VK → Prop := fun x lo hi H Q => ∃ ι h d d' h', DR K H ι d x ∧ HR K H ι h ∧ slcD d lo hi h = some (d', h') ∧
  ∀ v H' ι', Gr H ι H' ι' → DR K H' ι' d' v → HR K H' ι' h' → Q v H'
theorem cut_whole {α : Type} {xs : List α} {lo hi : Option Int} (h : sIx xs.length 0 lo = 0 ∧ sIx xs.length xs.length hi = xs.length) : cut xs lo hi = xs := by
  unfold cut
  rw [h.1, h.2, List.drop_zero, Nat.sub_zero, List.take_length]
theorem ok_slc : SlR X (rSl X.K) := by
  intro pins s σ H x v vl vu lo hi sl Q I rx hs pl pu q
  obtain ⟨ι, g, d, d', g', r, R, e, k⟩ := q
  unfold slcD at e
  split at e
  · obtain ⟨rfl, rfl⟩ := ret_some.mp e
    obtain ⟨a, vs, rfl, ha, rs⟩ := dr_tup.mp r
    refine sl_tupA pins s σ H _ v vl vu lo hi sl Q I rx hs pl pu ⟨a, vs, rfl, SqT.of ha, fun z => ?_, fun _ => fin_tup R rs.cut k⟩
    rw [← rs.len] at z
    rw [cut_whole z] at k
    exact fin_same R r k
  · cases e
    obtain ⟨a, vs, rfl, ha, rs⟩ := dr_fl.mp r
    exact sl_list pins s σ H _ v vl vu lo hi sl Q I rx hs pl pu ⟨a, vs, rfl, ha.seq, fin_lst R rs.cut k⟩
  · obtain ⟨xs, h1, e1, e⟩ := bnd_some.mp e
    obtain ⟨f1, rfl⟩ := rd_some.mp e1
    cases e
    obtain ⟨a, vs, rfl, _, ha, rs⟩ := dr_obj' R r f1
    exact sl_list pins s σ H _ v vl vu lo hi sl Q I rx hs pl pu ⟨a, vs, rfl, SqL.of ha, fin_lst R rs.cut k⟩
  · exact absurd e no_some

/-! ### truth -/
theorem tru_dr {K : PySem.W.Frag} {H : Hp} {ι : List Addr} {h : MH} {d : D} {v : V} {b : Bool} (R : HR K H ι h) (r : DR K H ι d v) (e : truD h d = some b) : TruV K v H b := by
  unfold truD at e
  split at e
  · cases e; rw [dr_non] at r; subst r; rfl
  · cases e; rw [dr_bl] at r; subst r; rfl
  · cases e; rw [dr_int] at r; subst r; rfl
  · split at e
    · rename_i c
      cases e
      rw [dr_str] at r
      subst r
      exact ⟨by rw [line_le]; exact c, rfl⟩
    · cases e
  · cases e
    obtain ⟨a, vs, rfl, ha, rs⟩ := dr_tup.mp r
    exact .inr (.inl ⟨vs, SqT.of ha, by rw [rs.isEmpty]⟩)
  · cases e
    obtain ⟨a, vs, rfl, ha, rs⟩ := dr_fl.mp r
    exact .inl ⟨vs, ha.seq, by rw [rs.isEmpty]⟩
  · split at e
    · rename_i hn
      cases e
      obtain ⟨a, vs, rfl, _, ha, rs⟩ := dr_lst R r hn
      exact .inl ⟨vs, SqL.of ha, by rw [rs.isEmpty]⟩
    · rename_i kvs hn
      cases e
      obtain ⟨a, ks, rfl, _, ha, rs⟩ := dr_dic R r hn
      refine .inr (.inr ⟨ks, ha, ?_⟩)
      have l := rs.len
      cases ks <;> cases kvs <;> first | rfl | cases l
    · cases e
end
end Mi

set_option maxHeartbeats 4000000
/-! MiOps3: built-ins by values. -/
namespace Mi
open PySem PySem.Spec PyProof.Rows L2

theorem ints_dr {K : PySem.W.Frag} {H : Hp} {ι : List Addr} : ∀ {ds : List D} {vs : List V} {ns : List Int}, DRs K H ι ds vs → intsOf ds = some ns → vs = ns.map V.int
  | [], _, _, r, e => by
    unfold DRs at r
    cases e
    exact r
  | d :: ds, _, ns, r, e => by
    obtain ⟨v, vs, rfl, r1, r2⟩ := r.uncons
    unfold intsOf at e
    split at e
    · rename_i h; cases h
    · rename_i i rr h
      cases h
      rw [Option.map_eq_some_iff] at e
      obtain ⟨ms, e1, rfl⟩ := e
      rw [dr_int] at r1
      rw [List.map_cons, r1, ints_dr r2 e1]
    · cases e
theorem strs_dr {K : PySem.W.Frag} {H : Hp} {ι : List Addr} : ∀ {ds : List D} {vs : List V} {ns : List Str}, DRs K H ι ds vs → strsOf ds = some ns → vs = ns.map V.str
  | [], _, _, r, e => by
    unfold DRs at r
    cases e
    exact r
  | d :: ds, _, ns, r, e => by
    obtain ⟨v, vs, rfl, r1, r2⟩ := r.uncons
    unfold strsOf at e
    split at e
    · rename_i h; cases h
    · rename_i i rr h
      cases h
      rw [Option.map_eq_some_iff] at e
      obtain ⟨ms, e1, rfl⟩ := e
      rw [dr_str] at r1
      rw [List.map_cons, r1, strs_dr r2 e1]
    · cases e
theorem dr_ints {K : PySem.W.Frag} {H : Hp} {ι : List Addr} : ∀ ns : List Int, DRs K H ι (ns.map D.int) (ns.map V.int)
  | [] => DRs.nil_
  | n :: ns => DRs.cons_ (dr_int.mpr rfl) (dr_ints ns)
theorem dr_strs {K : PySem.W.Frag} {H : Hp} {ι : List Addr} : ∀ ns : List Str, DRs K H ι (ns.map D.str) (ns.map V.str)
  | [] => DRs.nil_
  | n :: ns => DRs.cons_ (dr_str.mpr rfl) (dr_strs ns)

/-! ### least, greatest -/
theorem foldl_min_le : ∀ (xs : List Int) (i : Int), xs.foldl min i ≤ i ∧ (∀ x ∈ xs, xs.foldl min i ≤ x) ∧ (xs.foldl min i = i ∨ xs.foldl min i ∈ xs)
  | [], i => ⟨Int.le_refl _, fun x hx => (nomatch hx), .inl rfl⟩
  | x :: xs, i => by
    rw [List.foldl_cons]
    obtain ⟨h1, h2, h3⟩ := foldl_min_le xs (min i x)
    have m1 := Int.min_le_left i x
    have m2 := Int.min_le_right i x
    refine ⟨by omega, fun y hy => ?_, ?_⟩
    · rcases List.mem_cons.mp hy with rfl | hy
      · omega
      · exact h2 y hy
    · rcases h3 with h3 | h3
      · rw [h3]
        rcases Int.le_total i x with z | z
        · exact .inl (Int.min_eq_left z)
        · rw [Int.min_eq_right z]
          exact .inr (List.mem_cons_self ..)
      · exact .inr (List.mem_cons_of_mem _ h3)
theorem foldl_max_le : ∀ (xs : List Int) (i : Int), i ≤ xs.foldl max i ∧ (∀ x ∈ xs, x ≤ xs.foldl max i) ∧ (xs.foldl max i = i ∨ xs.foldl max i ∈ xs)
  | [], i => ⟨Int.le_refl _, fun x hx => (nomatch hx), .inl rfl⟩
  | x :: xs, i => by
    rw [List.foldl_cons]
    obtain ⟨h1, h2, h3⟩ := foldl_max_le xs (max i x)
    have m1 := Int.le_max_left i x
    have m2 := Int.le_max_right i x
    refine ⟨by omega, fun y hy => ?_, ?_⟩
    · rcases List.mem_cons.mp hy with rfl | hy
      · omega
      · exact h2 y hy
    · rcases h3 with h3 | h3
      · rw [h3]
        rcases Int.le_total i x with z | z
        · rw [Int.max_eq_right z]
          exact .inr (List.mem_cons_self ..)
        · exact .inl (Int.max_eq_left z)
      · exact .inr (List.mem_cons_of_mem _ h3)
theorem least_eq {xs : List Int} {i m : Int} (e : leastI xs = some i) (h1 : m ∈ xs) (h2 : ∀ x ∈ xs, m ≤ x) : m = i := by
  cases xs with
  | nil => cases e
  | cons x xs =>
    cases e
    obtain ⟨a1, a2, a3⟩ := foldl_min_le xs x
    have b1 : m ≤ xs.foldl min x := by
      rcases a3 with a3 | a3
      · rw [a3]; exact h2 x (List.mem_cons_self ..)
      · exact h2 _ (List.mem_cons_of_mem _ a3)
    have b2 : xs.foldl min x ≤ m := by
      rcases List.mem_cons.mp h1 with rfl | h1
      · exact a1
      · exact a2 m h1
    omega
theorem most_eq {xs : List Int} {i m : Int} (e : mostI xs = some i) (h1 : m ∈ xs) (h2 : ∀ x ∈ xs, x ≤ m) : m = i := by
  cases xs with
  | nil => cases e
  | cons x xs =>
    cases e
    obtain ⟨a1, a2, a3⟩ := foldl_max_le xs x
    have b1 : xs.foldl max x ≤ m := by
      rcases a3 with a3 | a3
      · rw [a3]; exact h2 x (List.mem_cons_self ..)
      · exact h2 _ (List.mem_cons_of_mem _ a3)
    have b2 : m ≤ xs.foldl max x := by
      rcases List.mem_cons.mp h1 with rfl | h1
      · exact a1
      · exact a2 m h1
    omega

/-! ### sorted -/
theorem sorted_ints_eq {ns ms : List Int} (p : ms.Perm ns) (s : ms.Pairwise (· ≤ ·)) : ms = ns.mergeSort fun a b => decide (a ≤ b) := by
  refine List.Perm.eq_of_pairwise (le := (· ≤ ·)) (fun a b _ _ h1 h2 => Int.le_antisymm h1 h2) s ?_ (p.trans (List.mergeSort_perm _ _).symm)
  refine (List.pairwise_mergeSort (fun a b c h1 h2 => ?_) (fun a b => ?_) ns).imp fun {a b} h => of_decide_eq_true h
  · exact decide_eq_true (Int.le_trans (of_decide_eq_true h1) (of_decide_eq_true h2))
  · rcases Int.le_total a b with h | h
    · rw [decide_eq_true h]; rfl
    · rw [decide_eq_true h, Bool.or_true]
theorem strLe_iff {a b : Str} : strLe a b = true ↔ a.cps.toList ≤ b.cps.toList := by
  unfold strLe
  rw [Bool.not_eq_true', decide_eq_false_iff_not, List.not_lt]
theorem strLe_trans (a b c : Str) (h1 : strLe a b = true) (h2 : strLe b c = true) : strLe a c = true :=
  strLe_iff.mpr (List.le_trans (strLe_iff.mp h1) (strLe_iff.mp h2))
theorem strLe_total (a b : Str) : (strLe a b || strLe b a) = true := by
  rcases List.le_total a.cps.toList b.cps.toList with h | h
  · rw [strLe_iff.mpr h]; rfl
  · rw [strLe_iff.mpr h, Bool.or_true]
theorem strLe_anti {a b : Str} (h1 : strLe a b = true) (h2 : strLe b a = true) : a = b := by
  have e := List.le_antisymm (strLe_iff.mp h1) (strLe_iff.mp h2)
  cases a
  cases b
  simp only [Str.mk.injEq]
  exact Array.toList_inj.mp e
theorem rising_le : ∀ {ss : List Str} {x : Str}, risingS x ss = true → (x :: ss).Pairwise fun a b => strLe a b = true
  | [], x, _ => List.pairwise_singleton _ _
  | y :: ss, x, h => by
    unfold risingS at h
    rw [Bool.and_eq_true] at h
    have ih := rising_le h.2
    have xy : strLe x y = true := by
      have q := h.1
      rw [ltCps_eq] at q
      unfold strLe
      exact q
    refine List.pairwise_cons.mpr ⟨fun z hz => ?_, ih⟩
    rcases List.mem_cons.mp hz with rfl | hz
    · exact xy
    · exact strLe_trans _ _ _ xy ((List.pairwise_cons.mp ih).1 z hz)
theorem sorted_strs_eq {ns ms : List Str} (p : ms.Perm ns) (s : sortedS ms = true) : ms = ns.mergeSort strLe := by
  refine List.Perm.eq_of_pairwise (le := fun a b => strLe a b = true) (fun a b _ _ h1 h2 => strLe_anti h1 h2) ?_ (List.pairwise_mergeSort strLe_trans strLe_total ns) (p.trans (List.mergeSort_perm _ _).symm)
  cases ms with
  | nil => exact List.Pairwise.nil
  | cons x r => exact rising_le s

section
variable {X : Cx}
theorem call_sortedS : CallR X (.builtin "sorted") (fun vs H Q => ∃ (a : Addr) (xs : List Str), vs = [V.ref a] ∧ SqL X.K H a (xs.map V.str) ∧ ∀ (p : Addr), H p = none → Q (.ref p) (upd H p (.lst ((xs.mergeSort strLe).map V.str)))) := by
  intro pins s σ H vs us Q I r q
  obtain ⟨a, xs, rfl, hs, q⟩ := q
  obtain ⟨its, rv, hl, hz⟩ := I.list hs
  rw [Vals.ref1 r]
  refine sorted_strsAny hl.isList rv.strs (by rw [← rv.length]; exact hz) fun out ys h1 h2 h3 => ?_
  obtain ⟨ep, he'⟩ := sortedAll_at s.heap its out
  obtain rfl := sorted_strs_eq h2 h3
  have hlen : ((xs.mergeSort strLe).map V.str).length ≤ sizeLine := by
    rw [List.length_map, h2.length_eq]
    rw [List.length_map] at hz
    exact hz
  exact ⟨.ref _, upd H (s.heap.objs.size + 1) (.lst ((xs.mergeSort strLe).map V.str)), I.laid (t' := s.toks) (fun _ _ => sortedAll_old) (Nat.le_succ _) ⟨hlen, out.toList, ep, vals_of_strs h1, he'⟩, rfl, q _ (I.hok.fresh (Nat.le_succ _))⟩

def rBl (K : PySem.W.Frag) (b : Blt) : List V → Hp → VK → Prop := fun vs H Q => ∃ ι h ds d h', DRs K H ι ds vs ∧ HR K H ι h ∧ bltD b ds h = some (d, h') ∧ ∀ v H' ι', Gr H ι H' ι' → DR K H' ι' d v → HR K H' ι' h' → Q v H'
/-- the built-in's value -/
def bltVal : Blt → Value
  | .len => .builtin "len" | .abs => .builtin "abs" | .int => .type "int" | .str => .type "str" | .list => .type "list" | .tuple => .type "tuple"
  | .sum => .builtin "sum" | .sorted => .builtin "sorted" | .min2 => .builtin "min" | .max2 => .builtin "max" | .min1 => .builtin "min" | .max1 => .builtin "max"
theorem one_dr {K : PySem.W.Frag} {H : Hp} {ι : List Addr} {d : D} {vs : List V} (r : DRs K H ι [d] vs) : ∃ v, vs = [v] ∧ DR K H ι d v := by
  obtain ⟨v, ws, rfl, r1, r2⟩ := r.uncons
  unfold DRs at r2
  subst r2
  exact ⟨v, rfl, r1⟩
theorem two_dr {K : PySem.W.Frag} {H : Hp} {ι : List Addr} {d e : D} {vs : List V} (r : DRs K H ι [d, e] vs) : ∃ v w, vs = [v, w] ∧ DR K H ι d v ∧ DR K H ι e w := by
  obtain ⟨v, ws, rfl, r1, r2⟩ := r.uncons
  obtain ⟨w, rfl, r3⟩ := one_dr r2
  exact ⟨v, w, rfl, r1, r3⟩
theorem seq_dr {K : PySem.W.Frag} {H : Hp} {ι : List Addr} {h : MH} {d : D} {v : V} {xs : List D} (R : HR K H ι h) (r : DR K H ι d v) (e : seqOf h d = some xs) : ∃ a vs, v = .ref a ∧ (SqL K H a vs ∨ SqT K H a vs) ∧ DRs K H ι xs vs := by
  unfold seqOf at e
  split at e
  · cases e
    obtain ⟨a, vs, rfl, ha, rs⟩ := dr_tup.mp r
    exact ⟨a, vs, rfl, .inr (SqT.of ha), rs⟩
  · cases e
    obtain ⟨a, vs, rfl, ha, rs⟩ := dr_fl.mp r
    exact ⟨a, vs, rfl, .inl ha.seq, rs⟩
  · obtain ⟨a, vs, rfl, _, ha, rs⟩ := dr_obj' R r e
    exact ⟨a, vs, rfl, .inl (SqL.of ha), rs⟩
  · cases e
theorem ok_blt (hc : X.calm = true) (b : Blt) : CallR X (bltVal b) (rBl X.K b) := by
  intro pins s σ H xs us Q I rx q
  obtain ⟨ι, g, ds, d, g', r, R, e, k⟩ := q
  unfold bltD at e
  split at e
  · obtain ⟨n, h1, e1, e⟩ := bnd_some.mp e
    obtain ⟨f1, rfl⟩ := rd_some.mp e1
    obtain ⟨rfl, rfl⟩ := ret_some.mp e
    obtain ⟨v, rfl, r1⟩ := one_dr r
    unfold lenD at f1
    split at f1
    · split at f1
      · rename_i c
        cases f1
        rw [dr_str] at r1
        exact call_len_str pins s σ H _ us Q I rx ⟨_, by rw [r1], by rw [line_le]; exact c, fin_same R (dr_int.mpr rfl) k⟩
      · cases f1
    · split at f1
      · rename_i hn
        cases f1
        obtain ⟨a, vs, rfl, _, ha, rs⟩ := dr_lst R r1 hn
        exact call_len_seq pins s σ H _ us Q I rx ⟨a, vs, rfl, .inl (SqL.of ha), fin_same R (dr_int.mpr (by rw [rs.len])) k⟩
      · rename_i kvs hn
        cases f1
        obtain ⟨a, ks, rfl, _, ha, rs⟩ := dr_dic R r1 hn
        rw [Vals.ref1 rx]
        exact d_len I (.inl ha) fun t s' I' => ⟨.int (ks.length : Nat), H, I', ⟨t, rfl⟩, fin_same R (dr_int.mpr (by rw [rs.len])) k⟩
      · cases f1
    · rw [Option.map_eq_some_iff] at f1
      obtain ⟨ys, f2, rfl⟩ := f1
      obtain ⟨a, vs, rfl, ha, rs⟩ := seq_dr R r1 f2
      exact call_len_seq pins s σ H _ us Q I rx ⟨a, vs, rfl, ha, fin_same R (dr_int.mpr (by rw [rs.len])) k⟩
  · obtain ⟨rfl, rfl⟩ := ret_some.mp e
    obtain ⟨v, rfl, r1⟩ := one_dr r
    rw [dr_int] at r1
    exact call_abs pins s σ H _ us Q I rx ⟨_, by rw [r1], fin_same R (dr_int.mpr rfl) k⟩
  · obtain ⟨rfl, rfl⟩ := ret_some.mp e
    obtain ⟨v, rfl, r1⟩ := one_dr r
    rw [dr_int] at r1
    exact call_int1 pins s σ H _ us Q I rx (.inl ⟨_, by rw [r1], fin_same R (dr_int.mpr rfl) k⟩)
  · obtain ⟨rfl, rfl⟩ := ret_some.mp e
    obtain ⟨v, rfl, r1⟩ := one_dr r
    rw [dr_bl] at r1
    exact call_int1 pins s σ H _ us Q I rx (.inr ⟨_, by rw [r1], fin_same R (dr_int.mpr rfl) k⟩)
  · split at e
    · rename_i c
      obtain ⟨rfl, rfl⟩ := ret_some.mp e
      obtain ⟨v, rfl, r1⟩ := one_dr r
      rw [dr_int] at r1
      exact call_str_int pins s σ H _ us Q I rx ⟨_, by rw [r1], c, fin_same R (dr_str.mpr rfl) k⟩
    · exact absurd e no_some
  · obtain ⟨ys, h1, e1, e⟩ := bnd_some.mp e
    obtain ⟨f1, rfl⟩ := rd_some.mp e1
    cases e
    obtain ⟨v, rfl, r1⟩ := one_dr r
    obtain ⟨a, vs, rfl, ha, rs⟩ := seq_dr R r1 f1
    exact call_list_of pins s σ H _ us Q I rx ⟨a, vs, rfl, ha, fin_lst R rs k⟩
  · obtain ⟨rfl, rfl⟩ := ret_some.mp e
    obtain ⟨v, rfl, r1⟩ := one_dr r
    obtain ⟨a, vs, rfl, ha, rs⟩ := dr_tup.mp r1
    exact call_tuple_of pins s σ H _ us Q I rx ⟨a, vs, rfl, .inr ⟨SqT.of ha, fin_same R r1 k⟩⟩
  · obtain ⟨ys, h1, e1, e⟩ := bnd_some.mp e
    obtain ⟨f1, rfl⟩ := rd_some.mp e1
    obtain ⟨rfl, rfl⟩ := ret_some.mp e
    obtain ⟨v, rfl, r1⟩ := one_dr r
    obtain ⟨a, vs, rfl, _, ha, rs⟩ := dr_obj' R r1 f1
    exact call_tuple_of pins s σ H _ us Q I rx ⟨a, vs, rfl, .inl ⟨SqL.of ha, fin_tup R rs k⟩⟩
  · obtain ⟨ys, h1, e1, e⟩ := bnd_some.mp e
    obtain ⟨f1, rfl⟩ := rd_some.mp e1
    obtain ⟨rfl, rfl⟩ := ret_some.mp e
    obtain ⟨v, rfl, r1⟩ := one_dr r
    obtain ⟨zs, f2, f3⟩ := Option.bind_eq_some_iff.mp f1
    obtain ⟨a, vs, rfl, _, ha, rs⟩ := dr_obj' R r1 f2
    have ev := ints_dr rs f3
    subst ev
    exact cr_sum hc pins s σ H _ us Q I rx ⟨a, ys, rfl, SqL.of ha, fin_same R (dr_int.mpr rfl) k⟩
  · obtain ⟨ys, h1, e1, e⟩ := bnd_some.mp e
    obtain ⟨f1, rfl⟩ := rd_some.mp e1
    cases e
    obtain ⟨v, rfl, r1⟩ := one_dr r
    obtain ⟨zs, f2, f3⟩ := Option.bind_eq_some_iff.mp f1
    obtain ⟨a, vs, rfl, _, ha, rs⟩ := dr_obj' R r1 f2
    unfold sortD at f3
    split at f3
    · rename_i ns hns
      cases f3
      have ev := ints_dr rs hns
      subst ev
      refine cr_sortedI pins s σ H _ us Q I rx ⟨a, ns, rfl, SqL.of ha, fun ns' p h1 h2 np => ?_⟩
      obtain rfl := sorted_ints_eq h1 h2
      exact fin_lst R (dr_ints _) k p np
    · split at f3
      · rename_i ns hns
        cases f3
        have ev := strs_dr rs hns
        subst ev
        exact call_sortedS pins s σ H _ us Q I rx ⟨a, ns, rfl, SqL.of ha, fin_lst R (dr_strs _) k⟩
      · cases f3
  · obtain ⟨rfl, rfl⟩ := ret_some.mp e
    obtain ⟨v, w, rfl, r1, r2⟩ := two_dr r
    rw [dr_int] at r1 r2
    exact call_min2 hc pins s σ H _ us Q I rx ⟨_, _, by rw [r1, r2], fin_same R (dr_int.mpr rfl) k⟩
  · obtain ⟨rfl, rfl⟩ := ret_some.mp e
    obtain ⟨v, w, rfl, r1, r2⟩ := two_dr r
    rw [dr_int] at r1 r2
    exact call_max2 hc pins s σ H _ us Q I rx ⟨_, _, by rw [r1, r2], fin_same R (dr_int.mpr rfl) k⟩
  · obtain ⟨i, h1, e1, e⟩ := bnd_some.mp e
    obtain ⟨f1, rfl⟩ := rd_some.mp e1
    obtain ⟨rfl, rfl⟩ := ret_some.mp e
    obtain ⟨v, rfl, r1⟩ := one_dr r
    obtain ⟨zs, f2, f3⟩ := Option.bind_eq_some_iff.mp f1
    obtain ⟨ys, f4, f5⟩ := Option.bind_eq_some_iff.mp f2
    obtain ⟨a, vs, rfl, _, ha, rs⟩ := dr_obj' R r1 f4
    have ev := ints_dr rs f5
    subst ev
    refine cr_min hc pins s σ H _ us Q I rx ⟨a, zs, rfl, SqL.of ha, ?_, fun m h1 h2 => ?_⟩
    · cases zs with
      | nil => cases f3
      | cons z zs => exact Nat.succ_pos _
    · obtain rfl := least_eq f3 h1 h2
      exact fin_same R (dr_int.mpr rfl) k
  · obtain ⟨i, h1, e1, e⟩ := bnd_some.mp e
    obtain ⟨f1, rfl⟩ := rd_some.mp e1
    obtain ⟨rfl, rfl⟩ := ret_some.mp e
    obtain ⟨v, rfl, r1⟩ := one_dr r
    obtain ⟨zs, f2, f3⟩ := Option.bind_eq_some_iff.mp f1
    obtain ⟨ys, f4, f5⟩ := Option.bind_eq_some_iff.mp f2
    obtain ⟨a, vs, rfl, _, ha, rs⟩ := dr_obj' R r1 f4
    have ev := ints_dr rs f5
    subst ev
    refine cr_max hc pins s σ H _ us Q I rx ⟨a, zs, rfl, SqL.of ha, ?_, fun m h1 h2 => ?_⟩
    · cases zs with
      | nil => cases f3
      | cons z zs => exact Nat.succ_pos _
    · obtain rfl := most_eq f3 h1 h2
      exact fin_same R (dr_int.mpr rfl) k
  · exact absurd e no_some

/-! ### isinstance -/
def tyName : Ty → String
  | .int => "int" | .bool => "bool" | .str => "str" | .tuple => "tuple" | .list => "list" | .dict => "dict"
def rTy (K : PySem.W.Frag) (t : Ty) : List V → Hp → VK → Prop := fun vs H Q => ∃ ι h d v b, vs = [v, .ty (tyName t)] ∧ DR K H ι d v ∧ HR K H ι h ∧ isinD t d h = some b ∧ Q (.bl b) H
theorem ok_isin (t : Ty) : CallR X (.builtin "isinstance") (rTy X.K t) := by
  intro pins s σ H xs us Q I rx q
  obtain ⟨ι, g, d, v, b, rfl, r, R, e, k⟩ := q
  have go : ∀ (T : String) (w : V) (bb : Bool), v = w → TyOf X.K H w (.type T) → kitB T (tyName t) = some bb → b = bb → wpAny (model X.prog X.w) X.A (call (.builtin "isinstance") us) (EP X pins σ Q) X.xe s := fun T w bb e1 e2 e3 e4 => by
    subst e1 e4
    exact call_isi pins s σ H _ us Q I rx ⟨v, .ty (tyName t), .type T, .type (tyName t), b, rfl, .ty _, .base e2, kit_ty e3, k⟩
  unfold isinD at e
  split at e
  · cases e
    exact go "NoneType" .non false (dr_non.mp r) .non (by cases t <;> decide +kernel) rfl
  · rename_i bb
    cases e
    exact go "bool" (.bl bb) _ (dr_bl.mp r) (.bl bb) (by cases t <;> decide +kernel) rfl
  · rename_i ii
    cases e
    exact go "int" (.int ii) _ (dr_int.mp r) (.int ii) (by cases t <;> decide +kernel) rfl
  · rename_i xx
    cases e
    exact go "str" (.str xx) _ (dr_str.mp r) (.str xx) (by cases t <;> decide +kernel) rfl
  · cases e
    obtain ⟨a, vs, rfl, ha, rs⟩ := dr_tup.mp r
    exact go "tuple" _ _ rfl (.tup ha) (by cases t <;> decide +kernel) rfl
  · cases e
  · split at e
    · rename_i hn
      cases e
      obtain ⟨a, vs, rfl, _, ha, rs⟩ := dr_lst R r hn
      exact go "list" _ _ rfl (.lst ha) (by cases t <;> decide +kernel) rfl
    · rename_i hn
      cases e
      obtain ⟨a, ks, rfl, _, ha, rs⟩ := dr_dic R r hn
      exact go "dict" _ _ rfl (.dK ha) (by cases t <;> decide +kernel) rfl
    · cases e

/-! ### o.append(e), o[i] = e -/
def rApp (K : PySem.W.Frag) : V → List V → Hp → VK → Prop := fun x vs H Q => ∃ ι h d1 d2 y h', vs = [y] ∧ DR K H ι d1 x ∧ DR K H ι d2 y ∧ HR K H ι h ∧ appD d1 d2 h = some ((), h') ∧
  ∀ v H' ι', Gr H ι H' ι' → DR K H' ι' .non v → HR K H' ι' h' → Q v H'
theorem app_some {o v : D} {h h' : MH} (e : appD o v h = some ((), h')) : ∃ n xs, o = .obj n ∧ h[n]? = some (.lst xs) ∧ xs.length < LINE ∧ h' = h.set n (.lst (xs ++ [v])) := by
  cases o with
  | obj n =>
    unfold appD at e
    dsimp only at e
    split at e
    · rename_i xs hn
      split at e
      · rename_i c
        cases e
        exact ⟨n, xs, rfl, hn, c, rfl⟩
      · cases e
    · cases e
  | _ => cases e
theorem ok_app : MtM X "list.append" (rApp X.K) := by
  intro pins s σ H x xs v us Q I rx rs q
  obtain ⟨ι, g, d1, d2, y, g', rfl, r1, r2, R, e, k⟩ := q
  obtain ⟨n, ys, rfl, hn, c, rfl⟩ := app_some e
  obtain ⟨a, vs, rfl, ea, ha, rr⟩ := dr_lst R r1 hn
  have f := R.put (o := .lst (vs ++ [y])) (mo := .lst (ys ++ [d2])) ea fun H' ι' gr e' => ⟨_, e', (rr.snoc_ r2).mono gr⟩
  exact mt_append pins s σ H _ _ v us Q I rx rs ⟨a, vs, y, rfl, rfl, ha, by rw [line_le, ← rr.len]; exact c, k _ _ ι f.1 (dr_non.mpr rfl) f.2⟩
def rPut (K : PySem.W.Frag) : V → V → V → Hp → (Hp → Prop) → Prop := fun o i v H Q => ∃ ι h d1 d2 d3 h', DR K H ι d1 o ∧ DR K H ι d2 i ∧ DR K H ι d3 v ∧ HR K H ι h ∧ putD d1 d2 d3 h = some ((), h') ∧
  ∀ H' ι', Gr H ι H' ι' → HR K H' ι' h' → Q H'
theorem put_some {o i v : D} {h h' : MH} (e : putD o i v h = some ((), h')) : ∃ n, o = .obj n ∧ ((∃ xs k j, h[n]? = some (.lst xs) ∧ i = .int k ∧ Mi.ixN xs.length k = some j ∧ h' = h.set n (.lst (xs.set j v))) ∨
    ∃ kvs k, h[n]? = some (.dic kvs) ∧ keyOf i = some k ∧ kvs.length < LINE ∧ h' = h.set n (.dic (kput kvs k v))) := by
  cases o with
  | obj n =>
    refine ⟨n, rfl, ?_⟩
    unfold putD at e
    dsimp only at e
    split at e
    · rename_i xs hn
      split at e
      · rename_i k
        split at e
        · rename_i j hj
          cases e
          exact .inl ⟨xs, k, j, hn, rfl, hj, rfl⟩
        · cases e
      · cases e
    · rename_i kvs hn
      split at e
      · rename_i k hk
        split at e
        · rename_i c
          cases e
          exact .inr ⟨kvs, k, hn, hk, c, rfl⟩
        · cases e
      · cases e
    · cases e
  | _ => cases e
theorem ok_put (hu : X.A.units + 64 < cLine) : PSet X (rPut X.K) := by
  intro pins s σ H o i v ov iv u Q I ro ri rv q
  obtain ⟨ι, g, d1, d2, d3, g', r1, r2, r3, R, e, k⟩ := q
  obtain ⟨n, rfl, e | e⟩ := put_some e
  · obtain ⟨xs, kk, j, hn, rfl, hj, rfl⟩ := e
    obtain ⟨a, vs, rfl, ea, ha, rr⟩ := dr_lst R r1 hn
    rw [dr_int] at r2
    subst r2
    have f := R.put (o := .lst (vs.set j v)) (mo := .lst (xs.set j d3)) ea fun H' ι' gr e' => ⟨_, e', (rr.set j r3).mono gr⟩
    refine set_list pins s σ H _ _ v ov iv u Q I ro ri rv ⟨a, vs, kk, j, rfl, rfl, ha, ?_, k _ ι f.1 f.2⟩
    rw [← rr.len]
    exact hj
  · obtain ⟨kvs, kk, hn, hk, c, rfl⟩ := e
    obtain ⟨a, ks, rfl, ea, ha, rr⟩ := dr_dic R r1 hn
    obtain rfl := key_dr r2 hk
    have f := R.put (o := .dK (putK ks kk v)) (mo := .dic (kput kvs kk d3)) ea fun H' ι' gr e' => ⟨_, e', (rr.put kk r3).mono gr⟩
    obtain rfl : ov = Value.ref a := ro
    exact d_setItem (by omega) I (DPut.k (k := kk) (v := v) ha (by rw [line_le, ← rr.len]; exact c)) ri rv fun s' I' => ⟨_, I', k _ ι f.1 f.2⟩
end
end Mi

set_option maxHeartbeats 4000000
/-! MiExp: the expressions, construct by construct. -/
namespace Mi
open PySem PySem.Spec PyProof.Rows L2

section
variable {X : Cx} {a b cc : PySem.Expr} {ma mb mc : Env → M D} {pos p p2 p3 : PySem.Pos} {G : Ga}
theorem k_var {i : Nat} {x : Str} (hN : X.N[i]? = some x) (hv : Vis X.env.scope x) (hd : (x == ("__debug__" : Str)) = false) (hcd : (x == ("__classdict__" : Str)) = false) :
    PE X (.Name x pos) (tE X.K fun env => evE G (.var i) env) := by
  refine PE.imp (pe_var hN hv hd hcd) fun σ H Q q => ?_
  obtain ⟨ι, h, env, d, h', E, R, e, k⟩ := q
  replace e : evE G (.var i) env h = some (d, h') := e
  unfold evE at e
  cases q : env[i]? with
  | none => rw [q] at e; exact absurd e no_some
  | some o =>
    cases o with
    | none => rw [q] at e; exact absurd e no_some
    | some d' =>
      rw [q] at e
      obtain ⟨rfl, rfl⟩ := ret_some.mp e
      obtain ⟨v, hv, r⟩ := E.2 i _ q
      exact ⟨v, hv, fin_same R r k⟩
theorem k_cst {d : D} {v : V} (h : PE X a (tC v)) (r : ∀ H ι, DR X.K H ι d v) : PE X a (tE X.K fun env => evE G (.cst d) env) := by
  refine PE.imp h fun σ H Q q => ?_
  obtain ⟨ι, h, env, d', h', E, R, e, k⟩ := q
  unfold evE at e
  obtain ⟨rfl, rfl⟩ := ret_some.mp e
  exact fin_same R (r H ι) k
theorem k_bin {op : BOp} (ha : PE X a (tE X.K ma)) (hb : PE X b (tE X.K mb)) : PE X (.BinOp a (opOf op) b pos) (tE X.K fun env => M.bnd (ma env) fun x => M.bnd (mb env) fun y => binD op x y) := by
  refine PE.imp (pe_op (ok_bin op) ha hb) fun σ H Q q => ?_
  obtain ⟨ι, h, env, d, h', E, R, e, k⟩ := q
  obtain ⟨x, h1, e1, e⟩ := bnd_some.mp e
  obtain ⟨y, h2, e2, e⟩ := bnd_some.mp e
  exact ⟨ι, h, env, x, h1, E, R, e1, fun v1 H1 ι1 g1 r1 R1 => ⟨ι1, h1, env, y, h2, E.mono g1, R1, e2, fun v2 H2 ι2 g2 r2 R2 => ⟨ι2, h2, x, y, d, h', r1.mono g2, r2, R2, e, fun v3 H3 ι3 g3 r3 R3 =>
    k v3 H3 ι3 (g1.trans (g2.trans g3)) r3 R3⟩⟩⟩
theorem k_neg (ha : PE X a (tE X.K ma)) : PE X (.UnaryOp .USub a pos) (tE X.K fun env => M.bnd (ma env) fun x => match x with
    | .int i => M.ret (.int (-i))
    | _ => M.no) := by
  refine PE.imp (pe_un un_neg ha) fun σ H Q q => ?_
  obtain ⟨ι, h, env, d, h', E, R, e, k⟩ := q
  obtain ⟨x, h1, e1, e⟩ := bnd_some.mp e
  split at e
  · obtain ⟨rfl, rfl⟩ := ret_some.mp e
    exact ⟨ι, h, env, _, h1, E, R, e1, fun v1 H1 ι1 g1 r1 R1 => ⟨_, dr_int.mp r1, k _ H1 ι1 g1 (dr_int.mpr rfl) R1⟩⟩
  · exact absurd e no_some
theorem rB2_of {K : PySem.W.Frag} {f : D → D → MH → Option Bool} {H : Hp} {ι : List Addr} {h : MH} {d1 d2 : D} {x y : V} {c : Bool} {Q : VK} (r1 : DR K H ι d1 x) (r2 : DR K H ι d2 y) (R : HR K H ι h) (e : f d1 d2 h = some c) (q : Q (.bl c) H) :
    rB2 K f x y H Q := ⟨ι, h, d1, d2, c, r1, r2, R, e, q⟩
theorem k_cmp (hu : X.A.units + 64 < cLine) {op : COp} (ha : PE X a (tE X.K ma)) (hb : PE X b (tE X.K mb)) (hm : behindInMarks (copOf op) b = false) :
    PE X (.Compare a [copOf op] [b] pos) (tE X.K fun env => M.bnd (ma env) fun x => M.bnd (mb env) fun y => M.bnd (M.rd (cmpD op x y)) fun r => M.ret (.bl r)) := by
  refine PE.imp (pe_cmpR (ok_cmp hu op) ha hb hm) fun σ H Q q => ?_
  obtain ⟨ι, h, env, d, h', E, R, e, k⟩ := q
  obtain ⟨x, h1, e1, e⟩ := bnd_some.mp e
  obtain ⟨y, h2, e2, e⟩ := bnd_some.mp e
  obtain ⟨c, h3, e3, e⟩ := bnd_some.mp e
  obtain ⟨e4, rfl⟩ := rd_some.mp e3
  obtain ⟨rfl, rfl⟩ := ret_some.mp e
  exact ⟨ι, h, env, x, h1, E, R, e1, fun v1 H1 ι1 g1 r1 R1 => ⟨ι1, h1, env, y, h2, E.mono g1, R1, e2, fun v2 H2 ι2 g2 r2 R2 => rB2_of (r1.mono g2) r2 R2 e4 (k _ H2 ι2 (g1.trans g2) (dr_bl.mpr rfl) R2)⟩⟩
theorem kt_cmp (hu : X.A.units + 64 < cLine) {op : COp} (ha : PE X a (tE X.K ma)) (hb : PE X b (tE X.K mb)) (hm : behindInMarks (copOf op) b = false) :
    PT X (.Compare a [copOf op] [b] pos) (tT X.K fun env => M.bnd (ma env) fun x => M.bnd (mb env) fun y => M.rd (cmpD op x y)) := by
  refine PT.imp (pt_cmpR (ok_cmp hu op) ha hb hm) fun σ H Q q => ?_
  obtain ⟨ι, h, env, d, h', E, R, e, k⟩ := q
  obtain ⟨x, h1, e1, e⟩ := bnd_some.mp e
  obtain ⟨y, h2, e2, e⟩ := bnd_some.mp e
  obtain ⟨e4, rfl⟩ := rd_some.mp e
  exact ⟨ι, h, env, x, h1, E, R, e1, fun v1 H1 ι1 g1 r1 R1 => ⟨ι1, h1, env, y, _, E.mono g1, R1, e2, fun v2 H2 ι2 g2 r2 R2 => rB2_of (r1.mono g2) r2 R2 e4 ⟨_, rfl, k H2 ι2 (g1.trans g2) R2⟩⟩⟩
theorem k_chn (hu : X.A.units + 64 < cLine) {op op' : COp} (ha : PE X a (tE X.K ma)) (hb : PE X b (tE X.K mb)) (hc : PE X cc (tE X.K mc)) (hm : lastMarks [copOf op, copOf op'] [b, cc] = false) :
    PE X (.Compare a [copOf op, copOf op'] [b, cc] pos) (tE X.K fun env => M.bnd (ma env) fun x => M.bnd (mb env) fun y => M.bnd (M.rd (cmpD op x y)) fun r =>
      if r then M.bnd (mc env) fun z => M.bnd (M.rd (cmpD op' y z)) fun r => M.ret (.bl r) else M.ret (.bl false)) := by
  refine PE.imp (pe_chain (ok_cmp hu op) (ok_cmp hu op') ha hb hc hm) fun σ H Q q => ?_
  obtain ⟨ι, h, env, d, h', E, R, e, k⟩ := q
  obtain ⟨x, h1, e1, e⟩ := bnd_some.mp e
  obtain ⟨y, h2, e2, e⟩ := bnd_some.mp e
  obtain ⟨c, h3, e3, e⟩ := bnd_some.mp e
  obtain ⟨e4, rfl⟩ := rd_some.mp e3
  refine ⟨ι, h, env, x, h1, E, R, e1, fun v1 H1 ι1 g1 r1 R1 => ⟨ι1, h1, env, y, _, E.mono g1, R1, e2, fun v2 H2 ι2 g2 r2 R2 => rB2_of (r1.mono g2) r2 R2 e4 ⟨c, rfl, ?_⟩⟩⟩
  cases c with
  | true =>
    rw [if_pos rfl] at e ⊢
    obtain ⟨z, h4, e5, e⟩ := bnd_some.mp e
    obtain ⟨c', h5, e6, e⟩ := bnd_some.mp e
    obtain ⟨e7, rfl⟩ := rd_some.mp e6
    obtain ⟨rfl, rfl⟩ := ret_some.mp e
    exact ⟨ι2, h2, env, z, _, E.mono (g1.trans g2), R2, e5, fun v3 H3 ι3 g3 r3 R3 => rB2_of (r2.mono g3) r3 R3 e7 (k _ H3 ι3 (g1.trans (g2.trans g3)) (dr_bl.mpr rfl) R3)⟩
  | false =>
    rw [if_neg Bool.false_ne_true] at e ⊢
    obtain ⟨rfl, rfl⟩ := ret_some.mp e
    exact k _ H2 ι2 (g1.trans g2) (dr_bl.mpr rfl) R2
theorem kt_chn (hu : X.A.units + 64 < cLine) {op op' : COp} (ha : PE X a (tE X.K ma)) (hb : PE X b (tE X.K mb)) (hc : PE X cc (tE X.K mc)) (hm : lastMarks [copOf op, copOf op'] [b, cc] = false) :
    PT X (.Compare a [copOf op, copOf op'] [b, cc] pos) (tT X.K fun env => M.bnd (ma env) fun x => M.bnd (mb env) fun y => M.bnd (M.rd (cmpD op x y)) fun r =>
      if r then M.bnd (mc env) fun z => M.rd (cmpD op' y z) else M.ret false) := by
  refine PT.imp (pt_chain (ok_cmp hu op) (ok_cmp hu op') ha hb hc hm) fun σ H Q q => ?_
  obtain ⟨ι, h, env, d, h', E, R, e, k⟩ := q
  obtain ⟨x, h1, e1, e⟩ := bnd_some.mp e
  obtain ⟨y, h2, e2, e⟩ := bnd_some.mp e
  obtain ⟨c, h3, e3, e⟩ := bnd_some.mp e
  obtain ⟨e4, rfl⟩ := rd_some.mp e3
  refine ⟨ι, h, env, x, h1, E, R, e1, fun v1 H1 ι1 g1 r1 R1 => ⟨ι1, h1, env, y, _, E.mono g1, R1, e2, fun v2 H2 ι2 g2 r2 R2 => rB2_of (r1.mono g2) r2 R2 e4 ⟨c, rfl, ?_⟩⟩⟩
  cases c with
  | true =>
    rw [if_pos rfl] at e ⊢
    obtain ⟨z, h4, e5, e⟩ := bnd_some.mp e
    obtain ⟨e7, rfl⟩ := rd_some.mp e
    exact ⟨ι2, h2, env, z, _, E.mono (g1.trans g2), R2, e5, fun v3 H3 ι3 g3 r3 R3 => rB2_of (r2.mono g3) r3 R3 e7 ⟨_, rfl, k H3 ι3 (g1.trans (g2.trans g3)) R3⟩⟩
  | false =>
    rw [if_neg Bool.false_ne_true] at e ⊢
    obtain ⟨rfl, rfl⟩ := ret_some.mp e
    exact ⟨false, rfl, k H2 ι2 (g1.trans g2) R2⟩

/-! ### and, or, not -/
variable {rest : List PySem.Expr}
theorem k_and (ha : PE X a (tE X.K ma)) (hb : PE X (.BoolOp .And (b :: rest) pos) (tE X.K mb)) : PE X (.BoolOp .And (a :: b :: rest) pos) (tE X.K fun env => M.bnd (ma env) fun x => M.bnd (M.rd fun h => truD h x) fun k => if k then mb env else M.ret x) := by
  refine PE.imp (pe_andT ha hb) fun σ H Q q => ?_
  obtain ⟨ι, h, env, d, h', E, R, e, k⟩ := q
  obtain ⟨x, h1, e1, e⟩ := bnd_some.mp e
  obtain ⟨c, h3, e3, e⟩ := bnd_some.mp e
  obtain ⟨e4, rfl⟩ := rd_some.mp e3
  refine ⟨ι, h, env, x, h1, E, R, e1, fun v1 H1 ι1 g1 r1 R1 => ⟨c, tru_dr R1 r1 e4, ?_⟩⟩
  cases c with
  | true =>
    rw [if_pos rfl] at e ⊢
    exact ⟨ι1, h1, env, d, h', E.mono g1, R1, e, fun v2 H2 ι2 g2 r2 R2 => k v2 H2 ι2 (g1.trans g2) r2 R2⟩
  | false =>
    rw [if_neg Bool.false_ne_true] at e ⊢
    obtain ⟨rfl, rfl⟩ := ret_some.mp e
    exact k _ H1 ι1 g1 r1 R1
theorem k_or (ha : PE X a (tE X.K ma)) (hb : PE X (.BoolOp .Or (b :: rest) pos) (tE X.K mb)) : PE X (.BoolOp .Or (a :: b :: rest) pos) (tE X.K fun env => M.bnd (ma env) fun x => M.bnd (M.rd fun h => truD h x) fun k => if k then M.ret x else mb env) := by
  refine PE.imp (pe_orT ha hb) fun σ H Q q => ?_
  obtain ⟨ι, h, env, d, h', E, R, e, k⟩ := q
  obtain ⟨x, h1, e1, e⟩ := bnd_some.mp e
  obtain ⟨c, h3, e3, e⟩ := bnd_some.mp e
  obtain ⟨e4, rfl⟩ := rd_some.mp e3
  refine ⟨ι, h, env, x, h1, E, R, e1, fun v1 H1 ι1 g1 r1 R1 => ⟨c, tru_dr R1 r1 e4, ?_⟩⟩
  cases c with
  | true =>
    rw [if_pos rfl] at e ⊢
    obtain ⟨rfl, rfl⟩ := ret_some.mp e
    exact k _ H1 ι1 g1 r1 R1
  | false =>
    rw [if_neg Bool.false_ne_true] at e ⊢
    exact ⟨ι1, h1, env, d, h', E.mono g1, R1, e, fun v2 H2 ι2 g2 r2 R2 => k v2 H2 ι2 (g1.trans g2) r2 R2⟩
theorem k_not (ha : PE X a (tE X.K ma)) : PE X (.UnaryOp .Not a pos) (tE X.K fun env => M.bnd (ma env) fun x => M.bnd (M.rd fun h => truD h x) fun k => M.ret (.bl (!k))) := by
  refine PE.imp (pe_notT ha) fun σ H Q q => ?_
  obtain ⟨ι, h, env, d, h', E, R, e, k⟩ := q
  obtain ⟨x, h1, e1, e⟩ := bnd_some.mp e
  obtain ⟨c, h3, e3, e⟩ := bnd_some.mp e
  obtain ⟨e4, rfl⟩ := rd_some.mp e3
  obtain ⟨rfl, rfl⟩ := ret_some.mp e
  exact ⟨ι, h, env, x, _, E, R, e1, fun v1 H1 ι1 g1 r1 R1 => ⟨c, tru_dr R1 r1 e4, k _ H1 ι1 g1 (dr_bl.mpr rfl) R1⟩⟩
variable {na nb : Env → M Bool}
theorem kt_tru (ha : PE X a (tE X.K ma)) (he : ∀ whole, isTrue a X.env whole = (do let v ← whole; standAt a.pos; holding [v] (truthy v))) : PT X a (tT X.K fun env => M.bnd (ma env) fun x => M.rd fun h => truD h x) := by
  refine PT.imp (pt_truth ha he) fun σ H Q q => ?_
  obtain ⟨ι, h, env, d, h', E, R, e, k⟩ := q
  obtain ⟨x, h1, e1, e⟩ := bnd_some.mp e
  obtain ⟨e4, rfl⟩ := rd_some.mp e
  exact ⟨ι, h, env, x, _, E, R, e1, fun v1 H1 ι1 g1 r1 R1 => ⟨d, tru_dr R1 r1 e4, k H1 ι1 g1 R1⟩⟩
theorem kw_and (ha : PT X a (tT X.K na)) (hb : PW X (.BoolOp .And (b :: rest) pos) (tT X.K nb)) : PW X (.BoolOp .And (a :: b :: rest) pos) (tT X.K fun env => M.bnd (na env) fun k => if k then nb env else M.ret false) := by
  refine PW.imp (pw_and ha hb) fun σ H Q q => ?_
  obtain ⟨ι, h, env, d, h', E, R, e, k⟩ := q
  obtain ⟨c, h1, e1, e⟩ := bnd_some.mp e
  refine ⟨ι, h, env, c, h1, E, R, e1, fun H1 ι1 g1 R1 => ?_⟩
  cases c with
  | true =>
    rw [if_pos rfl] at e ⊢
    exact ⟨ι1, h1, env, d, h', E.mono g1, R1, e, fun H2 ι2 g2 R2 => k H2 ι2 (g1.trans g2) R2⟩
  | false =>
    rw [if_neg Bool.false_ne_true] at e ⊢
    obtain ⟨rfl, rfl⟩ := ret_some.mp e
    exact k H1 ι1 g1 R1
theorem kw_or (ha : PT X a (tT X.K na)) (hb : PW X (.BoolOp .Or (b :: rest) pos) (tT X.K nb)) : PW X (.BoolOp .Or (a :: b :: rest) pos) (tT X.K fun env => M.bnd (na env) fun k => if k then M.ret true else nb env) := by
  refine PW.imp (pw_or ha hb) fun σ H Q q => ?_
  obtain ⟨ι, h, env, d, h', E, R, e, k⟩ := q
  obtain ⟨c, h1, e1, e⟩ := bnd_some.mp e
  refine ⟨ι, h, env, c, h1, E, R, e1, fun H1 ι1 g1 R1 => ?_⟩
  cases c with
  | true =>
    rw [if_pos rfl] at e ⊢
    obtain ⟨rfl, rfl⟩ := ret_some.mp e
    exact k H1 ι1 g1 R1
  | false =>
    rw [if_neg Bool.false_ne_true] at e ⊢
    exact ⟨ι1, h1, env, d, h', E.mono g1, R1, e, fun H2 ι2 g2 R2 => k H2 ι2 (g1.trans g2) R2⟩
theorem kt_not (ha : PT X a (tT X.K na)) : PT X (.UnaryOp .Not a pos) (tT X.K fun env => M.bnd (na env) fun k => M.ret (!k)) := by
  refine PT.imp (pt_not ha) fun σ H Q q => ?_
  obtain ⟨ι, h, env, d, h', E, R, e, k⟩ := q
  obtain ⟨c, h1, e1, e⟩ := bnd_some.mp e
  obtain ⟨rfl, rfl⟩ := ret_some.mp e
  exact ⟨ι, h, env, c, _, E, R, e1, fun H1 ι1 g1 R1 => k H1 ι1 g1 R1⟩
theorem k_ite (hc : PT X cc (tT X.K na)) (ha : PE X a (tE X.K ma)) (hb : PE X b (tE X.K mb)) : PE X (.IfExp cc a b pos) (tE X.K fun env => M.bnd (na env) fun k => if k then ma env else mb env) := by
  refine PE.imp (pe_ifExp hc ha hb) fun σ H Q q => ?_
  obtain ⟨ι, h, env, d, h', E, R, e, k⟩ := q
  obtain ⟨c, h1, e1, e⟩ := bnd_some.mp e
  refine ⟨ι, h, env, c, h1, E, R, e1, fun H1 ι1 g1 R1 => ?_⟩
  cases c with
  | true =>
    rw [if_pos rfl] at e ⊢
    exact ⟨ι1, h1, env, d, h', E.mono g1, R1, e, fun v2 H2 ι2 g2 r2 R2 => k v2 H2 ι2 (g1.trans g2) r2 R2⟩
  | false =>
    rw [if_neg Bool.false_ne_true] at e ⊢
    exact ⟨ι1, h1, env, d, h', E.mono g1, R1, e, fun v2 H2 ι2 g2 r2 R2 => k v2 H2 ι2 (g1.trans g2) r2 R2⟩

/-! ### subscripts, slices -/
theorem k_idx (hu : X.A.units + 64 < cLine) (ha : PE X a (tE X.K ma)) (hb : PE X b (tE X.K mb)) (hs : PlainIx b) : PE X (.Subscript a b pos) (tE X.K fun env => M.bnd (ma env) fun x => M.bnd (mb env) fun y => M.rd (idxD x y)) := by
  refine PE.imp (pe_ix (ok_idx hu) ha hb hs) fun σ H Q q => ?_
  obtain ⟨ι, h, env, d, h', E, R, e, k⟩ := q
  obtain ⟨x, h1, e1, e⟩ := bnd_some.mp e
  obtain ⟨y, h2, e2, e⟩ := bnd_some.mp e
  obtain ⟨e4, rfl⟩ := rd_some.mp e
  exact ⟨ι, h, env, x, h1, E, R, e1, fun v1 H1 ι1 g1 r1 R1 => ⟨ι1, h1, env, y, _, E.mono g1, R1, e2, fun v2 H2 ι2 g2 r2 R2 => ⟨ι2, _, x, y, d, r1.mono g2, r2, R2, e4, fun v r => k v H2 ι2 (g1.trans g2) r R2⟩⟩⟩
variable {lo hi : Option PySem.Expr} {ml mh : Env → M (Option Int)}
theorem ko_none : PO X none (tOo X.K fun env => evO G none env) := by
  refine PO.imp po_none fun σ H Q q => ?_
  obtain ⟨ι, h, env, d, h', E, R, e, k⟩ := q
  unfold evO at e
  obtain ⟨rfl, rfl⟩ := ret_some.mp e
  exact k H ι Gr.refl R
theorem ko_some (ha : PE X a (tE X.K ma)) : PO X (some a) (tOo X.K fun env => M.bnd (ma env) fun x => match x with
    | .int i => M.ret (some i)
    | _ => M.no) := by
  refine PO.imp (po_some ha) fun σ H Q q => ?_
  obtain ⟨ι, h, env, d, h', E, R, e, k⟩ := q
  obtain ⟨x, h1, e1, e⟩ := bnd_some.mp e
  split at e
  · obtain ⟨rfl, rfl⟩ := ret_some.mp e
    exact ⟨ι, h, env, _, h1, E, R, e1, fun v1 H1 ι1 g1 r1 R1 => ⟨_, dr_int.mp r1, k H1 ι1 g1 R1⟩⟩
  · exact absurd e no_some
theorem k_slc (ha : PE X a (tE X.K ma)) (hl : PO X lo (tOo X.K ml)) (hh : PO X hi (tOo X.K mh)) : PE X (.Subscript a (.Slice lo hi none p2) pos) (tE X.K fun env => M.bnd (ma env) fun x => M.bnd (ml env) fun l => M.bnd (mh env) fun u => slcD x l u) := by
  refine PE.imp (pe_slice ok_slc ha hl hh) fun σ H Q q => ?_
  obtain ⟨ι, h, env, d, h', E, R, e, k⟩ := q
  obtain ⟨x, h1, e1, e⟩ := bnd_some.mp e
  obtain ⟨l, h2, e2, e⟩ := bnd_some.mp e
  obtain ⟨u, h3, e3, e⟩ := bnd_some.mp e
  exact ⟨ι, h, env, x, h1, E, R, e1, fun v1 H1 ι1 g1 r1 R1 => ⟨ι1, h1, env, l, h2, E.mono g1, R1, e2, fun H2 ι2 g2 R2 => ⟨ι2, h2, env, u, h3, E.mono (g1.trans g2), R2, e3, fun H3 ι3 g3 R3 =>
    ⟨ι3, h3, x, d, h', r1.mono (g2.trans g3), R3, e, fun v H' ι' g r R' => k v H' ι' (g1.trans (g2.trans (g3.trans g))) r R'⟩⟩⟩⟩

/-! ### argument lists, displays -/
variable {es : List PySem.Expr} {ms : Env → M (List D)}
theorem ka_nil : PA X [] (tAs X.K fun env => evEs G [] env) := by
  refine PA.imp pa_nil fun σ H Q q => ?_
  obtain ⟨ι, h, env, d, h', E, R, e, k⟩ := q
  unfold evEs at e
  obtain ⟨rfl, rfl⟩ := ret_some.mp e
  exact k [] H ι Gr.refl DRs.nil_ R
theorem ka_cons (ha : PE X a (tE X.K ma)) (hr : PA X es (tAs X.K ms)) (hs : starEach (a :: es) X.env = (false, eval a X.env) :: starEach es X.env) :
    PA X (a :: es) (tAs X.K fun env => M.bnd (ma env) fun x => M.bnd (ms env) fun xs => M.ret (x :: xs)) := by
  refine PA.imp (pa_cons ha hr hs) fun σ H Q q => ?_
  obtain ⟨ι, h, env, d, h', E, R, e, k⟩ := q
  obtain ⟨x, h1, e1, e⟩ := bnd_some.mp e
  obtain ⟨xs, h2, e2, e⟩ := bnd_some.mp e
  obtain ⟨rfl, rfl⟩ := ret_some.mp e
  exact ⟨ι, h, env, x, h1, E, R, e1, fun v1 H1 ι1 g1 r1 R1 => ⟨ι1, h1, env, xs, _, E.mono g1, R1, e2, fun vs H2 ι2 g2 r2 R2 => k (v1 :: vs) H2 ι2 (g1.trans g2) (DRs.cons_ (r1.mono g2) r2) R2⟩⟩
theorem k_tup {x1 : Nat} (h : PA X es (tAs X.K ms)) : PE X (.Tuple es x1 pos) (tE X.K fun env => M.bnd (ms env) fun vs => if vs.length ≤ LINE then M.ret (.tup vs) else M.no) := by
  refine PE.imp (pe_tup h) fun σ H Q q => ?_
  obtain ⟨ι, h, env, d, h', E, R, e, k⟩ := q
  obtain ⟨xs, h1, e1, e⟩ := bnd_some.mp e
  split at e
  · rename_i c
    obtain ⟨rfl, rfl⟩ := ret_some.mp e
    refine ⟨ι, h, env, xs, _, E, R, e1, fun vs H1 ι1 g1 r1 R1 => ⟨by rw [line_le, ← r1.len]; exact c, fin_tup R1 r1 fun v H' ι' g r R' => k v H' ι' (g1.trans g) r R'⟩⟩
  · exact absurd e no_some
theorem k_lst (h : PA X es (tAs X.K ms)) : PE X (.List es pos) (tE X.K fun env => M.bnd (ms env) fun vs => if vs.length ≤ LINE then M.new (.lst vs) else M.no) := by
  refine PE.imp (pe_lst h) fun σ H Q q => ?_
  obtain ⟨ι, h, env, d, h', E, R, e, k⟩ := q
  obtain ⟨xs, h1, e1, e⟩ := bnd_some.mp e
  split at e
  · rename_i c
    cases e
    refine ⟨ι, h, env, xs, h1, E, R, e1, fun vs H1 ι1 g1 r1 R1 => ⟨by rw [line_le, ← r1.len]; exact c, fin_lst R1 r1 fun v H' ι' g r R' => k v H' ι' (g1.trans g) r R'⟩⟩
  · exact absurd e no_some

/-! ### calls -/
/-- a def's promise: what the small language's def gives -/
def spOf (K : PySem.W.Frag) (n : Nat) (m : List D → M D) : Sp := fun vs H Q _ => ∃ ι h ds r h', ds.length = n ∧ DRs K H ι ds vs ∧ HR K H ι h ∧ m ds h = some (r, h') ∧
  ∀ v H' ι', Gr H ι H' ι' → DR K H' ι' r v → HR K H' ι' h' → Q v H'
variable {f : Addr} {fd : FuncData} {ps ks : List Str} {x : Str} {n : Nat} {m : List D → M D}
theorem k_call (F : FnOk X.prog X.w X.K X.mg X.base CX0 n f fd ps (spOf X.K ps.length m)) (hr : Room n X.A) (hg : Gl X x) (hm : X.mg x = some (.ref f)) (hk : PySem.W.keepIn X.K (.ref f) = true) (hb : Binds X.K fd ps [])
    (ha : PA X (a :: es) (tAs X.K ms)) (hdb : (x == ("__debug__" : Str)) = false) (he : starEach (a :: es) X.env = (false, eval a X.env) :: starEach es X.env) (hpl : (backTo pos (starEach es X.env)).any (·.1) = false)
    (hn : ∀ env h ds h', ms env h = some (ds, h') → ds.length = ps.length) :
    PE X (.Call (.Name x p) (a :: es) [] pos) (tE X.K fun env => M.bnd (ms env) fun vs => m vs) := by
  refine PE.imp (pe_call F hr hg hm hk hb .nil pass0 ha hdb he hpl) fun σ H Q q => ?_
  obtain ⟨ι, h, env, d, h', E, R, e, k⟩ := q
  obtain ⟨xs, h1, e1, e⟩ := bnd_some.mp e
  refine ⟨ι, h, env, xs, h1, E, R, e1, fun vs H1 ι1 g1 r1 R1 => ?_⟩
  show spOf X.K ps.length m (vs ++ []) H1 Q E0
  rw [List.append_nil]
  exact ⟨ι1, h1, xs, d, h', hn env h xs h1 e1, r1, R1, e, fun v H' ι' g r R' => k v H' ι' (g1.trans g) r R'⟩

/-- keywords alone -/
theorem pe_callK0 {kws : List Keyword} {t : TA} {sp : Sp} {g : List Value → List Value → List Value} {gV : List V → List V → List V} (F : FnOk X.prog X.w X.K X.mg X.base CX0 n f fd ps sp) (hr : Room n X.A) (hg : Gl X x) (hm : X.mg x = some (.ref f))
    (hk : PySem.W.keepIn X.K (.ref f) = true) (hb : KBinds X.K fd ps ks g gV) (hkw : PK X kws t) (hall : (backToKw pos (keywordEach kws X.env)).all (·.1.isSome) = true)
    (hks : (backToKw pos (keywordEach kws X.env)).filterMap (·.1) = ks) (hdb : (x == ("__debug__" : Str)) = false)
    (hpl : ((backTo pos (starEach [] X.env)).any (·.1) || (backToKw pos (keywordEach kws X.env)).any (·.1.isNone)) = false) :
    PE X (.Call (.Name x p) [] kws pos) (fun σ H Q => t σ H fun zs H1 => sp (gV [] zs) H1 Q E0) := by
  refine ⟨fun pins s σ H Q I q => wpAny_Call_Name_kw (ld_glob I hg hm ?_ hdb)⟩
  refine PySem.W.callWith_KW0 (h₀ := X.base) I.ok.mod.kin hk hall (thn (hkw.run pos pins s σ H _ I q) fun ws s1 ⟨zs, H1, I1, rz, q1⟩ => ⟨I1.kIn, ?_⟩) hpl
  rw [hks]
  exact run_fnk F hr hb pass0 I1 .nil rz q1
theorem kk_cons {kpos : PySem.Pos} {nm : Option Str} {kws : List Keyword} (ha : PE X a (tE X.K ma)) (hr : PK X kws (tAs X.K ms)) : PK X (⟨nm, a, kpos⟩ :: kws) (tAs X.K fun env => M.bnd (ma env) fun x => M.bnd (ms env) fun xs => M.ret (x :: xs)) := by
  refine ⟨fun pos pins s σ H Q I q => (pk_cons ha hr).run pos pins s σ H Q I ?_⟩
  obtain ⟨ι, h, env, d, h', E, R, e, k⟩ := q
  obtain ⟨x, h1, e1, e⟩ := bnd_some.mp e
  obtain ⟨xs, h2, e2, e⟩ := bnd_some.mp e
  obtain ⟨rfl, rfl⟩ := ret_some.mp e
  exact ⟨ι, h, env, x, h1, E, R, e1, fun v1 H1 ι1 g1 r1 R1 => ⟨ι1, h1, env, xs, _, E.mono g1, R1, e2, fun vs H2 ι2 g2 r2 R2 => k (v1 :: vs) H2 ι2 (g1.trans g2) (DRs.cons_ (r1.mono g2) r2) R2⟩⟩
theorem kk_nil : PK X [] (tAs X.K fun env => evEs G [] env) := by
  refine ⟨fun pos pins s σ H Q I q => pk_nil.run pos pins s σ H Q I ?_⟩
  obtain ⟨ι, h, env, d, h', E, R, e, k⟩ := q
  unfold evEs at e
  obtain ⟨rfl, rfl⟩ := ret_some.mp e
  exact k [] H ι Gr.refl DRs.nil_ R

/-! ### built-ins -/
theorem k_blt (hc : X.calm = true) {bl : Blt} (hg : Gl X x) (hm : X.mg x = none) (hv : bootBuiltins x = some (bltVal bl)) (ha : PA X (a :: es) (tAs X.K ms)) (hn : x ≠ "__name__") (hdb : (x == ("__debug__" : Str)) = false)
    (he : starEach (a :: es) X.env = (false, eval a X.env) :: starEach es X.env) (hpl : (backTo pos (starEach es X.env)).any (·.1) = false) :
    PE X (.Call (.Name x p) (a :: es) [] pos) (tE X.K fun env => M.bnd (ms env) fun vs => bltD bl vs) := by
  have go : ∀ σ H Q, tE X.K (fun env => M.bnd (ms env) fun vs => bltD bl vs) σ H Q → tCB (rBl X.K bl) (tAs X.K ms) σ H Q := fun σ H Q q => by
    obtain ⟨ι, h, env, d, h', E, R, e, k⟩ := q
    obtain ⟨xs, h1, e1, e⟩ := bnd_some.mp e
    exact ⟨ι, h, env, xs, h1, E, R, e1, fun vs H1 ι1 g1 r1 R1 => ⟨ι1, h1, xs, d, h', r1, R1, e, fun v H' ι' g r R' => k v H' ι' (g1.trans g) r R'⟩⟩
  have hcl := ok_blt hc bl
  cases bl with
  | len => exact PE.imp (pe_callB hcl hg hm hv ha hn hdb he hpl) go
  | abs => exact PE.imp (pe_callB hcl hg hm hv ha hn hdb he hpl) go
  | sum => exact PE.imp (pe_callB hcl hg hm hv ha hn hdb he hpl) go
  | sorted => exact PE.imp (pe_callB hcl hg hm hv ha hn hdb he hpl) go
  | min2 => exact PE.imp (pe_callB hcl hg hm hv ha hn hdb he hpl) go
  | max2 => exact PE.imp (pe_callB hcl hg hm hv ha hn hdb he hpl) go
  | min1 => exact PE.imp (pe_callB hcl hg hm hv ha hn hdb he hpl) go
  | max1 => exact PE.imp (pe_callB hcl hg hm hv ha hn hdb he hpl) go
  | int => exact PE.imp (pe_callTy hcl hg hm hv ha hn hdb he hpl) go
  | str => exact PE.imp (pe_callTy hcl hg hm hv ha hn hdb he hpl) go
  | list => exact PE.imp (pe_callTy hcl hg hm hv ha hn hdb he hpl) go
  | tuple => exact PE.imp (pe_callTy hcl hg hm hv ha hn hdb he hpl) go
theorem k_isin {t : Ty} {pt : PySem.Pos} (hg : Gl X "isinstance") (hm : X.mg "isinstance" = none) (hg2 : Gl X (tyName t)) (hm2 : X.mg (tyName t) = none) (ha : PE X a (tE X.K ma))
    (he : starEach [a, .Name (tyName t) pt] X.env = (false, eval a X.env) :: starEach [.Name (tyName t) pt] X.env) :
    PE X (.Call (.Name "isinstance" p) [a, .Name (tyName t) pt] [] pos) (tE X.K fun env => M.bnd (ma env) fun x => M.bnd (M.rd (isinD t x)) fun k => M.ret (.bl k)) := by
  have hb2 : bootBuiltins (Str.ofString (tyName t)) = some (.type (tyName t)) := by cases t <;> decide +kernel
  have hT : PE X (.Name (tyName t) pt) (tC (.ty (tyName t))) := by
    refine pe_bltn hg2 hm2 hb2 rfl ?_ ?_
    · cases t <;> decide +kernel
    · cases t <;> decide +kernel
  refine PE.imp (pe_callB (ok_isin t) hg hm (by decide +kernel) (pa_cons ha (pa_cons hT pa_nil) he) (by decide +kernel) (by decide +kernel) he rfl) fun σ H Q q => ?_
  obtain ⟨ι, h, env, d, h', E, R, e, k⟩ := q
  obtain ⟨x, h1, e1, e⟩ := bnd_some.mp e
  obtain ⟨c, h3, e3, e⟩ := bnd_some.mp e
  obtain ⟨e4, rfl⟩ := rd_some.mp e3
  obtain ⟨rfl, rfl⟩ := ret_some.mp e
  exact ⟨ι, h, env, x, _, E, R, e1, fun v1 H1 ι1 g1 r1 R1 => ⟨ι1, _, x, v1, c, rfl, r1, R1, e4, k _ H1 ι1 g1 (dr_bl.mpr rfl) R1⟩⟩
theorem k_app {o : PySem.Expr} {apos cpos : PySem.Pos} (ho : PE X o (tE X.K ma)) (ha : PE X a (tE X.K mb)) (hbase : attributeBase o "append" X.env (eval o X.env) = eval o X.env)
    (hst : starEach [a] X.env = (false, eval a X.env) :: starEach [] X.env) (hline : (apos.endLine == cpos.line) = true) :
    PE X (.Call (.Attribute o "append" apos) [a] [] cpos) (tE X.K fun env => M.bnd (ma env) fun x => M.bnd (M.rd fun h => isLst h x) fun _ => M.bnd (mb env) fun y => M.bnd (appD x y) fun _ => M.ret .non) := by
  refine PE.imp (pe_bm PySem.F.plainAttrs_list PySem.F.slot_list_append PySem.F.type_list_append ok_app ho (pa_cons ha pa_nil hst) hbase (by rw [hst]; rfl) hline hst rfl) fun σ H Q q => ?_
  obtain ⟨ι, h, env, d, h', E, R, e, k⟩ := q
  obtain ⟨x, h1, e1, e⟩ := bnd_some.mp e
  obtain ⟨_, h2, e2, e⟩ := bnd_some.mp e
  obtain ⟨e3, rfl⟩ := rd_some.mp e2
  obtain ⟨y, h4, e4, e⟩ := bnd_some.mp e
  obtain ⟨_, h5, e5, e⟩ := bnd_some.mp e
  obtain ⟨rfl, rfl⟩ := ret_some.mp e
  refine ⟨ι, h, env, x, _, E, R, e1, fun v1 H1 ι1 g1 r1 R1 => ⟨?_, ι1, _, env, y, h4, E.mono g1, R1, e4, fun v2 H2 ι2 g2 r2 R2 => ⟨ι2, h4, x, y, v2, _, rfl, r1.mono g2, r2, R2, e5, fun v H' ι' g r R' => k v H' ι' (g1.trans (g2.trans g)) r R'⟩⟩⟩
  unfold isLst at e3
  split at e3
  · rw [Option.map_eq_some_iff] at e3
    obtain ⟨xs, hx, _⟩ := e3
    obtain ⟨a, vs, rfl, _, hv, _⟩ := dr_obj' R1 r1 hx
    exact .inl ⟨rfl, vs, SqL.of hv⟩
  · cases e3
end
end Mi

set_option maxHeartbeats 4000000
/-! MiIt: what is walked; loops, comprehensions. -/
namespace Mi
open PySem PySem.Spec PyProof.Rows L2

mutual
theorem beq_eq : ∀ {x y : D}, D.beq x y = true → x = y
  | .non, y, h => by cases y <;> first | rfl | cases h
  | .bl a, y, h => by
    cases y with
    | bl b => exact congrArg D.bl (beq_iff_eq.mp h)
    | _ => cases h
  | .int a, y, h => by
    cases y with
    | int b => exact congrArg D.int (beq_iff_eq.mp h)
    | _ => cases h
  | .str a, y, h => by
    cases y with
    | str b => exact congrArg D.str (of_decide_eq_true h)
    | _ => cases h
  | .tup a, y, h => by
    cases y with
    | tup b => unfold D.beq at h; exact congrArg D.tup (beqs_eq h)
    | _ => cases h
  | .fl a, y, h => by
    cases y with
    | fl b => unfold D.beq at h; exact congrArg D.fl (beqs_eq h)
    | _ => cases h
  | .obj a, y, h => by
    cases y with
    | obj b => exact congrArg D.obj (beq_iff_eq.mp h)
    | _ => cases h
theorem beqs_eq : ∀ {x y : List D}, D.beqs x y = true → x = y
  | [], y, h => by cases y <;> first | rfl | cases h
  | a :: x, y, h => by
    cases y with
    | nil => cases h
    | cons b y =>
      unfold D.beqs at h
      rw [Bool.and_eq_true] at h
      rw [beq_eq h.1, beqs_eq h.2]
end
theorem keep_at {ks : Kp} {h : MH} (e : keepOk ks h = true) {n : Nat} {xs : List D} (m : (n, xs) ∈ ks) : lstAt h n = some xs := by
  unfold keepOk at e
  have q := List.all_eq_true.mp e _ m
  dsimp only at q
  split at q
  · rename_i ys hy
    rw [hy, beqs_eq q]
  · cases q
theorem keepM_some {ks : Kp} {h h' : MH} {u : Unit} : keepM ks h = some (u, h') ↔ keepOk ks h = true ∧ h = h' := by
  unfold keepM
  constructor
  · intro e
    split at e
    · rename_i c
      cases e
      exact ⟨c, rfl⟩
    · cases e
  · rintro ⟨c, rfl⟩
    rw [if_pos c]

/-- an iterator of the layer gives these things -/
def JOk (K : PySem.W.Frag) (J : It) (ds : List D) (ks : Kp) (H0 : Hp) (ι0 : List Addr) : Prop := ∀ (i : Nat) (H : Hp) (ι : List Addr) (h : MH), Gr H0 ι0 H ι → HR K H ι h → keepOk ks h = true →
  (i = ds.length → J.stop i H) ∧ ∀ d, ds[i]? = some d → J.go i H ∧ ∀ x H', J.yld i H x H' → Gr H ι H' ι ∧ HR K H' ι h ∧ DR K H' ι d x
def tI (K : PySem.W.Frag) (m : Env → M (List D × Kp)) : TI := fun σ H R => ∃ ι h env ds ks h', ER K H ι env σ ∧ HR K H ι h ∧ m env h = some ((ds, ks), h') ∧
  ∀ J H' ι', Gr H ι H' ι' → HR K H' ι' h' → JOk K J ds ks H' ι' → R J H'
theorem PI.imp {X : Cx} {tg e : PySem.Expr} {t t' : TI} (h : PI X tg e t) (w : ∀ σ H Q, t' σ H Q → t σ H Q) : PI X tg e t' := ⟨fun pins s σ H Q I q => h.run pins s σ H Q I (w _ _ _ q)⟩
theorem PI.orr {X : Cx} {tg e : PySem.Expr} {t t' : TI} (h : PI X tg e t) (h' : PI X tg e t') : PI X tg e (fun σ H Q => t σ H Q ∨ t' σ H Q) :=
  ⟨fun pins s σ H Q I q => q.elim (h.run pins s σ H Q I) (h'.run pins s σ H Q I)⟩

section
variable {K : PySem.W.Frag} {H0 : Hp} {ι0 : List Addr}
theorem j_tup {a : Addr} {vs : List V} {ds : List D} {ks : Kp} (ha : H0 a = some (.tup vs)) (r : DRs K H0 ι0 ds vs) : JOk K (Itt K a) ds ks H0 ι0 := fun i H ι h g R _ => by
  have ha' := g.tup _ _ ha
  refine ⟨fun e => ⟨vs, SqT.of ha', by rw [e, r.len]; exact Nat.le_refl _⟩, fun d hd => ?_⟩
  obtain ⟨v, hv, rv⟩ := (r.mono g).get hd
  refine ⟨⟨vs, v, SqT.of ha', hv⟩, fun x H' y => ?_⟩
  obtain ⟨rfl, y⟩ := y
  have q := y vs (SqT.of ha')
  rw [hv] at q
  cases q
  exact ⟨Gr.refl, R, rv⟩
theorem j_fl {a : Addr} {vs : List V} {ds : List D} {ks : Kp} (ha : Frz K H0 a vs) (r : DRs K H0 ι0 ds vs) : JOk K (Itl K a) ds ks H0 ι0 := fun i H ι h g R _ => by
  have ha' := (ha.mono g).seq
  refine ⟨fun e => ⟨vs, ha', by rw [e, r.len]; exact Nat.le_refl _⟩, fun d hd => ?_⟩
  obtain ⟨v, hv, rv⟩ := (r.mono g).get hd
  refine ⟨⟨vs, v, ha', hv⟩, fun x H' y => ?_⟩
  obtain ⟨rfl, y⟩ := y
  have q := y vs ha'
  rw [hv] at q
  cases q
  exact ⟨Gr.refl, R, rv⟩
theorem lst_now {n : Nat} {a : Addr} {ds : List D} {ks : Kp} (ea : ι0[n]? = some a) (m : (n, ds) ∈ ks) {H : Hp} {ι : List Addr} {h : MH} (g : Gr H0 ι0 H ι) (R : HR K H ι h) (e : keepOk ks h = true) :
    ∃ vs, H a = some (.lst vs) ∧ DRs K H ι ds vs := R.lst' (keep_at e m) (g.at_ ea)
theorem j_lst {n : Nat} {a : Addr} {ds : List D} {ks : Kp} (ea : ι0[n]? = some a) (m : (n, ds) ∈ ks) : JOk K (Itl K a) ds ks H0 ι0 := fun i H ι h g R e => by
  obtain ⟨vs, ha, r⟩ := lst_now ea m g R e
  refine ⟨fun e => ⟨vs, SqL.of ha, by rw [e, r.len]; exact Nat.le_refl _⟩, fun d hd => ?_⟩
  obtain ⟨v, hv, rv⟩ := r.get hd
  refine ⟨⟨vs, v, SqL.of ha, hv⟩, fun x H' y => ?_⟩
  obtain ⟨rfl, y⟩ := y
  have q := y vs (SqL.of ha)
  rw [hv] at q
  cases q
  exact ⟨Gr.refl, R, rv⟩
theorem rngL_get {lo : Int} {n i : Nat} {d : D} (h : (rngL lo n)[i]? = some d) : i < n ∧ d = .int (lo + i) := by
  unfold rngL at h
  rw [List.getElem?_map, Option.map_eq_some_iff] at h
  obtain ⟨j, hj, rfl⟩ := h
  obtain ⟨h1, h2⟩ := List.getElem?_eq_some_iff.mp hj
  rw [List.length_range] at h1
  rw [List.getElem_range] at h2
  subst h2
  exact ⟨h1, rfl⟩
theorem j_rng {lo : Int} {n : Nat} {ks : Kp} : JOk K (Itr lo n) (rngL lo n) ks H0 ι0 := fun i H ι h g R _ => by
  refine ⟨fun e => ?_, fun d hd => ?_⟩
  · have e' : i = n := by rw [e]; unfold rngL; rw [List.length_map, List.length_range]
    exact Nat.le_of_eq e'.symm
  · obtain ⟨h1, rfl⟩ := rngL_get hd
    refine ⟨h1, fun x H' y => ?_⟩
    obtain ⟨rfl, rfl⟩ := y
    exact ⟨Gr.refl, R, dr_int.mpr rfl⟩
theorem rngDn_get {lo : Int} {n i : Nat} {d : D} (h : (rngDn lo n)[i]? = some d) : i < n ∧ d = .int (lo - i) := by
  unfold rngDn at h
  rw [List.getElem?_map, Option.map_eq_some_iff] at h
  obtain ⟨j, hj, rfl⟩ := h
  obtain ⟨h1, h2⟩ := List.getElem?_eq_some_iff.mp hj
  rw [List.length_range] at h1
  rw [List.getElem_range] at h2
  subst h2
  exact ⟨h1, rfl⟩
theorem j_rngDn {lo : Int} {n : Nat} {ks : Kp} : JOk K (Itc lo (-1) n) (rngDn lo n) ks H0 ι0 := fun i H ι h g R _ => by
  refine ⟨fun e => ?_, fun d hd => ?_⟩
  · have e' : i = n := by rw [e]; unfold rngDn; rw [List.length_map, List.length_range]
    exact Nat.le_of_eq e'.symm
  · obtain ⟨h1, rfl⟩ := rngDn_get hd
    refine ⟨h1, fun x H' y => ?_⟩
    obtain ⟨rfl, rfl⟩ := y
    refine ⟨Gr.refl, R, dr_int.mpr (congrArg V.int ?_)⟩
    show lo + (i : Int) * (-1) = lo - i
    omega
end

section
variable {X : Cx} {a b tg : PySem.Expr} {ma mb : Env → M D} {pos p p2 p3 : PySem.Pos} {G : Ga}
theorem ki_val (ha : PE X a (tE X.K ma)) : PI X tg a (tI X.K fun env => M.bnd (ma env) itemsD) := by
  refine PI.imp (PI.orr (pi_list ha) (pi_tup ha)) fun σ H Q q => ?_
  obtain ⟨ι, h, env, ds, ks, h', E, R, e, k⟩ := q
  obtain ⟨x, h1, e1, e⟩ := bnd_some.mp e
  unfold itemsD at e
  split at e
  · obtain ⟨q, rfl⟩ := ret_some.mp e
    cases q
    refine .inr ⟨ι, h, env, _, _, E, R, e1, fun v1 H1 ι1 g1 r1 R1 => ?_⟩
    obtain ⟨a, vs, rfl, hv, rs⟩ := dr_tup.mp r1
    exact ⟨a, rfl, ⟨vs, SqT.of hv⟩, k _ H1 ι1 g1 R1 (j_tup hv rs)⟩
  · obtain ⟨q, rfl⟩ := ret_some.mp e
    cases q
    refine .inl ⟨ι, h, env, _, _, E, R, e1, fun v1 H1 ι1 g1 r1 R1 => ?_⟩
    obtain ⟨a, vs, rfl, hv, rs⟩ := dr_fl.mp r1
    exact ⟨a, rfl, ⟨vs, hv.seq⟩, k _ H1 ι1 g1 R1 (j_fl hv rs)⟩
  · obtain ⟨xs, h2, e2, e⟩ := bnd_some.mp e
    obtain ⟨e3, rfl⟩ := rd_some.mp e2
    obtain ⟨q, rfl⟩ := ret_some.mp e
    cases q
    refine .inl ⟨ι, h, env, _, _, E, R, e1, fun v1 H1 ι1 g1 r1 R1 => ?_⟩
    obtain ⟨a, vs, rfl, ea, hv, rs⟩ := dr_obj' R1 r1 e3
    exact ⟨a, rfl, ⟨vs, SqL.of hv⟩, k _ H1 ι1 g1 R1 (j_lst ea (List.mem_singleton.mpr rfl))⟩
  · exact absurd e no_some
theorem w62 {i : Int} (h : within62 i = true) : -(2 ^ 62) ≤ i ∧ i < 2 ^ 62 := by
  unfold within62 at h
  simp only [Bool.and_eq_true, decide_eq_true_eq] at h
  exact h
theorem ki_rng1 (hg : Gl X "range") (hm : X.mg "range" = none) (ha : PE X a (tE X.K ma)) (hs : starEach [a] X.env = [(false, eval a X.env)]) :
    PI X tg (.Call (.Name "range" p) [a] [] pos) (tI X.K fun env => M.bnd (ma env) fun y => match y with
      | .int j => if within62 j then M.ret (rngL 0 j.toNat, []) else M.no
      | _ => M.no) := by
  refine PI.imp (pi_range1 hg hm (pa_cons ha pa_nil hs) hs) fun σ H Q q => ?_
  obtain ⟨ι, h, env, ds, ks, h', E, R, e, k⟩ := q
  obtain ⟨x, h1, e1, e⟩ := bnd_some.mp e
  split at e
  · split at e
    · rename_i c
      obtain ⟨q, rfl⟩ := ret_some.mp e
      cases q
      obtain ⟨c1, c2⟩ := w62 c
      exact ⟨ι, h, env, _, _, E, R, e1, fun v1 H1 ι1 g1 r1 R1 => ⟨_, by rw [dr_int.mp r1], c1, c2, k _ H1 ι1 g1 R1 j_rng⟩⟩
    · exact absurd e no_some
  · exact absurd e no_some
theorem ki_rng2 (hg : Gl X "range") (hm : X.mg "range" = none) (ha : PE X a (tE X.K ma)) (hb : PE X b (tE X.K mb)) (hs : starEach [a, b] X.env = [(false, eval a X.env), (false, eval b X.env)]) (hs2 : starEach [b] X.env = [(false, eval b X.env)]) :
    PI X tg (.Call (.Name "range" p) [a, b] [] pos) (tI X.K fun env => M.bnd (ma env) fun x => M.bnd (mb env) fun y => match x, y with
      | .int i, .int j => if within62 i && within62 j then M.ret (rngL i (j - i).toNat, []) else M.no
      | _, _ => M.no) := by
  refine PI.imp (pi_range2 hg hm (pa_cons ha (pa_cons hb pa_nil hs2) (by rw [hs, hs2])) hs hs2) fun σ H Q q => ?_
  obtain ⟨ι, h, env, ds, ks, h', E, R, e, k⟩ := q
  obtain ⟨x, h1, e1, e⟩ := bnd_some.mp e
  obtain ⟨y, h2, e2, e⟩ := bnd_some.mp e
  split at e
  · split at e
    · rename_i c
      obtain ⟨q, rfl⟩ := ret_some.mp e
      cases q
      rw [Bool.and_eq_true] at c
      obtain ⟨c1, c2⟩ := w62 c.1
      obtain ⟨c3, c4⟩ := w62 c.2
      exact ⟨ι, h, env, _, _, E, R, e1, fun v1 H1 ι1 g1 r1 R1 => ⟨ι1, h1, env, _, _, E.mono g1, R1, e2, fun v2 H2 ι2 g2 r2 R2 => ⟨_, _, by rw [dr_int.mp r1, dr_int.mp r2], ⟨c1, c2, c3, c4⟩, k _ H2 ι2 (g1.trans g2) R2 j_rng⟩⟩⟩
    · exact absurd e no_some
  · exact absurd e no_some
theorem ki_rngD {k1 : Nat} (hg : Gl X "range") (hm : X.mg "range" = none) (ha : PE X a (tE X.K ma)) (hb : PE X b (tE X.K mb)) (hs : ∀ c, starEach [a, b, .UnaryOp .USub c p2] X.env = (false, eval a X.env) :: (false, eval b X.env) :: starEach [.UnaryOp .USub c p2] X.env)
    (hs2 : ∀ c, starEach [b, .UnaryOp .USub c p2] X.env = (false, eval b X.env) :: starEach [.UnaryOp .USub c p2] X.env) :
    PI X tg (.Call (.Name "range" p) [a, b, .UnaryOp .USub (.Constant (.int 1) k1 p3) p2] [] pos) (tI X.K fun env => M.bnd (ma env) fun x => M.bnd (mb env) fun y => match x, y with
      | .int i, .int j => if within62 i && within62 j then M.ret (rngDn i (i - j).toNat, []) else M.no
      | _, _ => M.no) := by
  have hc : PE X (.UnaryOp .USub (.Constant (.int 1) k1 p3) p2) (tUn (rU fun i => .int (-i)) (tC (.int 1))) := pe_un un_neg pe_int
  refine PI.imp (pi_range3 hg hm (pa_cons ha (pa_cons hb (pa_cons hc pa_nil) (hs2 _)) (by rw [hs, hs2])) (by rw [hs, hs2]) (by rw [hs2]; rfl)) fun σ H Q q => ?_
  obtain ⟨ι, h, env, ds, ks, h', E, R, e, k⟩ := q
  obtain ⟨x, h1, e1, e⟩ := bnd_some.mp e
  obtain ⟨y, h2, e2, e⟩ := bnd_some.mp e
  split at e
  · split at e
    · rename_i c
      obtain ⟨q, rfl⟩ := ret_some.mp e
      cases q
      rw [Bool.and_eq_true] at c
      obtain ⟨c1, c2⟩ := w62 c.1
      obtain ⟨c3, c4⟩ := w62 c.2
      exact ⟨ι, h, env, _, _, E, R, e1, fun v1 H1 ι1 g1 r1 R1 => ⟨ι1, h1, env, _, _, E.mono g1, R1, e2, fun v2 H2 ι2 g2 r2 R2 => ⟨1, rfl, _, _, -1, _, by rw [dr_int.mp r1, dr_int.mp r2], RgC.neg c1 c2 c3 c4, k _ H2 ι2 (g1.trans g2) R2 j_rngDn⟩⟩⟩
    · exact absurd e no_some
  · exact absurd e no_some

/-! ### targets -/
mutual
/-- the target's shape and its slots -/
def tgIs (N : List Str) (ok : Str → Bool) : CG → PySem.Expr → Bool
  | .nm i, e => match e with
    | .Name x _ => decide (N[i]? = some x) && ok x
    | _ => false
  | .tp gs, e => match e with
    | .Tuple es _ _ => tgsIs N ok gs es
    | _ => false
def tgsIs (N : List Str) (ok : Str → Bool) : List CG → List PySem.Expr → Bool
  | [], es => es.isEmpty
  | g :: gs, es => match es with
    | e :: r => tgIs N ok g e && tgsIs N ok gs r
    | [] => false
end
mutual
def slotsG : CG → List Nat
  | .nm i => [i]
  | .tp gs => slotsGs gs
def slotsGs : List CG → List Nat
  | [] => []
  | g :: gs => slotsG g ++ slotsGs gs
end
def gG (K : PySem.W.Frag) (g : CG) : TG := fun v σ H Q => ∃ ι h env env' d, ER K H ι env σ ∧ HR K H ι h ∧ DR K H ι d v ∧ bindG g d env = some env' ∧ ∀ σ', ER K H ι env' σ' → (∀ i, i ∉ slotsG g → σ'[i]? = σ[i]?) → σ'.length = σ.length → Q σ' H
def gGs (K : PySem.W.Frag) (gs : List CG) : TGs := fun vs σ H Q => ∃ ι h env env' ds, ER K H ι env σ ∧ HR K H ι h ∧ DRs K H ι ds vs ∧ bindGs gs ds env = some env' ∧ ∀ σ', ER K H ι env' σ' → (∀ i, i ∉ slotsGs gs → σ'[i]? = σ[i]?) → σ'.length = σ.length → Q σ' H
theorem PG.imp {X : Cx} {e : PySem.Expr} {t t' : TG} (h : PG X e t) (w : ∀ v σ H Q, t' v σ H Q → t v σ H Q) : PG X e t' := ⟨fun pins s σ H v u Q I r q => h.run pins s σ H v u Q I r (w _ _ _ _ q)⟩
theorem PGs.imp {X : Cx} {e : List PySem.Expr} {t t' : TGs} (h : PGs X e t) (w : ∀ v σ H Q, t' v σ H Q → t v σ H Q) : PGs X e t' := ⟨fun pins s σ H v u Q I r q => h.run pins s σ H v u Q I r (w _ _ _ _ q)⟩
theorem notStar_assign {e : PySem.Expr} {es : List PySem.Expr} {env : PySem.Env} (h : ∀ x q, e ≠ .Starred x q) : assignEach (e :: es) env = (false, assign e env) :: assignEach es env := by
  cases e <;> first | rfl | exact absurd rfl (h _ _)
theorem tg_ns {N : List Str} {ok : Str → Bool} {g : CG} {e : PySem.Expr} (h : tgIs N ok g e = true) : ∀ x q, e ≠ .Starred x q := by
  rintro x q rfl
  cases g <;> (unfold tgIs at h; cases h)
theorem tgs_each {N : List Str} {ok : Str → Bool} {env : PySem.Env} : ∀ {gs : List CG} {es : List PySem.Expr}, tgsIs N ok gs es = true → (assignEach es env).length = gs.length ∧ (assignEach es env).findIdx? (·.1) = none
  | [], es, h => by
    unfold tgsIs at h
    cases es with
    | nil => exact ⟨rfl, rfl⟩
    | cons e r => cases h
  | g :: gs, es, h => by
    unfold tgsIs at h
    cases es with
    | nil => cases h
    | cons e r =>
      dsimp only at h
      rw [Bool.and_eq_true] at h
      obtain ⟨i1, i2⟩ := tgs_each (env := env) h.2
      rw [notStar_assign (tg_ns h.1)]
      refine ⟨by rw [List.length_cons, List.length_cons, i1], ?_⟩
      rw [List.findIdx?_cons, i2]
      rfl
theorem bind_len : ∀ {gs : List CG} {ds : List D} {env env' : Env}, bindGs gs ds env = some env' → ds.length = gs.length
  | [], [], _, _, _ => rfl
  | [], _ :: _, _, _, h => by simp only [bindGs] at h; cases h
  | _ :: _, [], _, _, h => by simp only [bindGs] at h; cases h
  | g :: gs, d :: ds, env, env', h => by
    simp only [bindGs] at h
    split at h
    · rw [List.length_cons, List.length_cons, bind_len h]
    · cases h
mutual
theorem kg (hN : X.N.Nodup) (hc : X.calm = true) {ok : Str → Bool} (hf : ∀ x, ok x = true → Loc X.env.scope x ∧ (X.fn x = true ∨ X.env.scope.names.lookup x = some .local)) : ∀ (g : CG) (e : PySem.Expr), tgIs X.N ok g e = true → PG X e (gG X.K g)
  | .nm i, e, h => by
    unfold tgIs at h
    split at h
    · rename_i x pos
      rw [Bool.and_eq_true] at h
      have hx := hf x h.2
      refine PG.imp (pg_name hN (of_decide_eq_true h.1) hx.1 hx.2) fun v σ H Q q => ?_
      obtain ⟨ι, hh, env, env', d, E, R, r, b, k⟩ := q
      unfold bindG at b
      split at b
      · cases b
        exact k _ (E.set r) (fun j hj => List.getElem?_set_ne (fun z => hj (by unfold slotsG; rw [z]; exact List.mem_singleton.mpr rfl))) (List.length_set ..)
      · cases b
    · cases h
  | .tp gs, e, h => by
    unfold tgIs at h
    split at h
    · rename_i es k1 pos
      obtain ⟨i1, i2⟩ := tgs_each (env := X.env) h
      refine PG.imp (pg_tup hc (kgs hN hc hf gs es h) i1 i2) fun v σ H Q q => ?_
      obtain ⟨ι, hh, env, env', d, E, R, r, b, k⟩ := q
      unfold bindG at b
      split at b
      · obtain ⟨a, vs, rfl, ha, rs⟩ := dr_tup.mp r
        exact ⟨a, vs, rfl, SqT.of ha, by rw [← rs.len, bind_len b], ι, hh, env, env', _, E, R, rs, b, k⟩
      · cases b
    · cases h
theorem kgs (hN : X.N.Nodup) (hc : X.calm = true) {ok : Str → Bool} (hf : ∀ x, ok x = true → Loc X.env.scope x ∧ (X.fn x = true ∨ X.env.scope.names.lookup x = some .local)) : ∀ (gs : List CG) (es : List PySem.Expr), tgsIs X.N ok gs es = true → PGs X es (gGs X.K gs)
  | [], es, h => by
    unfold tgsIs at h
    cases es with
    | nil =>
      refine PGs.imp pgs_nil fun v σ H Q q => ?_
      obtain ⟨ι, hh, env, env', ds, E, R, r, b, k⟩ := q
      cases ds with
      | nil =>
        simp only [bindGs] at b
        cases b
        unfold DRs at r
        exact ⟨r, k σ E (fun _ _ => rfl) rfl⟩
      | cons d ds => simp only [bindGs] at b; cases b
    | cons e r => cases h
  | g :: gs, es, h => by
    unfold tgsIs at h
    cases es with
    | nil => cases h
    | cons e r =>
      dsimp only at h
      rw [Bool.and_eq_true] at h
      refine PGs.imp (pgs_cons (kg hN hc hf g e h.1) (kgs hN hc hf gs r h.2) (by rw [notStar_assign (tg_ns h.1)]; rfl)) fun v σ H Q q => ?_
      obtain ⟨ι, hh, env, env', ds, E, R, rr, b, k⟩ := q
      cases ds with
      | nil => simp only [bindGs] at b; cases b
      | cons d ds =>
        simp only [bindGs] at b
        split at b
        · rename_i env1 b1
          obtain ⟨w, ws, rfl, r1, r2⟩ := rr.uncons
          refine ⟨w, ws, rfl, ι, hh, env, env1, d, E, R, r1, b1, fun σ1 E1 s1 l1 => ⟨ι, hh, env1, env', ds, E1, R, r2, b, fun σ2 E2 s2 l2 => k σ2 E2 (fun i hi => ?_) (l2.trans l1)⟩⟩
          unfold slotsGs at hi
          rw [List.mem_append, not_or] at hi
          exact (s2 i hi.2).trans (s1 i hi.1)
        · cases b
end

/-! ### for -/
variable {mi : Env → M (List D × Kp)} {mt : Env → M Bool} {mk mv : Env → M D} {body : List PySem.Stmt} {msb : Env → M (Out × Env)} {g : CG}
theorem k_for (hp : PassesOwn (model X.prog X.w) X.A X.env X.xe) (hc : X.calm = true) (hi : PI X tg a (tI X.K mi)) (hg : PG X tg (gG X.K g)) (hb : PSs X body (tS X.K msb)) (hs : ∀ x, foldedSetIterable a X.env x = pure x) :
    PS X (.For tg a body [] pos) (tS X.K fun env => M.bnd (mi env) fun r => forL (bindG g) msb r.2 r.1 env) := by
  refine PS.imp (ps_for hp hc hi hg hb hs) fun D σ H q => ?_
  obtain ⟨ι, h, env, o, env', h', E, R, e, fin⟩ := q
  obtain ⟨⟨ds, ks⟩, h1, e1, e⟩ := bnd_some.mp e
  refine ⟨ι, h, env, ds, ks, h1, E, R, e1, fun J H1 ι1 g1 R1 j => ?_⟩
  replace e : forL (bindG g) msb ks ds env h1 = some ((o, env'), h') := e
  refine ⟨fun i m σ' H' => m = ds.length - i ∧ i ≤ ds.length ∧ ∃ ι' hh env1, Gr H1 ι1 H' ι' ∧ ER X.K H' ι' env1 σ' ∧ HR X.K H' ι' hh ∧ forL (bindG g) msb ks (ds.drop i) env1 hh = some ((o, env'), h'),
    ⟨ds.length, by simp, Nat.zero_le _, ι1, h1, env, Gr.refl, E.mono g1, R1, e⟩, ?_⟩
  rintro i m σ2 H2 ⟨rfl, hi, ι2, hh, env1, g2, E2, R2, e2⟩
  by_cases hlt : i < ds.length
  · rw [List.drop_eq_getElem_cons hlt] at e2
    simp only [forL] at e2
    obtain ⟨_, h3, e3, e2⟩ := bnd_some.mp e2
    obtain ⟨kp, rfl⟩ := keepM_some.mp e3
    cases b2 : bindG g ds[i] env1 with
    | none => rw [b2] at e2; exact absurd e2 no_some
    | some env2 =>
      rw [b2] at e2
      obtain ⟨⟨o3, env3⟩, h4, e4, e5⟩ := bnd_some.mp e2
      obtain ⟨gg, yy⟩ := (j i H2 ι2 hh g2 R2 kp).2 _ (List.getElem?_eq_getElem hlt)
      refine .inr ⟨gg, fun σ' H' => ∃ ι' hh env1, Gr H1 ι1 H' ι' ∧ ER X.K H' ι' env1 σ' ∧ HR X.K H' ι' hh ∧ forL (bindG g) msb ks (ds.drop (i + 1)) env1 hh = some ((o, env'), h'),
        fun σ' H' q => ⟨ds.length - (i + 1), by omega, rfl, hlt, q⟩, fun x H5 y => ?_⟩
      obtain ⟨g5, R5, r5⟩ := yy x H5 y
      refine ⟨ι2, hh, env1, env2, ds[i], E2.mono g5, R5, r5, b2, fun σ6 E6 _ _ => ⟨ι2, hh, env2, o3, env3, h4, E6, R5, e4, ?_⟩⟩
      have gt := g2.trans g5
      cases o3 with
      | nx => exact fun σ7 H7 ι7 g7 E7 R7 => ⟨ι7, h4, env3, gt.trans g7, E7, R7, e5⟩
      | ct => exact fun σ7 H7 ι7 g7 E7 R7 => ⟨ι7, h4, env3, gt.trans g7, E7, R7, e5⟩
      | bk =>
        obtain ⟨q, rfl⟩ := ret_some.mp e5
        cases q
        exact fun σ7 H7 ι7 g7 E7 R7 => fin σ7 H7 ι7 (g1.trans (gt.trans g7)) E7 R7
      | ret d =>
        obtain ⟨q, rfl⟩ := ret_some.mp e5
        cases q
        exact fun v7 H7 ι7 g7 r7 R7 => fin v7 H7 ι7 (g1.trans (gt.trans g7)) r7 R7
  · have e : i = ds.length := by omega
    subst e
    rw [List.drop_length] at e2
    simp only [forL] at e2
    obtain ⟨_, h3, e3, e2⟩ := bnd_some.mp e2
    obtain ⟨kp, rfl⟩ := keepM_some.mp e3
    obtain ⟨q, rfl⟩ := ret_some.mp e2
    cases q
    exact .inl ⟨(j ds.length H2 ι2 hh g2 R2 kp).1 rfl, fin σ2 H2 ι2 (g1.trans g2) E2 R2⟩
theorem k_whl {w : Nat} (hp : PassesOwn (model X.prog X.w) X.A X.env X.xe) (hc : PT X a (tT X.K mt)) (hb : PSs X body (tS X.K msb)) :
    PS X (.While a body [] pos) (tS X.K fun env => whlL mt msb w env) := by
  refine PS.imp (ps_while hp hc hb) fun D σ H q => ?_
  obtain ⟨ι, h, env, o, env', h', E, R, e, fin⟩ := q
  refine ⟨fun m σ' H' => ∃ ι' hh env1, Gr H ι H' ι' ∧ ER X.K H' ι' env1 σ' ∧ HR X.K H' ι' hh ∧ whlL mt msb m env1 hh = some ((o, env'), h'), ⟨w, ι, h, env, Gr.refl, E, R, e⟩, ?_⟩
  rintro m σ2 H2 ⟨ι2, hh, env1, g2, E2, R2, e2⟩
  cases m with
  | zero => simp only [whlL] at e2; exact absurd e2 no_some
  | succ m =>
    simp only [whlL] at e2
    obtain ⟨bb, h3, e3, e2⟩ := bnd_some.mp e2
    refine ⟨ι2, hh, env1, bb, h3, E2, R2, e3, fun H3 ι3 g3 R3 => ?_⟩
    have gt := g2.trans g3
    cases bb with
    | true =>
      rw [if_pos rfl] at e2
      obtain ⟨⟨o4, env4⟩, h4, e4, e5⟩ := bnd_some.mp e2
      refine iteT ⟨fun σ' H' => ∃ ι' hh env1, Gr H ι H' ι' ∧ ER X.K H' ι' env1 σ' ∧ HR X.K H' ι' hh ∧ whlL mt msb m env1 hh = some ((o, env'), h'), fun σ' H' q => ⟨m, Nat.lt_succ_self _, q⟩, ι3, h3, env1, o4, env4, h4, E2.mono g3, R3, e4, ?_⟩
      cases o4 with
      | nx => exact fun σ7 H7 ι7 g7 E7 R7 => ⟨ι7, h4, env4, gt.trans g7, E7, R7, e5⟩
      | ct => exact fun σ7 H7 ι7 g7 E7 R7 => ⟨ι7, h4, env4, gt.trans g7, E7, R7, e5⟩
      | bk =>
        obtain ⟨q, rfl⟩ := ret_some.mp e5
        cases q
        exact fun σ7 H7 ι7 g7 E7 R7 => fin σ7 H7 ι7 (gt.trans g7) E7 R7
      | ret d =>
        obtain ⟨q, rfl⟩ := ret_some.mp e5
        cases q
        exact fun v7 H7 ι7 g7 r7 R7 => fin v7 H7 ι7 (gt.trans g7) r7 R7
    | false =>
      rw [if_neg Bool.false_ne_true] at e2
      obtain ⟨q, rfl⟩ := ret_some.mp e2
      cases q
      exact iteF (fin σ2 H3 ι3 gt (E2.mono g3) R3)
end
end Mi

set_option maxHeartbeats 4000000
/-! MiComp: comprehensions, written dicts, list(range(..)). -/
namespace Mi
open PySem PySem.Spec PyProof.Rows L2

theorem wipe_in {σ : L2.St} {i : Nat} : ∀ {vs : List Nat}, i ∈ vs → i < σ.length → (L2.wipe σ vs)[i]? = some none
  | v :: vs, h, hl => by
    unfold L2.wipe
    by_cases e : v = i
    · subst e
      exact List.getElem?_set_self (by rw [wipe_length]; exact hl)
    · rw [List.getElem?_set_ne e]
      exact wipe_in ((List.mem_cons.mp h).resolve_left fun z => e z.symm) hl
theorem wipe_same {σ τ : L2.St} {vs : List Nat} (h : ∀ i, i ∉ vs → τ[i]? = (L2.wipe σ vs)[i]?) (hl : τ.length = (L2.wipe σ vs).length) : L2.wipe τ vs = L2.wipe σ vs := by
  refine List.ext_getElem? fun i => ?_
  by_cases m : i ∈ vs
  · by_cases l : i < σ.length
    · rw [wipe_in m l, wipe_in m (by rw [hl, wipe_length]; exact l)]
    · rw [List.getElem?_eq_none (by rw [wipe_length, hl, wipe_length]; omega), List.getElem?_eq_none (by rw [wipe_length]; omega)]
  · rw [wipe_out m, h i m]

section
variable {X : Cx} {a tg elt kx vx : PySem.Expr} {pos p p2 p3 : PySem.Pos} {G : Ga} {ifs : List PySem.Expr} {scope : Scope} {own : List (Str × Nat)}
variable {mi : Env → M (List D × Kp)} {mt : Env → M Bool} {me mk mv : Env → M D} {g : CG}
theorem kts_nil : PTs X [] (tT X.K fun env => evOT G none env) := by
  refine ⟨fun pins s σ H Q I q => pts_nil.run pins s σ H Q I ?_⟩
  obtain ⟨ι, h, env, b, h', E, R, e, k⟩ := q
  unfold evOT at e
  obtain ⟨rfl, rfl⟩ := ret_some.mp e
  exact k H ι Gr.refl R
theorem kts_one (h : PT X a (tT X.K mt)) : PTs X [a] (tT X.K mt) := pts_one h
theorem push_some {n : Nat} {d : D} {h h' : MH} (e : pushAt n d h = some ((), h')) : ∃ xs, h[n]? = some (.lst xs) ∧ xs.length < LINE ∧ h' = h.set n (.lst (xs ++ [d])) := by
  obtain ⟨m, xs, e1, h1, h2, h3⟩ := app_some e
  cases e1
  exact ⟨xs, h1, h2, h3⟩
theorem k_lc (hc : X.calm = true) (hN : X.N.Nodup) (hi : PI X tg a (tI X.K mi)) (ok : BlkOk X.N X.env.scope scope own)
    (hg : ∀ (s : Shared) (H : Hp) (C : Addr) (cl : List (Str × Addr)) (fp : List Addr), PG (X.blk s H scope (compEnvC scope cl C X.env) fp) tg (gG X.K g))
    (ht : ∀ (s : Shared) (H : Hp) (C : Addr) (cl : List (Str × Addr)) (fp : List Addr), PTs (X.blk s H scope (compEnvC scope cl C X.env) fp) ifs (tT X.K mt))
    (he : ∀ (s : Shared) (H : Hp) (C : Addr) (cl : List (Str × Addr)) (fp : List Addr), PE (X.blk s H scope (compEnvC scope cl C X.env) fp) elt (tE X.K me))
    (hs : ∀ x, foldedSetIterable a X.env x = pure x) (hw : ∀ i ∈ slotsG g, i ∈ own.map (·.2)) :
    (∀ σ H Q, tE X.K (fun env => M.bnd (mi env) fun r h => (M.bnd (M.new (.lst [])) fun l => M.bnd (lcL (bindG g) mt me r.2 h.length (wipeE env (own.map (·.2))) r.1) fun _ => M.ret l) h) σ H Q → tLc (tI X.K mi) (gG X.K g) (tT X.K mt) (tE X.K me) (own.map (·.2)) σ H Q) := by
  intro σ H Q q
  obtain ⟨ι, h, env, d, h', E, R, e, fin⟩ := q
  obtain ⟨⟨ds, ks⟩, h1, e1, e⟩ := bnd_some.mp e
  refine ⟨ι, h, env, ds, ks, h1, E, R, e1, fun J H1 ι1 g1 R1 j Dn nD => ?_⟩
  obtain ⟨l, h2, e2, e⟩ := bnd_some.mp (show (M.bnd (M.new (.lst [])) fun l => M.bnd (lcL (bindG g) mt me ks h1.length (wipeE env (own.map (·.2))) ds) fun _ => M.ret l) h1 = some (d, h') from e)
  cases e2
  obtain ⟨_, h3, e3, e⟩ := bnd_some.mp e
  obtain ⟨rfl, rfl⟩ := ret_some.mp e
  have R2 : HR X.K (upd H1 Dn (.lst [])) (ι1 ++ [Dn]) (h1 ++ [.lst []]) := R1.new nD fun H' ι' gg ee => ⟨[], ee, DRs.nil_⟩
  have gD : Gr H1 ι1 (upd H1 Dn (.lst [])) (ι1 ++ [Dn]) := gr_new nD [Dn]
  have iD : (ι1 ++ [Dn])[h1.length]? = some Dn := by rw [← R1.len, List.getElem?_concat_length]
  refine ⟨fun i m H' => m = ds.length - i ∧ i ≤ ds.length ∧ ∃ ι' hh, Gr (upd H1 Dn (.lst [])) (ι1 ++ [Dn]) H' ι' ∧ HR X.K H' ι' hh ∧ lcL (bindG g) mt me ks h1.length (wipeE env (own.map (·.2))) (ds.drop i) hh = some ((), h3),
    ⟨ds.length, by simp, Nat.zero_le _, _, _, Gr.refl, R2, e3⟩, ?_⟩
  rintro i m H2 ⟨rfl, hi', ι2, hh, g2, R3, e4⟩
  by_cases hlt : i < ds.length
  · rw [List.drop_eq_getElem_cons hlt] at e4
    simp only [lcL] at e4
    obtain ⟨_, h5, e5, e4⟩ := bnd_some.mp e4
    obtain ⟨kp, rfl⟩ := keepM_some.mp e5
    cases b2 : bindG g ds[i] (wipeE env (own.map (·.2))) with
    | none => rw [b2] at e4; exact absurd e4 no_some
    | some env2 =>
      rw [b2] at e4
      obtain ⟨tb, h6, e6, e7⟩ := bnd_some.mp e4
      obtain ⟨gg, yy⟩ := (j i H2 ι2 hh (gD.trans g2) R3 kp).2 _ (List.getElem?_eq_getElem hlt)
      refine .inr ⟨gg, fun H' => ∃ ι' hh, Gr (upd H1 Dn (.lst [])) (ι1 ++ [Dn]) H' ι' ∧ HR X.K H' ι' hh ∧ lcL (bindG g) mt me ks h1.length (wipeE env (own.map (·.2))) (ds.drop (i + 1)) hh = some ((), h3),
        fun H' q => ⟨ds.length - (i + 1), by omega, rfl, hlt, q⟩, fun x H5 y => ?_⟩
      obtain ⟨g5, R5, r5⟩ := yy x H5 y
      have gt := g2.trans g5
      have E5 : ER X.K H5 ι2 (wipeE env (own.map (·.2))) (L2.wipe σ (own.map (·.2))) := ((E.mono g1).mono (gD.trans gt)).wipe _
      refine ⟨ι2, hh, _, env2, ds[i], E5, R5, r5, b2, fun σ6 E6 s6 l6 => ⟨wipe_same (fun i hi => s6 i fun z => hi (hw i z)) l6, ι2, hh, env2, tb, h6, E6, R5, e6, fun H7 ι7 g7 R7 => ?_⟩⟩
      cases tb with
      | true =>
        rw [if_pos rfl] at e7
        refine iteT ?_
        obtain ⟨yd, h8, e8, e9⟩ := bnd_some.mp e7
        obtain ⟨_, h9, e10, e11⟩ := bnd_some.mp e9
        refine ⟨ι7, h6, env2, yd, h8, E6.mono g7, R7, e8, fun v8 H8 ι8 g8 r8 R8 => ?_⟩
        obtain ⟨xs, hx, c, rfl⟩ := push_some e10
        have iD8 : ι8[h1.length]? = some Dn := (gt.trans (g7.trans g8)).at_ iD
        obtain ⟨vs, hv, rs⟩ := R8.at_ _ _ _ iD8 hx
        obtain ⟨g9, R9⟩ := R8.put (o := .lst (vs ++ [v8])) (mo := .lst (xs ++ [yd])) iD8 fun H' ι' gg ee => ⟨_, ee, (rs.snoc_ r8).mono gg⟩
        exact ⟨vs, hv, by rw [line_le, ← rs.len]; exact c, ι8, _, gt.trans (g7.trans (g8.trans g9)), R9, e11⟩
      | false =>
        rw [if_neg Bool.false_ne_true] at e7
        exact iteF ⟨ι7, h6, gt.trans g7, R7, e7⟩
  · have ei : i = ds.length := by omega
    subst ei
    rw [List.drop_length] at e4
    simp only [lcL] at e4
    obtain ⟨kp, rfl⟩ := keepM_some.mp e4
    refine .inl ⟨(j ds.length H2 ι2 hh (gD.trans g2) R3 kp).1 rfl, fin _ H2 ι2 (g1.trans (gD.trans g2)) ?_ R3⟩
    rw [dr_obj]
    exact ⟨Dn, g2.at_ iD, rfl⟩
theorem putK_some {n : Nat} {k v : D} {h h' : MH} (e : putKat n k v h = some ((), h')) : ∃ kvs kk, h[n]? = some (.dic kvs) ∧ keyOf k = some kk ∧ kvs.length < LINE ∧ h' = h.set n (.dic (kput kvs kk v)) := by
  unfold putKat at e
  split at e
  · rename_i kvs hn
    split at e
    · rename_i kk hk
      split at e
      · rename_i c
        cases e
        exact ⟨kvs, kk, hn, hk, c, rfl⟩
      · cases e
    · cases e
  · cases e
theorem k_dc0 (hc : X.calm = true) (hN : X.N.Nodup) (hi : PI X tg a (tI X.K mi)) (ok : BlkOk X.N X.env.scope scope own)
    (hg : ∀ (s : Shared) (H : Hp) (C : Addr) (cl : List (Str × Addr)) (fp : List Addr), PG (X.blk s H scope (compEnvC scope cl C X.env) fp) tg (gG X.K g))
    (hk : ∀ (s : Shared) (H : Hp) (C : Addr) (cl : List (Str × Addr)) (fp : List Addr), PE (X.blk s H scope (compEnvC scope cl C X.env) fp) kx (tE X.K mk))
    (he : ∀ (s : Shared) (H : Hp) (C : Addr) (cl : List (Str × Addr)) (fp : List Addr), PE (X.blk s H scope (compEnvC scope cl C X.env) fp) vx (tE X.K mv))
    (hs : ∀ x, foldedSetIterable a X.env x = pure x) (hw : ∀ i ∈ slotsG g, i ∈ own.map (·.2)) :
    (∀ σ H Q, tE X.K (fun env => M.bnd (mi env) fun r h => (M.bnd (M.new (.dic [])) fun l => M.bnd (dcL (bindG g) mk mv r.2 h.length (wipeE env (own.map (·.2))) r.1) fun _ => M.ret l) h) σ H Q → tDc (tI X.K mi) (gG X.K g) tYes (tE X.K mk) (tE X.K mv) (own.map (·.2)) σ H Q) := by
  intro σ H Q q
  obtain ⟨ι, h, env, d, h', E, R, e, fin⟩ := q
  obtain ⟨⟨ds, ks⟩, h1, e1, e⟩ := bnd_some.mp e
  refine ⟨ι, h, env, ds, ks, h1, E, R, e1, fun J H1 ι1 g1 R1 j Dn nD => ?_⟩
  obtain ⟨l, h2, e2, e⟩ := bnd_some.mp (show (M.bnd (M.new (.dic [])) fun l => M.bnd (dcL (bindG g) mk mv ks h1.length (wipeE env (own.map (·.2))) ds) fun _ => M.ret l) h1 = some (d, h') from e)
  cases e2
  obtain ⟨_, h3, e3, e⟩ := bnd_some.mp e
  obtain ⟨rfl, rfl⟩ := ret_some.mp e
  have R2 : HR X.K (upd H1 Dn (.dK [])) (ι1 ++ [Dn]) (h1 ++ [.dic []]) := R1.new nD fun H' ι' gg ee => ⟨[], ee, rfl⟩
  have gD : Gr H1 ι1 (upd H1 Dn (.dK [])) (ι1 ++ [Dn]) := gr_new nD [Dn]
  have iD : (ι1 ++ [Dn])[h1.length]? = some Dn := by rw [← R1.len, List.getElem?_concat_length]
  refine ⟨fun i m H' => m = ds.length - i ∧ i ≤ ds.length ∧ ∃ ι' hh, Gr (upd H1 Dn (.dK [])) (ι1 ++ [Dn]) H' ι' ∧ HR X.K H' ι' hh ∧ dcL (bindG g) mk mv ks h1.length (wipeE env (own.map (·.2))) (ds.drop i) hh = some ((), h3),
    ⟨ds.length, by simp, Nat.zero_le _, _, _, Gr.refl, R2, e3⟩, ?_⟩
  rintro i m H2 ⟨rfl, hi', ι2, hh, g2, R3, e4⟩
  by_cases hlt : i < ds.length
  · rw [List.drop_eq_getElem_cons hlt] at e4
    simp only [dcL] at e4
    obtain ⟨_, h5, e5, e4⟩ := bnd_some.mp e4
    obtain ⟨kp, rfl⟩ := keepM_some.mp e5
    cases b2 : bindG g ds[i] (wipeE env (own.map (·.2))) with
    | none => rw [b2] at e4; exact absurd e4 no_some
    | some env2 =>
      rw [b2] at e4
      obtain ⟨kd, h6, e6, e7⟩ := bnd_some.mp e4
      obtain ⟨vd, h7, e8, e9⟩ := bnd_some.mp e7
      obtain ⟨_, h8, e10, e11⟩ := bnd_some.mp e9
      obtain ⟨gg, yy⟩ := (j i H2 ι2 hh (gD.trans g2) R3 kp).2 _ (List.getElem?_eq_getElem hlt)
      refine .inr ⟨gg, fun H' => ∃ ι' hh, Gr (upd H1 Dn (.dK [])) (ι1 ++ [Dn]) H' ι' ∧ HR X.K H' ι' hh ∧ dcL (bindG g) mk mv ks h1.length (wipeE env (own.map (·.2))) (ds.drop (i + 1)) hh = some ((), h3),
        fun H' q => ⟨ds.length - (i + 1), by omega, rfl, hlt, q⟩, fun x H5 y => ?_⟩
      obtain ⟨g5, R5, r5⟩ := yy x H5 y
      have gt := g2.trans g5
      have E5 : ER X.K H5 ι2 (wipeE env (own.map (·.2))) (L2.wipe σ (own.map (·.2))) := ((E.mono g1).mono (gD.trans gt)).wipe _
      refine ⟨ι2, hh, _, env2, ds[i], E5, R5, r5, b2, fun σ6 E6 s6 l6 => ⟨wipe_same (fun i hi => s6 i fun z => hi (hw i z)) l6, ?_⟩⟩
      unfold tYes
      refine iteT ?_
      refine ⟨ι2, hh, env2, kd, h6, E6, R5, e6, fun v7 H7 ι7 g7 r7 R7 => ⟨ι7, h6, env2, vd, h7, E6.mono g7, R7, e8, fun v8 H8 ι8 g8 r8 R8 => ?_⟩⟩
      obtain ⟨kvs, kk, hx, hk', c, rfl⟩ := putK_some e10
      have iD8 : ι8[h1.length]? = some Dn := (gt.trans (g7.trans g8)).at_ iD
      obtain ⟨vs, hv, rs⟩ := R8.at_ _ _ _ iD8 hx
      obtain ⟨g9, R9⟩ := R8.put (o := .dK (putK vs kk v8)) (mo := .dic (kput kvs kk vd)) iD8 fun H' ι' gg ee => ⟨_, ee, (rs.put kk r8).mono gg⟩
      exact ⟨vs, kk, key_dr (r7.mono g8) hk', hv, by rw [line_le, ← rs.len]; exact c, ι8, _, gt.trans (g7.trans (g8.trans g9)), R9, e11⟩
  · have ei : i = ds.length := by omega
    subst ei
    rw [List.drop_length] at e4
    simp only [dcL] at e4
    obtain ⟨kp, rfl⟩ := keepM_some.mp e4
    refine .inl ⟨(j ds.length H2 ι2 hh (gD.trans g2) R3 kp).1 rfl, fin _ H2 ι2 (g1.trans (gD.trans g2)) ?_ R3⟩
    rw [dr_obj]
    exact ⟨Dn, g2.at_ iD, rfl⟩

theorem k_dc (hc : X.calm = true) (hN : X.N.Nodup) (hi : PI X tg a (tI X.K mi)) (ok : BlkOk X.N X.env.scope scope own)
    (hg : ∀ (s : Shared) (H : Hp) (C : Addr) (cl : List (Str × Addr)) (fp : List Addr), PG (X.blk s H scope (compEnvC scope cl C X.env) fp) tg (gG X.K g))
    (hk : ∀ (s : Shared) (H : Hp) (C : Addr) (cl : List (Str × Addr)) (fp : List Addr), PE (X.blk s H scope (compEnvC scope cl C X.env) fp) kx (tE X.K mk))
    (he : ∀ (s : Shared) (H : Hp) (C : Addr) (cl : List (Str × Addr)) (fp : List Addr), PE (X.blk s H scope (compEnvC scope cl C X.env) fp) vx (tE X.K mv))
    (hs : ∀ x, foldedSetIterable a X.env x = pure x) (hw : ∀ i ∈ slotsG g, i ∈ own.map (·.2)) :
    PE X (.DictComp kx vx [⟨tg, a, [], 0⟩] scope pos) (tE X.K fun env => M.bnd (mi env) fun r h => (M.bnd (M.new (.dic [])) fun l => M.bnd (dcL (bindG g) mk mv r.2 h.length (wipeE env (own.map (·.2))) r.1) fun _ => M.ret l) h) :=
  PE.imp (pe_dc hc hN hi ok hg (fun _ _ _ _ _ => pts_nil) hk he hs) (k_dc0 hc hN hi ok hg hk he hs hw)

/-! ### written dicts -/
theorem dic_map {K : PySem.W.Frag} {H : Hp} {ι : List Addr} : ∀ {ps : List (D × D)} {kvs : List (Key × D)} {vs : List (V × V)}, (∀ (i : Nat) (p : D × D), ps[i]? = some p → ∃ v : V × V, vs[i]? = some v ∧ DR K H ι p.1 v.1 ∧ DR K H ι p.2 v.2) → ps.length = vs.length →
    ps.mapM (fun p => (keyOf p.1).map fun k => (k, p.2)) = some kvs → ∃ ks, vs = ks.map (fun kv => (kV kv.1, kv.2)) ∧ KRs K H ι kvs ks
  | [], kvs, vs, _, hl, e => by
    rw [List.mapM_nil] at e
    cases e
    have : vs = [] := List.eq_nil_of_length_eq_zero hl.symm
    subst this
    exact ⟨[], rfl, rfl⟩
  | p :: ps, kvs, vs, r, hl, e => by
    cases vs with
    | nil => cases hl
    | cons v vs =>
      rw [List.mapM_cons] at e
      obtain ⟨q, e1, e⟩ := Option.bind_eq_some_iff.mp e
      obtain ⟨qs, e2, e⟩ := Option.bind_eq_some_iff.mp e
      cases e
      obtain ⟨k, ek, rfl⟩ := Option.map_eq_some_iff.mp e1
      obtain ⟨w, ew, r1, r2⟩ := r 0 p rfl
      cases ew
      obtain ⟨ks, rfl, rk⟩ := dic_map (ps := ps) (vs := vs) (fun i p h => r (i + 1) p h) (Nat.succ.inj hl) e2
      refine ⟨(k, v.2) :: ks, ?_, ?_⟩
      · rw [List.map_cons, ← key_dr r1 ek]
      · unfold KRs
        exact ⟨v.2, ks, rfl, r2, rk⟩
theorem merge_dr {K : PySem.W.Frag} {H : Hp} {ι : List Addr} : ∀ {kvs : List (Key × D)} {ks : List (L2.Key × V)} {acc : List (Key × D)} {ac : List (L2.Key × V)}, KRs K H ι kvs ks → KRs K H ι acc ac →
    KRs K H ι (kvs.foldl (fun a kv => kput a kv.1 kv.2) acc) (mergeK ac ks)
  | [], _, _, _, r, ra => by
    unfold KRs at r
    subst r
    exact ra
  | p :: kvs, _, acc, ac, r, ra => by
    unfold KRs at r
    obtain ⟨w, ws, rfl, r1, r2⟩ := r
    exact merge_dr (kvs := kvs) (ks := ws) (acc := kput acc p.1 p.2) (ac := putK ac p.1 w) r2 (ra.put p.1 r1)
/-- the pairs of a written dict -/
def tPs (K : PySem.W.Frag) (m : Env → M (List (D × D))) : L2.St → Hp → (List (V × V) → Hp → Prop) → Prop := fun σ H Q => ∃ ι h env ps h', ER K H ι env σ ∧ HR K H ι h ∧ m env h = some (ps, h') ∧
  ∀ (vs : List (V × V)) H' ι', Gr H ι H' ι' → (∀ (i : Nat) (p : D × D), ps[i]? = some p → ∃ v : V × V, vs[i]? = some v ∧ DR K H' ι' p.1 v.1 ∧ DR K H' ι' p.2 v.2) → ps.length = vs.length → HR K H' ι' h' → Q vs H'
structure KPs (X : Cx) (pos : PySem.Pos) (keys : List (Option PySem.Expr)) (values : List PySem.Expr) (m : Env → M (List (D × D))) : Prop where
  some_ : ∃ trs, PPs X pos keys values trs ∧ ∀ σ H Q, tPs X.K m σ H Q → tPairs trs σ H Q
theorem kps_nil : KPs X pos [] [] (fun env => evPs G [] env) := ⟨[], pps_nil, fun σ H Q q => by
  obtain ⟨ι, h, env, ps, h', E, R, e, k⟩ := q
  unfold evPs at e
  obtain ⟨rfl, rfl⟩ := ret_some.mp e
  exact k [] H ι Gr.refl (fun i p h => by simp at h) rfl R⟩
theorem kps_cons {ks : List (Option PySem.Expr)} {vs : List PySem.Expr} {ms : Env → M (List (D × D))} (hk : PE X kx (tE X.K mk)) (hv : PE X vx (tE X.K mv)) (hr : KPs X pos ks vs ms) :
    KPs X pos (some kx :: ks) (vx :: vs) (fun env => M.bnd (mk env) fun x => M.bnd (mv env) fun y => M.bnd (ms env) fun xs => M.ret ((x, y) :: xs)) := by
  obtain ⟨trs, ht, hi⟩ := hr.some_
  refine ⟨_, pps_cons hk hv ht, fun σ H Q q => ?_⟩
  obtain ⟨ι, h, env, ps, h', E, R, e, k⟩ := q
  obtain ⟨x, h1, e1, e⟩ := bnd_some.mp e
  obtain ⟨y, h2, e2, e⟩ := bnd_some.mp e
  obtain ⟨xs, h3, e3, e⟩ := bnd_some.mp e
  obtain ⟨rfl, rfl⟩ := ret_some.mp e
  refine ⟨ι, h, env, x, h1, E, R, e1, fun v1 H1 ι1 g1 r1 R1 => ⟨ι1, h1, env, y, h2, E.mono g1, R1, e2, fun v2 H2 ι2 g2 r2 R2 => hi σ H2 _ ⟨ι2, h2, env, xs, _, E.mono (g1.trans g2), R2, e3, fun vs3 H3 ι3 g3 r3 l3 R3 => ?_⟩⟩⟩
  refine k ((v1, v2) :: vs3) H3 ι3 (g1.trans (g2.trans g3)) (fun i p hp => ?_) (congrArg Nat.succ l3) R3
  cases i with
  | zero =>
    cases hp
    exact ⟨(v1, v2), rfl, r1.mono (g2.trans g3), r2.mono g3⟩
  | succ i => exact r3 i p hp
theorem k_dsp {keys : List (Option PySem.Expr)} {values : List PySem.Expr} {ms : Env → M (List (D × D))} (h : KPs X pos keys values ms) (hall : keys.all (·.isSome) = true) (hl : keys.length = values.length) (h0 : keys ≠ []) (h15 : keys.length ≤ 15) :
    PE X (.Dict keys values pos) (tE X.K fun env h => (M.bnd (M.new (.dic [])) fun _ => M.bnd (ms env) fun ps => dspL h.length ps) h) := by
  obtain ⟨trs, ht, hi⟩ := h.some_
  refine PE.imp (pe_disp ht hall hl h0 h15) fun σ H Q q => ?_
  obtain ⟨ι, h, env, d, h', E, R, e, k⟩ := q
  intro Dn nD
  obtain ⟨l, h2, e2, e⟩ := bnd_some.mp (show (M.bnd (M.new (.dic [])) fun _ => M.bnd (ms env) fun ps => dspL h.length ps) h = some (d, h') from e)
  cases e2
  obtain ⟨ps, h3, e3, e⟩ := bnd_some.mp e
  have R2 : HR X.K (upd H Dn (.dK [])) (ι ++ [Dn]) (h ++ [.dic []]) := R.new nD fun H' ι' gg ee => ⟨[], ee, rfl⟩
  have gD : Gr H ι (upd H Dn (.dK [])) (ι ++ [Dn]) := gr_new nD [Dn]
  have iD : (ι ++ [Dn])[h.length]? = some Dn := by rw [← R.len, List.getElem?_concat_length]
  refine hi σ _ _ ⟨_, _, env, ps, h3, E.mono gD, R2, e3, fun vs H3 ι3 g3 r3 l3 R3 => ?_⟩
  unfold dspL at e
  split at e
  · rename_i hn
    split at e
    · rename_i kvs hk
      split at e
      · rename_i c
        cases e
        obtain ⟨ks, rfl, rk⟩ := dic_map r3 l3 hk
        have iD3 := g3.at_ iD
        obtain ⟨k0, hk0, r0⟩ := R3.at_ _ _ _ iD3 hn
        unfold KRs at r0
        subst r0
        obtain ⟨g9, R9⟩ := R3.put (o := .dK (mergeK [] ks)) (mo := .dic (kvs.foldl (fun a kv => kput a kv.1 kv.2) [])) iD3 fun H' ι' gg ee => ⟨_, ee, (merge_dr rk (by unfold KRs; rfl)).mono gg⟩
        refine ⟨hk0, ks, rfl, by rw [← rk.len]; exact c, k _ _ ι3 (gD.trans (g3.trans g9)) ?_ R9⟩
        rw [dr_obj]
        exact ⟨Dn, iD3, rfl⟩
      · cases e
    · cases e
  · cases e
theorem k_dsp0 : PE X (.Dict [] [] pos) (tE X.K fun env => evE G (.dsp []) env) := by
  refine PE.imp pe_dnewK fun σ H Q q => ?_
  obtain ⟨ι, h, env, d, h', E, R, e, k⟩ := q
  intro Dn nD
  unfold evE at e
  obtain ⟨l, h2, e2, e⟩ := bnd_some.mp (show (M.bnd (M.new (.dic [])) fun _ => M.bnd (evPs G [] env) fun ps => dspL h.length ps) h = some (d, h') from e)
  cases e2
  obtain ⟨ps, h3, e3, e⟩ := bnd_some.mp e
  unfold evPs at e3
  obtain ⟨rfl, rfl⟩ := ret_some.mp e3
  unfold dspL at e
  rw [List.getElem?_concat_length] at e
  simp only [List.mapM_nil, List.foldl_nil] at e
  have R2 : HR X.K (upd H Dn (.dK [])) (ι ++ [Dn]) (h ++ [.dic []]) := R.new nD fun H' ι' gg ee => ⟨[], ee, rfl⟩
  have gD : Gr H ι (upd H Dn (.dK [])) (ι ++ [Dn]) := gr_new nD [Dn]
  replace e : some (D.obj h.length, (h ++ [MO.dic []]).set h.length (.dic [])) = some (d, h') := e
  rw [List.set_append_right _ _ (Nat.le_refl _), Nat.sub_self] at e
  cases e
  refine k _ _ _ gD ?_ R2
  rw [dr_obj]
  exact ⟨Dn, by rw [← R.len, List.getElem?_concat_length], rfl⟩

/-! ### list(range(..)) -/
theorem rg_dr {K : PySem.W.Frag} {H : Hp} {ι : List Addr} (lo hi : Int) : DRs K H ι (rngL lo (hi - lo).toNat) (rgV lo hi) := by
  unfold rngL rgV
  generalize (hi - lo).toNat = n
  induction n with
  | zero => exact DRs.nil_
  | succ n ih =>
    rw [List.range_succ, List.map_append, List.map_append]
    exact ih.append (DRs.cons_ (dr_int.mpr rfl) DRs.nil_)
theorem k_lrng1 {ma : Env → M D} {p' pos' : PySem.Pos} (hc : X.calm = true) (hg : Gl X "list") (hm : X.mg "list" = none) (hg2 : Gl X "range") (hm2 : X.mg "range" = none) (ha : PE X a (tE X.K ma)) (na : starEach [a] X.env = (false, eval a X.env) :: starEach [] X.env) :
    PE X (.Call (.Name "list" p) [.Call (.Name "range" p') [a] [] pos'] [] pos) (tE X.K fun env => M.bnd (M.bnd (ma env) fun y => match y with
      | .int j => if within62 j then M.ret (rngL 0 j.toNat, ([] : Kp)) else M.no
      | _ => M.no) fun r => if r.1.length ≤ LINE then M.new (.lst r.1) else M.no) := by
  refine PE.imp (pe_listRg hc hg hm (prg_1 hg2 hm2 ha na)) fun σ H Q q => ?_
  obtain ⟨ι, h, env, d, h', E, R, e, k⟩ := q
  obtain ⟨r, h1, e1, e⟩ := bnd_some.mp e
  obtain ⟨x, h2, e2, e1⟩ := bnd_some.mp e1
  split at e1
  · split at e1
    · rename_i j c
      obtain ⟨rfl, rfl⟩ := ret_some.mp e1
      dsimp only at e
      split at e
      · rename_i c2
        cases e
        obtain ⟨c3, c4⟩ := w62 c
        have hlen : j.toNat ≤ 2 ^ 24 := by
          unfold rngL at c2
          rw [List.length_map, List.length_range, LINE_eq] at c2
          exact c2
        refine ⟨ι, h, env, _, _, E, R, e2, fun v1 H1 ι1 g1 r1 R1 => ⟨j, dr_int.mp r1, ⟨by omega, by omega, c3, c4, by rw [Int.sub_zero]; exact hlen⟩, ?_⟩⟩
        have rr : DRs X.K H1 ι1 (rngL 0 j.toNat) (rgV 0 j) := by
          have := rg_dr (K := X.K) (H := H1) (ι := ι1) 0 j
          rw [Int.sub_zero] at this
          exact this
        exact fin_lst R1 rr fun v H' ι' g r R' => k v H' ι' (g1.trans g) r R'
      · exact absurd e no_some
    · exact absurd e1 no_some
  · exact absurd e1 no_some
end
end Mi

set_option maxHeartbeats 4000000
/-! MiTr: does a term of the small language say what a piece of the program's text says? -/
namespace Mi
open PySem PySem.Spec PyProof.Rows L2

/-- what a text is read under: the slots' names, the scope, which captured names may be stored, the defs with their parameters, calls by keywords (def, names as written, places), free names -/
structure Cxt where
  N : List Str
  sc : Scope
  stc : Str → Bool
  fn : List (Str × List Str)
  kw : List (Nat × List Str × List Nat)
  free : List Str

def visN (sc : Scope) (x : Str) : Bool := match sc.names.lookup x with
  | some .local => true
  | some .cell => true
  | some .free => true
  | _ => false
def glN (sc : Scope) (x : Str) : Bool := match sc.names.lookup x with
  | some .globalImplicit => true
  | _ => false
def storeN (c : Cxt) (x : Str) : Bool := match c.sc.names.lookup x with
  | some .local => true
  | some .cell => c.stc x
  | _ => false
def notStar : PySem.Expr → Bool
  | .Starred _ _ => false
  | _ => true
def notSet : PySem.Expr → Bool
  | .Set _ _ _ => false
  | _ => true
def notSlice : PySem.Expr → Bool
  | .Slice _ _ _ _ => false
  | _ => true
def notDC : PySem.Expr → Bool
  | .SetComp _ _ _ _ => false
  | .DictComp _ _ _ _ _ => false
  | _ => true
def notSC : PySem.Expr → Bool
  | .SetComp _ _ _ _ => false
  | _ => true
/-- stores of a written tuple are not turned round -/
def swapN (sc : Scope) (ts vs : List PySem.Expr) : Bool :=
  !(ts.length == 2 || ts.length == 3) || vs.length != ts.length ||
    (ts.filterMap fun t => match t with
      | .Name id p => if sc.names.lookup id == some .local && p.line == (ts.head?.map (·.pos.line)).getD 0 then some id else none
      | _ => none).length != ts.length
def noSwap (sc : Scope) (es : List PySem.Expr) : PySem.Expr → Bool
  | .Tuple vs _ _ => swapN sc es vs
  | _ => true
def notComp : PySem.Expr → Bool
  | .ListComp _ _ _ _ => false
  | .SetComp _ _ _ _ => false
  | .DictComp _ _ _ _ _ => false
  | _ => true
/-- an expression whose test is its value's truth -/
def plainT : PySem.Expr → Bool
  | .UnaryOp .Not _ _ => false
  | .BoolOp _ _ _ => false
  | .IfExp _ _ _ _ => false
  | .Compare _ _ _ _ => false
  | _ => true
/-- an expression whose attribute is read plainly -/
def plainB : PySem.Expr → Bool
  | .Call _ _ _ _ => false
  | _ => true
def bltName : Blt → Str
  | .len => "len" | .abs => "abs" | .int => "int" | .str => "str" | .list => "list" | .tuple => "tuple" | .sum => "sum" | .sorted => "sorted" | .min2 => "min" | .max2 => "max" | .min1 => "min" | .max1 => "max"
def metName : Mt → Str
  | .index => "index" | .pop => "pop" | .popAt => "pop" | .insert => "insert" | .extend => "extend"
def metArity : Mt → Nat
  | .index => 1 | .pop => 0 | .popAt => 1 | .insert => 2 | .extend => 1
def freeN (c : Cxt) (x : Str) : Bool := glN c.sc x && c.free.contains x
def cstIs : D → Const → Bool
  | .non, .none => true
  | .bl a, .bool b => a == b
  | .int a, .int b => a == b
  | .str a, .str b => decide (a = b)
  | _, _ => false
def bopIs : BOp → Operator → Bool
  | .add, .Add => true | .sub, .Sub => true | .mul, .Mult => true | .fdiv, .FloorDiv => true | .mod, .Mod => true | .pow, .Pow => true
  | _, _ => false
def copIs : COp → CmpOp → Bool
  | .eq, .Eq => true | .ne, .NotEq => true | .lt, .Lt => true | .le, .LtE => true | .gt, .Gt => true | .ge, .GtE => true
  | .isN, .Is => true | .notN, .IsNot => true | .in_, .In => true | .notIn, .NotIn => true
  | _, _ => false
def ownN (N : List Str) (own : List Nat) : List (Str × Nat) := own.map fun i => ((N[i]?).getD Str.empty, i)
/-- a target as written -/
abbrev chkG (c : Cxt) (g : CG) (e : PySem.Expr) : Bool := tgIs c.N (storeN c) g e
def isTupE : PySem.Expr → Bool
  | .Tuple _ _ _ => true
  | _ => false
/-- the context of a comprehension's block -/
def Cxt.blk (c : Cxt) (scope : Scope) : Cxt := { c with sc := relS scope c.sc, stc := fun x => scope.names.lookup x == some .cell }

mutual
def chkE : CE → Cxt → PySem.Expr → Bool
  | .var i, c, e => match e with
    | .Name x _ => decide (c.N[i]? = some x) && visN c.sc x && !(x == ("__debug__" : Str)) && !(x == ("__classdict__" : Str))
    | _ => false
  | .cst d, _, e => match e with
    | .Constant k _ _ => cstIs d k
    | _ => false
  | .tup es, c, e => match e with
    | .Tuple xs _ _ => chkEs es c xs
    | _ => false
  | .lst es, c, e => match e with
    | .List xs _ => chkEs es c xs
    | _ => false
  | .bin op a b, c, e => match e with
    | .BinOp x o y _ => bopIs op o && chkE a c x && chkE b c y
    | _ => false
  | .neg a, c, e => match e with
    | .UnaryOp .USub x _ => chkE a c x
    | _ => false
  | .cmp op a b, c, e => match e with
    | .Compare x [o] [y] _ => copIs op o && notSet y && chkE a c x && chkE b c y
    | _ => false
  | .chn op op' a b d, c, e => match e with
    | .Compare x [o, o'] [y, z] _ => copIs op o && copIs op' o' && notSet z && chkE a c x && chkE b c y && chkE d c z
    | _ => false
  | .and a b, c, e => match e with
    | .BoolOp .And (x :: y :: r) p => chkE a c x && (match r with | [] => chkE b c y | _ => chkE b c (.BoolOp .And (y :: r) p))
    | _ => false
  | .or a b, c, e => match e with
    | .BoolOp .Or (x :: y :: r) p => chkE a c x && (match r with | [] => chkE b c y | _ => chkE b c (.BoolOp .Or (y :: r) p))
    | _ => false
  | .not a, c, e => match e with
    | .UnaryOp .Not x _ => chkE a c x
    | _ => false
  | .ite t a b, c, e => match e with
    | .IfExp z x y _ => chkT t c z && chkE a c x && chkE b c y
    | _ => false
  | .idx a i, c, e => match e with
    | .Subscript x y _ => notSlice y && chkE a c x && chkE i c y
    | _ => false
  | .slc a lo hi, c, e => match e with
    | .Subscript x (.Slice l u none _) _ => chkE a c x && chkO lo c l && chkO hi c u
    | _ => false
  | .rev a, c, e => match e with
    | .Subscript x (.Slice none none (some (.UnaryOp .USub (.Constant (.int 1) _ _) _)) _) _ => chkE a c x
    | _ => false
  | .call f es, c, e => match e with
    | .Call (.Name x _) (y :: ys) [] _ => glN c.sc x && !(x == ("__debug__" : Str)) && (match c.fn[f]? with | some q => decide (q.1 = x) && decide (es.length = q.2.length) | none => false) && chkEs es c (y :: ys)
    | _ => false
  | .callK f at_ es, c, e => match e with
    | .Call (.Name x _) [] (k :: ks) _ => glN c.sc x && !(x == ("__debug__" : Str)) &&
        (match c.fn[f]? with | some q => decide (q.1 = x) && decide ((placed at_ (es.map fun _ => D.non)).length = q.2.length) | none => false) &&
        decide ((f, (k :: ks).filterMap (·.arg), at_) ∈ c.kw) && decide (((k :: ks).filterMap (·.arg)).length = (k :: ks).length) && chkKs es c (k :: ks)
    | _ => false
  | .blt b es, c, e => match e with
    | .Call (.Name x _) (y :: ys) [] _ => decide (x = bltName b) && freeN c x && chkEs es c (y :: ys)
    | _ => false
  | .lrng it, c, e => match e with
    | .Call (.Name x _) [.Call (.Name y _) [z] [] _] [] _ => decide (x = ("list" : Str)) && decide (y = ("range" : Str)) && freeN c x && freeN c y && notStar z && (match it with | .rng1 a => chkE a c z | _ => false)
    | _ => false
  | .isin t a, c, e => match e with
    | .Call (.Name x _) [y, .Name z _] [] _ => decide (x = ("isinstance" : Str)) && decide (z = Str.ofString (tyName t)) && freeN c x && freeN c z && notStar y && chkE a c y
    | _ => false
  | .app o a, c, e => match e with
    | .Call (.Attribute x m ap) [y] [] p => decide (m = ("append" : Str)) && (ap.endLine == p.line) && plainB x && notStar y && chkE o c x && chkE a c y
    | _ => false
  | .met mm o es, c, e => match e with
    | .Call (.Attribute x m ap) ys [] p => decide (m = metName mm) && (ap.endLine == p.line) && plainB x && decide (es.length = metArity mm) && chkE o c x && chkEs es c ys
    | _ => false
  | .lc own g it t a, c, e => match e with
    | .ListComp x [⟨tg, i, ifs, 0⟩] scope _ => blkC c.N c.sc scope (ownN c.N own) && notSet i && (slotsG g).all (fun j => own.contains j) && chkG (c.blk scope) g tg && chkI it c tg i && chkOT t (c.blk scope) ifs && chkE a (c.blk scope) x
    | _ => false
  | .dc own g it k v, c, e => match e with
    | .DictComp x y [⟨tg, i, [], 0⟩] scope _ => blkC c.N c.sc scope (ownN c.N own) && notSet i && (slotsG g).all (fun j => own.contains j) && chkG (c.blk scope) g tg && chkI it c tg i && chkE k (c.blk scope) x && chkE v (c.blk scope) y
    | _ => false
  | .dsp kvs, c, e => match e with
    | .Dict ks vs _ => (ks.isEmpty && vs.isEmpty && kvs.isEmpty) || (!ks.isEmpty && decide (ks.length ≤ 15) && chkPs kvs c ks vs)
    | _ => false
def chkEs : List CE → Cxt → List PySem.Expr → Bool
  | [], _, xs => xs.isEmpty
  | e :: es, c, xs => match xs with
    | x :: r => notStar x && chkE e c x && chkEs es c r
    | [] => false
def chkKs : List CE → Cxt → List Keyword → Bool
  | [], _, xs => xs.isEmpty
  | e :: es, c, xs => match xs with
    | ⟨_, x, _⟩ :: r => chkE e c x && chkKs es c r
    | [] => false
def chkPs : List (CE × CE) → Cxt → List (Option PySem.Expr) → List PySem.Expr → Bool
  | [], _, ks, vs => ks.isEmpty && vs.isEmpty
  | (a, b) :: r, c, ks, vs => match ks, vs with
    | some k :: ks, v :: vs => chkE a c k && chkE b c v && chkPs r c ks vs
    | _, _ => false
def chkO : Option CE → Cxt → Option PySem.Expr → Bool
  | none, _, x => x.isNone
  | some e, c, x => match x with
    | some y => chkE e c y
    | none => false
def chkT : CT → Cxt → PySem.Expr → Bool
  | .tru a, c, e => plainT e && chkE a c e
  | .cmp op a b, c, e => match e with
    | .Compare x [o] [y] _ => copIs op o && notSet y && chkE a c x && chkE b c y
    | _ => false
  | .chn op op' a b d, c, e => match e with
    | .Compare x [o, o'] [y, z] _ => copIs op o && copIs op' o' && notSet z && chkE a c x && chkE b c y && chkE d c z
    | _ => false
  | .and a b, c, e => match e with
    | .BoolOp .And (x :: y :: r) p => chkT a c x && (match r with | [] => chkT b c y | _ => chkT b c (.BoolOp .And (y :: r) p))
    | _ => false
  | .or a b, c, e => match e with
    | .BoolOp .Or (x :: y :: r) p => chkT a c x && (match r with | [] => chkT b c y | _ => chkT b c (.BoolOp .Or (y :: r) p))
    | _ => false
  | .not a, c, e => match e with
    | .UnaryOp .Not x _ => chkT a c x
    | _ => false
def chkOT : Option CT → Cxt → List PySem.Expr → Bool
  | none, _, xs => xs.isEmpty
  | some t, c, xs => match xs with
    | [x] => chkT t c x
    | _ => false
def chkI : CI → Cxt → PySem.Expr → PySem.Expr → Bool
  | .val a, c, _, e => chkE a c e
  | .rng1 a, c, _, e => match e with
    | .Call (.Name x _) [y] [] _ => decide (x = ("range" : Str)) && freeN c x && notStar y && chkE a c y
    | _ => false
  | .rng2 a b, c, _, e => match e with
    | .Call (.Name x _) [y, z] [] _ => decide (x = ("range" : Str)) && freeN c x && notStar y && notStar z && chkE a c y && chkE b c z
    | _ => false
  | .rngD a b, c, _, e => match e with
    | .Call (.Name x _) [y, z, .UnaryOp .USub (.Constant (.int 1) _ _) _] [] _ => decide (x = ("range" : Str)) && freeN c x && notStar y && notStar z && chkE a c y && chkE b c z
    | _ => false
  | .zip a b, c, tg, e => match e with
    | .Call (.Name x _) [y, z] [] _ => decide (x = ("zip" : Str)) && freeN c x && isTupE tg && notStar y && notStar z && chkE a c y && chkE b c z
    | _ => false
  | .enm a, c, tg, e => match e with
    | .Call (.Name x _) [y] [] _ => decide (x = ("enumerate" : Str)) && freeN c x && isTupE tg && notStar y && chkE a c y
    | _ => false
end

mutual
def chkS : CS → Cxt → PySem.Stmt → Bool
  | .set i e, c, s => match s with
    | .Assign [.Name x _] v _ => decide (c.N[i]? = some x) && storeN c x && notSC v && chkE e c v
    | _ => false
  | .asg g e, c, s => match s with
    | .Assign [.Tuple es k p] v _ => noSwap c.sc es v && notComp v && chkG c g (.Tuple es k p) && chkE e c v
    | _ => false
  | .asgL gs e, c, s => match s with
    | .Assign [.Tuple es k p] v _ => !isTupE v && notComp v && tgsIs c.N (storeN c) gs es && chkE e c v
    | _ => false
  | .par i j a b, c, s => match s with
    | .Assign [.Tuple [.Name x px, .Name y py] _ _] (.Tuple [u, v] _ _) _ => decide (c.N[i]? = some x) && decide (c.N[j]? = some y) && !(i == j) && !(x == y) && (c.sc.names.lookup x == some .local) && (c.sc.names.lookup y == some .local) && (px.line == py.line) &&
        !([u, v].all (foldedForSure 8)) && !([u, v].all (constantsAlone 8)) && notStar u && notStar v && chkE a c u && chkE b c v
    | _ => false
  | .put o i e, c, s => match s with
    | .Assign [.Subscript x y _] v _ => notComp v && notSlice y && chkE o c x && chkE i c y && chkE e c v
    | _ => false
  | .exp e, c, s => match s with
    | .Expr v _ => notComp v && chkE e c v
    | _ => false
  | .ret e, c, s => match s with
    | .Return (some v) _ => chkE e c v
    | _ => false
  | .retN, _, s => match s with
    | .Return none _ => true
    | _ => false
  | .ifs t a b, c, s => match s with
    | .If x ys zs _ => chkT t c x && chkSs a c ys && chkSs b c zs
    | _ => false
  | .for g it b, c, s => match s with
    | .For tg x ys [] _ => notSet x && chkG c g tg && chkI it c tg x && chkSs b c ys
    | _ => false
  | .whl t b, c, s => match s with
    | .While x ys [] _ => chkT t c x && chkSs b c ys
    | _ => false
  | .pass, _, s => match s with
    | .Pass _ => true
    | _ => false
  | .brk, _, s => match s with
    | .Break _ => true
    | _ => false
  | .cnt, _, s => match s with
    | .Continue _ => true
    | _ => false
  | .rse, _, s => match s with
    | .Raise _ _ _ => true
    | _ => false
def chkSs : List CS → Cxt → List PySem.Stmt → Bool
  | [], _, ss => ss.isEmpty
  | s :: r, c, ss => match ss with
    | t :: ts => chkS s c t && chkSs r c ts
    | [] => false
end
end Mi

set_option maxHeartbeats 4000000
/-! MiZip: zip and enumerate over lists and tuples alike. -/
namespace Mi
open PySem PySem.Spec PyProof.Rows L2

/-- a list (false) or a tuple (true), in the layer's heap -/
def SqK (b : Bool) (K : PySem.W.Frag) (H : Hp) (a : Addr) (xs : List V) : Prop := match b with
  | true => SqT K H a xs
  | false => SqL K H a xs
/-- the same in the model's heap -/
def HoldK (b : Bool) (h : Heap) (a : Addr) (us : List Value) : Prop := match b with
  | true => h.IsTuple a us.toArray
  | false => h.IsList a us.toArray
def ItK (b : Bool) (h : Heap) (j a : Addr) (i : Nat) : Prop := match b with
  | true => h.IsTupleIter j a i
  | false => h.IsListIter j a i
theorem holdK_of {X : Cx} {pins : List (Addr × Obj)} {σ : L2.St} {H : Hp} {s : Shared} (I : Inv X pins σ H s) {b : Bool} {a : Addr} {xs : List V} (q : SqK b X.K H a xs) : ∃ us, Vals xs us ∧ HoldK b s.heap a us := by
  cases b with
  | true =>
    obtain ⟨us, r, p, _⟩ := I.tuple q
    exact ⟨us, r, p⟩
  | false =>
    obtain ⟨us, r, p, _⟩ := I.list q
    exact ⟨us, r, p.isList⟩
theorem sqK_inj {X : Cx} {pins : List (Addr × Obj)} {σ : L2.St} {H : Hp} {s : Shared} (I : Inv X pins σ H s) {b : Bool} {a : Addr} {xs ys : List V} (q : SqK b X.K H a xs) (q' : SqK b X.K H a ys) : xs = ys := by
  cases b with
  | true => exact I.tuple_inj q q'
  | false => exact I.list_inj q q'
theorem holdK_lt {b : Bool} {h : Heap} {a : Addr} {us : List Value} (q : HoldK b h a us) : a < h.objs.size := by
  cases b with
  | true => obtain ⟨_, e, _⟩ := q; exact Heap.lt_size e
  | false => obtain ⟨_, e, _⟩ := q; exact Heap.lt_size e
theorem itK_obj {b : Bool} {h : Heap} {j a : Addr} {i : Nat} (q : ItK b h j a i) : ∃ o, h.get? j = some o ∧ ∀ v, o.data ≠ .cell v := by
  cases b with
  | true => obtain ⟨o, e, _, d⟩ := q; exact ⟨o, e, fun v z => by rw [d] at z; cases z⟩
  | false => obtain ⟨o, e, _, d⟩ := q; exact ⟨o, e, fun v z => by rw [d] at z; cases z⟩
theorem itK_at {b : Bool} {h g : Heap} {j a : Addr} {i : Nat} (q : ItK b h j a i) (k : ∀ o, h.get? j = some o → g.get? j = some o) : ItK b g j a i := by
  cases b with
  | true => exact Heap.IsTupleIter.at q k
  | false => exact Heap.IsListIter.at q k
theorem drawsK {prog : Program} {w : World} {A : Around} (hh : A.handled = none) (b : Bool) {j a : Addr} (hne : a ≠ j) (us : List Value) :
    Draws prog w A j [j, a] us.length (fun i v => us[i]? = some v) (fun i h => ItK b h j a i ∧ HoldK b h a us) := by
  cases b with
  | true =>
    have q := Draws.tuple (prog := prog) (w := w) hh j a hne us.toArray
    simp only [List.size_toArray, List.getElem?_toArray] at q
    exact q
  | false =>
    have q := Draws.list (prog := prog) (w := w) hh j a hne us.toArray
    simp only [List.size_toArray, List.getElem?_toArray] at q
    exact q
theorem beginsK (b : Bool) (a : Addr) (us : List Value) : ∃ o, Begins (.ref a) o (fun h => HoldK b h a us) ∧ ∀ (h : Heap) (j : Addr), h.get? j = some o → ItK b h j a 0 := by
  cases b with
  | true => exact ⟨_, begins_tuple a us.toArray, fun h j e => ⟨_, e, rfl, rfl⟩⟩
  | false => exact ⟨_, begins_list a us.toArray, fun h j e => ⟨_, e, rfl, rfl⟩⟩

/-! ### zip -/
def ItzK (b c : Bool) (K : PySem.W.Frag) (p q : Addr) : It :=
  ⟨fun i H => ∃ (xs ys : List V) (x y : V), SqK b K H p xs ∧ SqK c K H q ys ∧ xs[i]? = some x ∧ ys[i]? = some y,
    fun i H v H' => ∃ T x y, v = .ref T ∧ H T = none ∧ H' = upd H T (.tup [x, y]) ∧ (∀ xs, SqK b K H p xs → xs[i]? = some x) ∧ ∀ ys, SqK c K H q ys → ys[i]? = some y,
    fun i H => ∃ xs ys : List V, SqK b K H p xs ∧ SqK c K H q ys ∧ i ≤ xs.length ∧ i ≤ ys.length ∧ (xs.length ≤ i ∨ ys.length ≤ i)⟩
theorem sep_of {z TI TO j k p q : Addr} (D : ZipApart z TI TO j k p q) : ZipSep2 z TI TO j k [j, p] [k, q] := by
  refine ⟨D.TIz, D.TOz, D.TITO, D.TIi1, by simp, ?_, ?_, D.TIi2, by simp, ?_, ?_, ?_, ?_⟩
  · simp only [List.mem_cons, List.not_mem_nil, or_false, not_or]; exact ⟨D.i1z.symm, D.l1z.symm⟩
  · simp only [List.mem_cons, List.not_mem_nil, or_false, not_or]; exact ⟨D.TOi1, D.l1TO.symm⟩
  · simp only [List.mem_cons, List.not_mem_nil, or_false, not_or]; exact ⟨D.i2z.symm, D.l2z.symm⟩
  · simp only [List.mem_cons, List.not_mem_nil, or_false, not_or]; exact ⟨D.TOi2, D.l2TO.symm⟩
  · simp only [List.mem_cons, List.not_mem_nil, or_false, not_or]; exact ⟨D.i12, D.l2i1.symm⟩
  · simp only [List.mem_cons, List.not_mem_nil, or_false, not_or]; exact ⟨D.i12.symm, D.l1i2.symm⟩
theorem turn_zipK {P : Program} {w : World} {K : PySem.W.Frag} {elts : List PySem.Expr} {kk : Nat} {tpos : PySem.Pos} {b c : Bool} {p q z TI TO j k : Addr} (D : ZipApart z TI TO j k p q) :
    Turn P w K (.Tuple elts kk tpos) (ItzK b c K p q) [z, TI, TO, j, k] z (fun i h => IsZip h z TI TO .none ∧ IsTupOf2 h TI (.ref j) (.ref k) ∧ (∃ x y, IsTupOf2 h TO x y) ∧ ItK b h j p i ∧ ItK c h k q i) where
  mem := by simp
  obj := fun i h st d hd => by
    obtain ⟨hz, hTI, ⟨x, y, hTO⟩, h1, h2⟩ := st
    simp only [List.mem_cons, List.not_mem_nil, or_false] at hd
    rcases hd with rfl | rfl | rfl | rfl | rfl
    · exact ⟨_, hz, fun v e => nomatch e⟩
    · exact ⟨_, hTI, fun v e => nomatch e⟩
    · exact ⟨_, hTO, fun v e => nomatch e⟩
    · exact itK_obj h1
    · exact itK_obj h2
  keep := fun i h g st kp => by
    obtain ⟨hz, hTI, ⟨x, y, hTO⟩, h1, h2⟩ := st
    exact ⟨kp z (by simp) _ hz, kp TI (by simp) _ hTI, ⟨x, y, kp TO (by simp) _ hTO⟩, itK_at h1 fun o e => kp j (by simp) o e, itK_at h2 fun o e => kp k (by simp) o e⟩
  item := by
    intro X hP hw hK hc i pins s σ H E I hf st hg
    subst hP hw hK
    obtain ⟨hz, hTI, ⟨x0, y0, hTO⟩, h1, h2⟩ := st
    obtain ⟨xs, ys, x, y, qx, qy, ex, ey⟩ := hg
    obtain ⟨us, ru, pu⟩ := holdK_of I qx
    obtain ⟨ws, rw', pw⟩ := holdK_of I qy
    obtain ⟨u, hu, ru1⟩ := ru.get ex
    obtain ⟨u2, hu2, ru2⟩ := rw'.get ey
    have zl : z < s.heap.objs.size := Heap.lt_size hz
    have hd : X.A.in1.handled = none := I.ok.hd hc
    refine wpAny_pyNext_zipD2_item (sep_of D) (drawsK hd b D.l1i1 us) (drawsK hd c D.l2i2 ws) hz hTI hTO ⟨h1, pu⟩ ⟨h2, pw⟩ (List.getElem?_eq_some_iff.mp hu).1 (List.getElem?_eq_some_iff.mp hu2).1 fun v1 v2 g tk e1 e2 gz gO s1 s2 gT gs gk => ?_
    rw [hu] at e1
    cases e1
    rw [hu2] at e2
    cases e2
    refine ⟨_, rfl, wpAny_letOwnedTupleGo_zip (s := { s with heap := g, toks := tk }) gz fun g2 gz2 sb => ?_⟩
    have gT2 : g2.get? s.heap.objs.size = some { cls := .type "tuple", data := .seq #[u, u2] } := (sb.2 _ (Nat.ne_of_gt zl)).trans gT
    have nw : ObjOk X.prog X.w (upd H s.heap.objs.size (.tup [x, y])) g2 s.heap.objs.size (.tup [x, y]) :=
      ⟨by show 2 ≤ sizeLine; decide, [u, u2], .cons ru1 (.cons ru2 .nil), ⟨_, gT2, rfl, _, rfl⟩⟩
    have I1 : Inv X pins σ (upd H s.heap.objs.size (.tup [x, y])) { s with heap := g2, toks := tk } :=
      I.turnedNew (t' := tk) (ch := [z, TI, TO, j, k]) (fun d o hb e => (sb.2 d (fun e' => hb (by simp [e']))).trans (gk d o (fun e' => hb (by simp [e'])) (fun e' => hb (by simp [e'])) (fun e' => hb (by simp [e'])) (fun e' => hb (by simp [e'])) e)) hf (Nat.le_refl _) nw
    refine ⟨.ref s.heap.objs.size, _, I1, rfl, ⟨_, x, y, rfl, I.hok.fresh (Nat.le_refl _), rfl, fun l hl => by rw [sqK_inj I hl qx]; exact ex, fun l hl => by rw [sqK_inj I hl qy]; exact ey⟩, ⟨gz2, ?_, ⟨u, u2, ?_⟩, ?_, ?_⟩, fun d hdm => ?_⟩
    · exact (sb.2 _ D.TIz).trans (gk _ _ D.TIz D.TITO D.TIi1 D.TIi2 hTI)
    · exact (sb.2 _ D.TOz).trans gO
    · exact itK_at s1.1 fun o e => (sb.2 _ D.i1z).trans e
    · exact itK_at s2.1 fun o e => (sb.2 _ D.i2z).trans e
    · have hlt : d < s.heap.objs.size := by
        simp only [List.mem_cons, List.not_mem_nil, or_false] at hdm
        rcases hdm with rfl | rfl | rfl | rfl | rfl
        · exact zl
        · exact Heap.lt_size hTI
        · exact Heap.lt_size hTO
        · obtain ⟨_, e1, _⟩ := itK_obj h1; exact Heap.lt_size e1
        · obtain ⟨_, e2, _⟩ := itK_obj h2; exact Heap.lt_size e2
      rw [upd_ne (Nat.ne_of_lt hlt)]
      exact (hf d hdm).1
  done := by
    intro X hP hw hK hc i pins s σ H E I hf st hg
    subst hP hw hK
    obtain ⟨hz, hTI, ⟨x0, y0, hTO⟩, h1, h2⟩ := st
    obtain ⟨xs, ys, qx, qy, l1, l2, en⟩ := hg
    obtain ⟨us, ru, pu⟩ := holdK_of I qx
    obtain ⟨ws, rw', pw⟩ := holdK_of I qy
    have n1 := ru.length
    have n2 := rw'.length
    have hd : X.A.in1.handled = none := I.ok.hd hc
    refine wpAny_pyNext_zipD2_end (sep_of D) (drawsK hd b D.l1i1 us) (drawsK hd c D.l2i2 ws) hz hTI hTO ⟨h1, pu⟩ ⟨h2, pw⟩ (by omega) (by omega) (by omega) fun g tk gk => ⟨rfl, I.turnedL (t' := tk) (ch := [z, TI, TO, j, k]) (fun d o hb e =>
      gk d o (fun e' => hb (by simp [e'])) (fun e' => hb (by simp [e'])) (fun e' => hb (by simp [e'])) (fun e' => hb (by simp [e'])) e) hf⟩
  self := fun A i s Q E st h => wpAny_pyIter_zip st.1 h
def iZipK (K : PySem.W.Frag) (ta : TA) : TI := fun σ H R => ta σ H fun vs H1 => ∃ (b c : Bool) (p q : Addr) (xs ys : List V), vs = [.ref p, .ref q] ∧ SqK b K H1 p xs ∧ SqK c K H1 q ys ∧ R (ItzK b c K p q) H1
theorem pi_zipK {X : Cx} {e e2 : PySem.Expr} {ta : TA} {pn pos tpos : PySem.Pos} {elts : List PySem.Expr} {kk : Nat} (hg : Gl X "zip") (hm : X.mg "zip" = none) (ha : PA X [e, e2] ta)
    (hs : starEach [e, e2] X.env = (false, eval e X.env) :: starEach [e2] X.env) (hpl : (backTo pos (starEach [e2] X.env)).any (·.1) = false) :
    PI X (.Tuple elts kk tpos) (.Call (.Name "zip" pn) [e, e2] [] pos) (iZipK X.K ta) := by
  refine ⟨fun pins s σ H R I h => Call_ (ld_blt I hg hm PyProof.Rows.boot_zip (PyProof.Rows.callWith_type1 (thn (ha.run pos pins s σ H _ I h) fun us s1 ⟨vs, H1, I1, r1, q1⟩ => ?_) hs hpl))⟩
  obtain ⟨b, c, p, q, xs, ys, rfl, qx, qy, hR⟩ := q1
  obtain ⟨u1, u2, rfl, r3, r4⟩ : ∃ u1 u2, us = [u1, u2] ∧ RelV (.ref p) u1 ∧ RelV (.ref q) u2 := by
    cases r1 with
    | cons r rr =>
      cases rr with
      | cons r' rr =>
        cases rr
        exact ⟨_, _, rfl, r, r'⟩
  cases r3
  cases r4
  obtain ⟨as, ra, pa⟩ := holdK_of I1 qx
  obtain ⟨bs, rb, pb⟩ := holdK_of I1 qy
  obtain ⟨o1, B1, k1⟩ := beginsK b p as
  obtain ⟨o2, B2, k2⟩ := beginsK c q bs
  refine zip_begins2 B1 B2 pa pb fun g hz hTI hTO e1 e2 hsz hk => wpAny_pyIter_zip hz ?_
  have I2 : Inv X pins σ H1 { s1 with heap := g } := I1.kept (t' := s1.toks) hk
  refine ⟨s1.heap.objs.size + 4, [s1.heap.objs.size + 4, s1.heap.objs.size + 2, s1.heap.objs.size + 3, s1.heap.objs.size, s1.heap.objs.size + 1], _, _, H1, rfl, I2, turn_zipK (PySem.W.ktu_apart s1.heap.objs.size p q (holdK_lt pa) (holdK_lt pb)), ⟨hz, hTI, ⟨_, _, hTO⟩, k1 _ _ e1, k2 _ _ e2⟩, fun d hd => ?_, hR⟩
  have hle : s1.heap.objs.size ≤ d := by
    simp only [List.mem_cons, List.not_mem_nil, or_false] at hd
    rcases hd with rfl | rfl | rfl | rfl | rfl
    · exact Nat.le_add_right _ _
    · exact Nat.le_add_right _ _
    · exact Nat.le_add_right _ _
    · exact Nat.le_refl _
    · exact Nat.le_add_right _ _
  exact I1.fpOk hle (I1.hok.fresh hle)

/-! ### enumerate -/
theorem meets_enum1 {v : Value} {o : Obj} {Hd : Heap → Prop} (B : Begins v o Hd) :
    Meets (Builtin.«enumerate.__new__» ⟨[.type "enumerate", v], []⟩) (fun _ R s => Hd s.heap ∧
      R (.ok (.ret (.ref (s.heap.push o).objs.size))) { s with heap := (s.heap.push o).push { cls := .type "enumerate", data := .fields #[.none, .bool false, .ref s.heap.objs.size, rawInt 0, .none, .none] } }) :=
  .of_wp fun prog w A R s h => by
    obtain ⟨h0, g0, d0, t0, o0⟩ := s
    obtain ⟨h1, h⟩ := h
    have hsb := sub_enumerate
    have q1 : ∀ {A' : Around} {E : Value → Shared → Prop} {Q : Value → Shared → Prop}, Q (.ref h0.objs.size) ⟨h0.push o, g0, d0, t0, o0⟩ → wpAny (model prog w) A' (pyIter v) Q E ⟨h0, g0, d0, t0, o0⟩ :=
      fun q => B.iter prog w _ _ ⟨h0, g0, d0, t0, o0⟩ _ h1 q
    wp_walk using q1
    refine wpAny_stack_any fun st => wpAny_pure ?_
    split
    · rename_i cc _ _ _ _ _
      cases (cc == Value.type "enumerate")
      · wp_walk using q1
        exact ⟨_, rfl, h⟩
      · wp_walk using q1
        exact ⟨_, rfl, h⟩
    · wp_walk using q1
      exact ⟨_, rfl, h⟩
theorem enum_begins1 {prog : Program} {w : World} {A : Around} {E : Value → Shared → Prop} {s : Shared} {v : Value} {o : Obj} {Hd : Heap → Prop} {Q : Value → Shared → Prop} (B : Begins v o Hd) (h1 : Hd s.heap)
    (h : ∀ g, IsEnum g (s.heap.objs.size + 1) s.heap.objs.size 0 .none → g.get? s.heap.objs.size = some o → (∀ b u, s.heap.get? b = some u → g.get? b = some u) → Q (.ref (s.heap.objs.size + 1)) { s with heap := g }) :
    wpAny (model prog w) A (call (.type "enumerate") [v]) Q E s := by
  refine callType_new F.called_enumerate (by decide) (F.typeCall_enumerate_1 _) (F.newCall_enumerate_1 _) (fun obj => F.args_object_init_2 obj _) F.entry_enumerate_new (meets_enum1 B) ⟨h1, ?_⟩
  have z1 : (s.heap.push o).objs.size = s.heap.objs.size + 1 := Heap.size_push ..
  show _ ∧ _
  rw [z1]
  have he : IsEnum ((s.heap.push o).push { cls := .type "enumerate", data := .fields #[.none, .bool false, .ref s.heap.objs.size, rawInt 0, .none, .none] }) (s.heap.objs.size + 1) s.heap.objs.size 0 .none := by
    have e := Heap.get?_push_size (s.heap.push o) (o := { cls := .type "enumerate", data := .fields #[.none, .bool false, .ref s.heap.objs.size, rawInt 0, .none, .none] }) rfl
    rw [z1] at e
    exact e
  exact ⟨⟨_, he, rfl⟩, h _ he (Heap.get?_push_of_some _ (Heap.get?_push_size _ B.free)) fun b u e => Heap.get?_push_of_some _ (Heap.get?_push_of_some _ e)⟩
def IteK (b : Bool) (K : PySem.W.Frag) (p : Addr) : It :=
  ⟨fun i H => ∃ (xs : List V) (x : V), SqK b K H p xs ∧ xs[i]? = some x,
    fun i H v H' => ∃ T x, v = .ref T ∧ H T = none ∧ H' = upd H T (.tup [.int (i : Nat), x]) ∧ ∀ xs, SqK b K H p xs → xs[i]? = some x,
    fun i H => ∃ xs : List V, SqK b K H p xs ∧ xs.length = i⟩
theorem turn_enmK {P : Program} {w : World} {K : PySem.W.Frag} {elts : List PySem.Expr} {kk : Nat} {tpos : PySem.Pos} {b : Bool} {p e j : Addr} (hej : e ≠ j) (hpe : p ≠ e) (hpj : p ≠ j) :
    Turn P w K (.Tuple elts kk tpos) (IteK b K p) [e, j] e (fun i h => (∃ old, IsEnum h e j (i : Nat) old) ∧ ItK b h j p i) where
  mem := by simp
  obj := fun i h st d hd => by
    obtain ⟨⟨old, he⟩, hi⟩ := st
    simp only [List.mem_cons, List.not_mem_nil, or_false] at hd
    rcases hd with rfl | rfl
    · exact ⟨_, he, fun v z => nomatch z⟩
    · exact itK_obj hi
  keep := fun i h g st kp => by
    obtain ⟨⟨old, he⟩, hi⟩ := st
    exact ⟨⟨old, kp e (by simp) _ he⟩, itK_at hi fun o z => kp j (by simp) o z⟩
  item := by
    intro X hP hw hK hc i pins s σ H E I hf st hg
    subst hP hw hK
    obtain ⟨⟨old, he⟩, hi⟩ := st
    obtain ⟨xs, x, qx, ex⟩ := hg
    obtain ⟨us, ru, pu⟩ := holdK_of I qx
    obtain ⟨u, hu, ru1⟩ := ru.get ex
    have el : e < s.heap.objs.size := Heap.lt_size he
    have jl : j < s.heap.objs.size := by obtain ⟨_, z, _⟩ := itK_obj hi; exact Heap.lt_size z
    have hd : X.A.in1.handled = none := I.ok.hd hc
    refine wpAny_pyNext_enum_itemD (drawsK hd b hpj us) he ⟨hi, pu⟩ (List.getElem?_eq_some_iff.mp hu).1 hej (by simp only [List.mem_cons, List.not_mem_nil, or_false, not_or]; exact ⟨hej, hpe.symm⟩) fun v1 g tk e1 gE s1 gT gs gk => ?_
    rw [hu] at e1
    cases e1
    refine ⟨_, rfl, wpAny_letOwnedTupleGo_enum (s := { s with heap := g, toks := tk + 1 }) gE fun g2 ge2 sb => ?_⟩
    have gT2 : g2.get? s.heap.objs.size = some { cls := .type "tuple", data := .seq #[.int i tk, u] } := (sb.2 _ (Nat.ne_of_gt el)).trans gT
    have nw : ObjOk X.prog X.w (upd H s.heap.objs.size (.tup [.int (i : Nat), x])) g2 s.heap.objs.size (.tup [.int (i : Nat), x]) :=
      ⟨by show 2 ≤ sizeLine; decide, [.int i tk, u], .cons ⟨_, rfl⟩ (.cons ru1 .nil), ⟨_, gT2, rfl, _, rfl⟩⟩
    have I1 : Inv X pins σ (upd H s.heap.objs.size (.tup [.int (i : Nat), x])) { s with heap := g2, toks := tk + 1 } :=
      I.turnedNew (t' := tk + 1) (ch := [e, j]) (fun d o hb z => (sb.2 d (fun e' => hb (by simp [e']))).trans (gk d o (fun e' => hb (by simp [e'])) (fun e' => hb (by simp [e'])) z)) hf (Nat.le_refl _) nw
    refine ⟨.ref s.heap.objs.size, _, I1, rfl, ⟨_, x, rfl, I.hok.fresh (Nat.le_refl _), rfl, fun l hl => by rw [sqK_inj I hl qx]; exact ex⟩, ⟨⟨u, ?_⟩, itK_at s1.1 fun o z => (sb.2 _ (Ne.symm hej)).trans z⟩, fun d hdm => ?_⟩
    · have z1 : ((i + 1 : Nat) : Int) = (i : Int) + 1 := by omega
      rw [z1]
      exact ge2
    · have hlt : d < s.heap.objs.size := by
        simp only [List.mem_cons, List.not_mem_nil, or_false] at hdm
        rcases hdm with rfl | rfl
        · exact el
        · exact jl
      rw [upd_ne (Nat.ne_of_lt hlt)]
      exact (hf d hdm).1
  done := by
    intro X hP hw hK hc i pins s σ H E I hf st hg
    subst hP hw hK
    obtain ⟨⟨old, he⟩, hi⟩ := st
    obtain ⟨xs, qx, en⟩ := hg
    obtain ⟨us, ru, pu⟩ := holdK_of I qx
    have n1 := ru.length
    have hd : X.A.in1.handled = none := I.ok.hd hc
    have hx : i = us.length := by omega
    refine wpAny_pyNext_enum_endD (drawsK hd b hpj us) he (by rw [← hx]; exact ⟨hi, pu⟩) fun g gk => ⟨rfl, I.turnedL (t' := s.toks) (ch := [e, j]) (fun d o hb z => gk d o (fun e' => hb (by simp [e'])) z) hf⟩
  self := fun A i s Q E st h => let ⟨⟨_, he⟩, _⟩ := st; wpAny_pyIter_enum he h
def iEnmK (K : PySem.W.Frag) (ta : TA) : TI := fun σ H R => ta σ H fun vs H1 => ∃ (b : Bool) (p : Addr) (xs : List V), vs = [.ref p] ∧ SqK b K H1 p xs ∧ R (IteK b K p) H1
theorem pi_enmK {X : Cx} {e : PySem.Expr} {ta : TA} {pn pos tpos : PySem.Pos} {elts : List PySem.Expr} {kk : Nat} (hg : Gl X "enumerate") (hm : X.mg "enumerate" = none) (ha : PA X [e] ta)
    (hs : starEach [e] X.env = [(false, eval e X.env)]) : PI X (.Tuple elts kk tpos) (.Call (.Name "enumerate" pn) [e] [] pos) (iEnmK X.K ta) := by
  refine ⟨fun pins s σ H R I h => Call_ (ld_blt I hg hm boot_enumerate (PyProof.Rows.callWith_type1 (thn (ha.run pos pins s σ H _ I h) fun us s1 ⟨vs, H1, I1, r1, q1⟩ => ?_) hs rfl))⟩
  obtain ⟨b, p, xs, rfl, qx, hR⟩ := q1
  obtain ⟨u1, rfl, r3⟩ := vals1 r1
  cases r3
  obtain ⟨as, ra, pa⟩ := holdK_of I1 qx
  obtain ⟨o1, B1, k1⟩ := beginsK b p as
  have pl := holdK_lt pa
  refine enum_begins1 B1 pa fun g he e1 hk => wpAny_pyIter_enum he ?_
  have I2 : Inv X pins σ H1 { s1 with heap := g } := I1.kept (t' := s1.toks) hk
  refine ⟨s1.heap.objs.size + 1, [s1.heap.objs.size + 1, s1.heap.objs.size], _, _, H1, rfl, I2, turn_enmK (Nat.succ_ne_self _) (Nat.ne_of_lt (Nat.lt_succ_of_lt pl)) (Nat.ne_of_lt pl), ⟨⟨.none, he⟩, k1 _ _ e1⟩, fun d hd => ?_, hR⟩
  have hle : s1.heap.objs.size ≤ d := by
    simp only [List.mem_cons, List.not_mem_nil, or_false] at hd
    rcases hd with rfl | rfl
    · exact Nat.le_add_right _ _
    · exact Nat.le_refl _
  exact I1.fpOk hle (I1.hok.fresh hle)
end Mi

set_option maxHeartbeats 4000000
/-! MiMore: x[::-1], zip, enumerate. -/
namespace Mi
open PySem PySem.Spec PyProof.Rows L2
section
variable {prog : Program} {w : World} {A : Around} {E : Value → Shared → Prop} {s : Shared}
theorem rev_adj (n : Nat) : Builtin.Slice.sliceAdjust none none (-1) (n : Int) = ((n : Int) - 1, -1) := rfl
theorem rev_num (n : Nat) : Builtin.Slice.slicePlaces ((n : Int) - 1) (-1) (-1) = n := by
  unfold Builtin.Slice.slicePlaces
  rw [if_neg (by decide)]
  split
  · rw [show (- -1 : Int) = 1 by decide, Int.ediv_one]
    omega
  · omega
theorem rev_pick (us : List Value) : ((List.range us.length).filterMap fun (m : Nat) => us.toArray[((us.length : Int) - 1 + (m : Int) * (-1)).toNat]?) = us.reverse := by
  have e : (List.range us.length).filterMap (fun (m : Nat) => us.toArray[((us.length : Int) - 1 + (m : Int) * (-1)).toNat]?) = (List.range us.length).filterMap fun m => us.reverse[m]? := by
    have go : ∀ l : List Nat, (∀ m ∈ l, m < us.length) → l.filterMap (fun (m : Nat) => us.toArray[((us.length : Int) - 1 + (m : Int) * (-1)).toNat]?) = l.filterMap fun m => us.reverse[m]? := by
      intro l
      induction l with
      | nil => intro _; rfl
      | cons m l ih =>
        intro hm
        have hl := hm m (List.mem_cons_self ..)
        have e1 : us.toArray[((us.length : Int) - 1 + (m : Int) * (-1)).toNat]? = us.reverse[m]? := by
          rw [List.getElem?_reverse hl, List.getElem?_toArray]
          congr 1
          omega
        rw [List.filterMap_cons, List.filterMap_cons, e1, ih fun x hx => hm x (List.mem_cons_of_mem _ hx)]
    exact go _ fun m hm => List.mem_range.mp hm
  rw [e]
  have f : ∀ (xs : List Value), (List.range xs.length).filterMap (fun m => xs[m]?) = xs := by
    intro xs
    induction xs with
    | nil => rfl
    | cons x xs ih =>
      rw [List.length_cons, List.range_succ_eq_map, List.filterMap_cons]
      show x :: _ = _
      rw [List.filterMap_map]
      exact congrArg (x :: ·) ih
  have g := f us.reverse
  rw [List.length_reverse] at g
  exact g
theorem getItem_rev {t sl : Addr} {us : List Value} {vs : Value} {Q : Value → Shared → Prop} (ht : IsTup s.heap t us.toArray) (hs : s.heap.IsSliceOf sl .none .none vs) (ps : IsPart vs (some (-1)))
    (h : Q (.ref s.heap.objs.size) { s with heap := s.heap.push { cls := .type "tuple", data := .seq us.reverse.toArray } }) (hz : us.length ≤ sizeLine) : wpAny (model prog w) A (getItem (.ref t) (.ref sl)) Q E s := by
  obtain ⟨os, e1, e2, e3⟩ := id hs
  have hT : s.TypeIs (.ref sl) "slice" := ⟨os, e1, e2⟩
  have fits : sizeOk (.seq us.reverse.toArray) := by
    show us.reverse.toArray.size ≤ sizeLine
    rw [List.size_toArray, List.length_reverse]
    exact hz
  unfold getItem
  try with_reducible refine wpAny_holding ?_
  first | refine wpAny_bind (wpAny_pure ?_) | skip
  refine wpAny_bind (wpAny_sequenceKey ht.typeIs (by decide) ?_)
  refine wpAny_bind (wpAny_callSpecial?_slot (name := Str.ofString "__getitem__") ht.typeIs PyProof.Rows.slot_tuple_getitem (wpAny_call_entry PyProof.Rows.slot_tuple_getitem ht.typeIs entry_tuple_getitem ?_ (args_tuple_getitem _ _)))
  show wpAny _ _ (Builtin.Tuple.tupleItemsOf (.ref t) >>= _) _ _ s
  refine wpAny_bind (tupleItemsOf_ ht ?_)
  refine wpAny_bind (wpAny_typeOf hT ?_)
  rw [if_pos (by decide)]
  refine wpAny_bind ?_
  · unfold Builtin.Slice.sliceApplied Builtin.Slice.sliceFields
    refine wpAny_bind (wpAny_bind (wpAny_field e1 e3 (x := .none) rfl (wpAny_bind (wpAny_field e1 e3 (x := .none) rfl (wpAny_bind (wpAny_field e1 e3 (x := vs) rfl (wpAny_pure ?_)))))))
    refine wpAny_bind (HT.slicePart_ ps ?_)
    show wpAny _ _ (if ((-1 : Int) == 0) = true then _ else _) _ _ s
    rw [if_neg (by decide)]
    refine wpAny_bind (slicePart_none (wpAny_bind (slicePart_none (wpAny_bind (wpAny_pure ?_)))))
    have hn : ((us.toArray.size : Nat) : Int) = (us.length : Int) := by rw [List.size_toArray]
    rw [hn]
    show wpAny _ _ (match Builtin.Slice.sliceAdjust none none (-1) (us.length : Int) with | (lo, hi) => pure (lo, (-1 : Int), Builtin.Slice.slicePlaces lo hi (-1))) _ _ s
    rw [rev_adj]
    show wpAny _ _ (pure ((us.length : Int) - 1, (-1 : Int), Builtin.Slice.slicePlaces ((us.length : Int) - 1) (-1) (-1))) _ _ s
    rw [rev_num]
    refine wpAny_pure ?_
    have hno : ¬ ((((us.length : Int) - 1) == 0 && (-1 : Int) == 1 && us.length == us.toArray.size) = true) := by
      intro q
      rw [Bool.and_eq_true, Bool.and_eq_true] at q
      exact absurd q.1.2 (by decide)
    show wpAny _ _ (if (((us.length : Int) - 1) == 0 && (-1 : Int) == 1 && us.length == us.toArray.size) = true then _ else _) _ _ s
    rw [if_neg hno, rev_pick]
    first
      | exact wpAny_bind (m := Builtin.Tuple.tupleExact _) (wpAny_newObj_type (wpAny_pure ⟨_, rfl, wpAny_pure h⟩) fits)
      | exact wpAny_bind (m := Builtin.Tuple.tupleExact _) (wpAny_newObj_type (wpAny_bind (wpAny_pure (wpAny_pure ⟨_, rfl, wpAny_pure h⟩))) fits)
end
section
variable {X : Cx} {a b tg : PySem.Expr} {ma mb : Env → M D} {pos p p2 p3 tpos : PySem.Pos} {elts : List PySem.Expr} {kk : Nat}
def tRevT (K : PySem.W.Frag) (te : TE) : TE := fun σ H Q => te σ H fun x H1 => ∃ t xs, x = .ref t ∧ SqT K H1 t xs ∧ ∀ q, H1 q = none → Q (.ref q) (upd H1 q (.tup xs.reverse))
theorem pe_revT {e : PySem.Expr} {te : TE} {k : Nat} {p1 : PySem.Pos} (he : PE X e te) : PE X (.Subscript e (.Slice none none (some (.UnaryOp .USub (.Constant (.int 1) k p1) p2)) p3) pos) (tRevT X.K te) := by
  refine ⟨fun pins s σ H Q I h => Subscript_ (thn (he.run pins s σ H _ I h) fun v s1 ⟨x, H1, I1, r1, q1⟩ => ?_)⟩
  obtain ⟨t, xs, rfl, hx, q⟩ := q1
  cases r1
  have hst : PO X (some (.UnaryOp .USub (.Constant (.int 1) k p1) p2)) (tPart (tUn (rU fun i => .int (-i)) (tC (.int 1)))) := po_some (pe_un un_neg pe_int)
  rw [show PySem.Expr.UnaryOp .USub (.Constant (.int 1) k p1) p2 = PySem.Expr.UnaryOp .USub (.Constant (.int 1) k p1) p2 from rfl]
  refine wpAny_Slice (thn (po_none.run pins s1 σ H1 (fun o G1 => o = none ∧ G1 = H1) I1 ⟨rfl, rfl⟩) fun vl s2 ⟨l, G1, I2, pl, el, f1⟩ => ?_)
  subst el f1
  refine thn (po_none.run pins s2 σ G1 (fun o G2 => o = none ∧ G2 = G1) I2 ⟨rfl, rfl⟩) fun vu s3 ⟨u, G2, I3, pu, eu, f2⟩ => ?_
  subst eu f2
  refine thn (hst.run pins s3 σ G2 (fun o G3 => o = some (-1) ∧ G3 = G2) I3 ⟨1, rfl, -1, rfl, rfl, rfl⟩) fun vs s4 ⟨o, G3, I4, ps, eo, f3⟩ => ?_
  subst eo f3
  cases pl
  cases pu
  have I5 : Inv X pins σ G3 { s4 with heap := s4.heap.push { cls := .type "slice", data := .fields #[.none, .none, vs] } } := I4.kept (t' := s4.toks) fun b ob z => Heap.get?_push_of_some _ z
  obtain ⟨us, r, ht, hz⟩ := I5.tuple hx
  have hl := r.length
  show wpAny (model X.prog X.w) X.A (subscriptTail e (.Slice none none (some (.UnaryOp .USub (.Constant (.int 1) k p1) p2)) p3) (.ref t) (.ref s4.heap.objs.size)) (EP X pins σ Q) X.xe { s4 with heap := s4.heap.push { cls := .type "slice", data := .fields #[.none, .none, vs] } }
  refine tail_any (ops := [.ref t, .ref s4.heap.objs.size]) ht.typeIs PyProof.Rows.slot_tuple_getitem.lookup ?_ (by with_unfolding_all rfl)
  refine getItem_rev ht (Heap.IsSliceOf.new _ .none .none vs) ps ⟨.ref _, _, I5.laid (t' := s4.toks) (o := .tup xs.reverse) (fun b ob z => Heap.get?_push_of_some _ z) (Nat.le_refl _) ?_, rfl, q _ (I5.hok.fresh (Nat.le_refl _))⟩ (by omega)
  exact ⟨by rw [List.length_reverse]; exact hz, _, r.reverse, IsTup.new _ _⟩
theorem k_rev {k : Nat} (ha : PE X a (tE X.K ma)) : PE X (.Subscript a (.Slice none none (some (.UnaryOp .USub (.Constant (.int 1) k p) p2)) p3) pos) (tE X.K fun env => M.bnd (ma env) revD) := by
  refine PE.imp (PE.orr (pe_revL ha) (pe_revT ha)) fun σ H Q q => ?_
  obtain ⟨ι, h, env, d, h', E, R, e, k⟩ := q
  obtain ⟨x, h1, e1, e⟩ := bnd_some.mp e
  unfold revD at e
  split at e
  · obtain ⟨rfl, rfl⟩ := ret_some.mp e
    refine .inr ⟨ι, h, env, _, _, E, R, e1, fun v1 H1 ι1 g1 r1 R1 => ?_⟩
    obtain ⟨t, vs, rfl, hv, rs⟩ := dr_tup.mp r1
    exact ⟨t, vs, rfl, SqT.of hv, fin_tup R1 rs.reverse fun v H' ι' g r R' => k v H' ι' (g1.trans g) r R'⟩
  · obtain ⟨xs, h2, e2, e⟩ := bnd_some.mp e
    obtain ⟨e3, rfl⟩ := rd_some.mp e2
    cases e
    refine .inl ⟨ι, h, env, _, _, E, R, e1, fun v1 H1 ι1 g1 r1 R1 => ?_⟩
    obtain ⟨t, vs, rfl, _, hv, rs⟩ := dr_obj' R1 r1 e3
    exact ⟨t, vs, rfl, SqL.of hv, fin_lst R1 rs.reverse fun v H' ι' g r R' => k v H' ι' (g1.trans g) r R'⟩
  · exact absurd e no_some

/-! ### what may be walked, by kind -/
/-- at each turn the thing at t stands as it stood -/
def Stays (K : PySem.W.Frag) (b : Bool) (t : Addr) (ds : List D) (ks : Kp) (H0 : Hp) (ι0 : List Addr) : Prop := ∀ (H : Hp) (ι : List Addr) (h : MH), Gr H0 ι0 H ι → HR K H ι h → keepOk ks h = true → ∃ vs, SqK b K H t vs ∧ DRs K H ι ds vs
theorem items_stay {K : PySem.W.Frag} {H : Hp} {ι : List Addr} {h h' : MH} {d : D} {v : V} {ds : List D} {ks ks' : Kp} (r : DR K H ι d v) (R : HR K H ι h) (e : itemsD d h = some ((ds, ks), h')) (hk : ∀ x ∈ ks, x ∈ ks') :
    h = h' ∧ ∃ b t, v = .ref t ∧ (∃ vs, SqK b K H t vs) ∧ Stays K b t ds ks' H ι := by
  unfold itemsD at e
  split at e
  · obtain ⟨q, rfl⟩ := ret_some.mp e
    cases q
    obtain ⟨t, vs, rfl, hv, rs⟩ := dr_tup.mp r
    exact ⟨rfl, true, t, rfl, ⟨vs, SqT.of hv⟩, fun H1 ι1 h1 g _ _ => ⟨vs, SqT.of (g.tup _ _ hv), rs.mono g⟩⟩
  · obtain ⟨q, rfl⟩ := ret_some.mp e
    cases q
    obtain ⟨t, vs, rfl, hv, rs⟩ := dr_fl.mp r
    exact ⟨rfl, false, t, rfl, ⟨vs, hv.seq⟩, fun H1 ι1 h1 g _ _ => ⟨vs, (hv.mono g).seq, rs.mono g⟩⟩
  · obtain ⟨xs, h2, e2, e⟩ := bnd_some.mp e
    obtain ⟨e3, rfl⟩ := rd_some.mp e2
    obtain ⟨q, rfl⟩ := ret_some.mp e
    cases q
    obtain ⟨t, vs, rfl, ea, hv, rs⟩ := dr_obj' R r e3
    refine ⟨rfl, false, t, rfl, ⟨vs, SqL.of hv⟩, fun H1 ι1 h1 g R1 kp => ?_⟩
    obtain ⟨ws, hw, rw'⟩ := lst_now ea (hk _ (List.mem_singleton.mpr rfl)) g R1 kp
    exact ⟨ws, SqL.of hw, rw'⟩
  · exact absurd e no_some
theorem dr_pair {K : PySem.W.Frag} {H : Hp} {ι : List Addr} {h : MH} {d1 d2 : D} {v1 v2 : V} {T : Addr} (R : HR K H ι h) (r1 : DR K H ι d1 v1) (r2 : DR K H ι d2 v2) (hT : H T = none) :
    Gr H ι (upd H T (.tup [v1, v2])) ι ∧ HR K (upd H T (.tup [v1, v2])) ι h ∧ DR K (upd H T (.tup [v1, v2])) ι (.tup [d1, d2]) (.ref T) := by
  have g : Gr H ι (upd H T (.tup [v1, v2])) ι := gr_new0 hT
  refine ⟨g, R.tup hT, dr_tup.mpr ⟨T, [v1, v2], rfl, upd_same, DRs.cons_ (r1.mono g) (DRs.cons_ (r2.mono g) DRs.nil_)⟩⟩
theorem zipD_get {xs ys : List D} {i : Nat} {d : D} (h : (zipD xs ys)[i]? = some d) : ∃ x y, xs[i]? = some x ∧ ys[i]? = some y ∧ d = .tup [x, y] := by
  unfold zipD at h
  rw [List.getElem?_map, Option.map_eq_some_iff] at h
  obtain ⟨⟨x, y⟩, h1, rfl⟩ := h
  rw [List.getElem?_zip_eq_some] at h1
  exact ⟨x, y, h1.1, h1.2, rfl⟩
theorem j_zip {K : PySem.W.Frag} {H0 : Hp} {ι0 : List Addr} {b c : Bool} {t u : Addr} {xs ys : List D} {ks : Kp} (s1 : Stays K b t xs ks H0 ι0) (s2 : Stays K c u ys ks H0 ι0) : JOk K (ItzK b c K t u) (zipD xs ys) ks H0 ι0 := fun i H ι h g R e => by
  obtain ⟨vs, q1, r1⟩ := s1 H ι h g R e
  obtain ⟨ws, q2, r2⟩ := s2 H ι h g R e
  refine ⟨fun en => ?_, fun d hd => ?_⟩
  · have el : (zipD xs ys).length = min xs.length ys.length := by unfold zipD; rw [List.length_map, List.length_zip]
    have l1 := r1.len
    have l2 := r2.len
    exact ⟨vs, ws, q1, q2, by omega, by omega, by omega⟩
  · obtain ⟨x, y, hx, hy, rfl⟩ := zipD_get hd
    obtain ⟨v, hv, rv⟩ := r1.get hx
    obtain ⟨w', hw, rw'⟩ := r2.get hy
    refine ⟨⟨vs, ws, v, w', q1, q2, hv, hw⟩, fun z H' yd => ?_⟩
    obtain ⟨T, v1, w1, rfl, hT, rfl, k1, k2⟩ := yd
    have e1 := k1 vs q1
    have e2 := k2 ws q2
    rw [hv] at e1
    rw [hw] at e2
    cases e1
    cases e2
    exact dr_pair R rv rw' hT
theorem enumD_get {xs : List D} {i : Nat} {d : D} (h : (enumD xs)[i]? = some d) : ∃ x, xs[i]? = some x ∧ d = .tup [.int (i : Nat), x] := by
  unfold enumD at h
  rw [List.getElem?_map, Option.map_eq_some_iff] at h
  obtain ⟨⟨x, j⟩, h1, rfl⟩ := h
  rw [List.getElem?_zipIdx, Option.map_eq_some_iff] at h1
  obtain ⟨y, h2, e⟩ := h1
  cases e
  exact ⟨_, h2, by rw [Nat.zero_add]⟩
theorem j_enm {K : PySem.W.Frag} {H0 : Hp} {ι0 : List Addr} {b : Bool} {t : Addr} {xs : List D} {ks : Kp} (s1 : Stays K b t xs ks H0 ι0) : JOk K (IteK b K t) (enumD xs) ks H0 ι0 := fun i H ι h g R e => by
  obtain ⟨vs, q1, r1⟩ := s1 H ι h g R e
  refine ⟨fun en => ?_, fun d hd => ?_⟩
  · have el : (enumD xs).length = xs.length := by unfold enumD; rw [List.length_map, List.length_zipIdx]
    have l1 := r1.len
    exact ⟨vs, q1, by omega⟩
  · obtain ⟨x, hx, rfl⟩ := enumD_get hd
    obtain ⟨v, hv, rv⟩ := r1.get hx
    refine ⟨⟨vs, v, q1, hv⟩, fun z H' yd => ?_⟩
    obtain ⟨T, v1, rfl, hT, rfl, k1⟩ := yd
    have e1 := k1 vs q1
    rw [hv] at e1
    cases e1
    exact dr_pair R (dr_int.mpr rfl) rv hT
theorem ki_zip (hc : X.calm = true) (hg : Gl X "zip") (hm : X.mg "zip" = none) (ha : PE X a (tE X.K ma)) (hb : PE X b (tE X.K mb)) (hs : starEach [a, b] X.env = (false, eval a X.env) :: starEach [b] X.env) (hs2 : starEach [b] X.env = [(false, eval b X.env)]) :
    PI X (.Tuple elts kk tpos) (.Call (.Name "zip" p) [a, b] [] pos) (tI X.K fun env => M.bnd (ma env) fun x => M.bnd (mb env) fun y => M.bnd (itemsD x) fun p => M.bnd (itemsD y) fun q => M.ret (zipD p.1 q.1, p.2 ++ q.2)) := by
  refine PI.imp (pi_zipK hg hm (pa_cons ha (pa_cons hb pa_nil hs2) hs) hs (by rw [hs2]; rfl)) fun σ H Q q => ?_
  obtain ⟨ι, h, env, ds, ks, h', E, R, e, k⟩ := q
  obtain ⟨x, h1, e1, e⟩ := bnd_some.mp e
  obtain ⟨y, h2, e2, e⟩ := bnd_some.mp e
  obtain ⟨⟨xs, k1⟩, h3, e3, e⟩ := bnd_some.mp e
  obtain ⟨⟨ys, k2⟩, h4, e4, e⟩ := bnd_some.mp e
  obtain ⟨q, rfl⟩ := ret_some.mp e
  cases q
  refine ⟨ι, h, env, x, h1, E, R, e1, fun v1 H1 ι1 g1 r1 R1 => ⟨ι1, h1, env, y, h2, E.mono g1, R1, e2, fun v2 H2 ι2 g2 r2 R2 => ?_⟩⟩
  obtain ⟨rfl, b1, t1, rfl, ⟨vs, s1⟩, st1⟩ := items_stay (r1.mono g2) R2 e3 (ks' := k1 ++ k2) fun z hz => List.mem_append_left _ hz
  obtain ⟨rfl, b2, t2, rfl, ⟨ws, s2⟩, st2⟩ := items_stay r2 R2 e4 (ks' := k1 ++ k2) fun z hz => List.mem_append_right _ hz
  exact ⟨b1, b2, t1, t2, vs, ws, rfl, s1, s2, k _ H2 ι2 (g1.trans g2) R2 (j_zip st1 st2)⟩
theorem ki_enm (hc : X.calm = true) (hg : Gl X "enumerate") (hm : X.mg "enumerate" = none) (ha : PE X a (tE X.K ma)) (hs : starEach [a] X.env = [(false, eval a X.env)]) :
    PI X (.Tuple elts kk tpos) (.Call (.Name "enumerate" p) [a] [] pos) (tI X.K fun env => M.bnd (ma env) fun x => M.bnd (itemsD x) fun p => M.ret (enumD p.1, p.2)) := by
  refine PI.imp (pi_enmK hg hm (pa_cons ha pa_nil hs) hs) fun σ H Q q => ?_
  obtain ⟨ι, h, env, ds, ks, h', E, R, e, k⟩ := q
  obtain ⟨x, h1, e1, e⟩ := bnd_some.mp e
  obtain ⟨⟨xs, k1⟩, h3, e3, e⟩ := bnd_some.mp e
  obtain ⟨q, rfl⟩ := ret_some.mp e
  cases q
  refine ⟨ι, h, env, x, h1, E, R, e1, fun v1 H1 ι1 g1 r1 R1 => ?_⟩
  obtain ⟨rfl, b1, t1, rfl, ⟨vs, s1⟩, st1⟩ := items_stay r1 R1 e3 (ks' := k1) fun z hz => hz
  exact ⟨b1, t1, vs, rfl, s1, k _ H1 ι1 g1 R1 (j_enm st1)⟩
end
end Mi

set_option maxHeartbeats 4000000
/-! MiMet: methods of lists. -/
namespace Mi
open PySem PySem.Spec PyProof.Rows L2
section
variable {X : Cx}
def metId : Mt → String
  | .index => "list.index" | .pop => "list.pop" | .popAt => "list.pop" | .insert => "list.insert" | .extend => "list.extend"
def rMet (K : PySem.W.Frag) (m : Mt) : V → List V → Hp → VK → Prop := fun x vs H Q => ∃ ι h d ds r h', DR K H ι d x ∧ DRs K H ι ds vs ∧ HR K H ι h ∧ metD m d ds h = some (r, h') ∧
  ∀ v H' ι', Gr H ι H' ι' → DR K H' ι' r v → HR K H' ι' h' → Q v H'
theorem place_at {K : PySem.W.Frag} {H : Hp} {ι : List Addr} {y : D} {v : V} (r : DR K H ι y v) (f : flatD y = true) : ∀ {ds : List D} {vs : List V} {j : Nat}, DRs K H ι ds vs → ds.all flatD = true → placeD y ds = some j →
    vs.all flatV = true ∧ ∃ z, vs[j]? = some z ∧ L2.eqV z v = true ∧ ∀ (m : Nat) (z' : V), m < j → vs[m]? = some z' → L2.eqV z' v = false
  | [], _, _, q, _, e => by cases e
  | d :: ds, _, j, q, g, e => by
    obtain ⟨w, ws, rfl, q1, q2⟩ := q.uncons
    rw [List.all_cons, Bool.and_eq_true] at g
    obtain ⟨fw, ew⟩ := flatEq q1 g.1
    have e0 := ew r f
    unfold placeD at e
    split at e
    · rename_i c
      cases e
      refine ⟨?_, w, rfl, by rw [e0]; exact c, fun m z' hm => absurd hm (Nat.not_lt_zero _)⟩
      rw [List.all_cons, fw]
      exact (inSeq r f q2 g.2).1
    · rename_i c
      rw [Option.map_eq_some_iff] at e
      obtain ⟨j', e1, rfl⟩ := e
      obtain ⟨i1, z, i2, i3, i4⟩ := place_at r f q2 g.2 e1
      refine ⟨by rw [List.all_cons, fw, i1]; rfl, z, by simpa using i2, i3, fun m z' hm hz => ?_⟩
      cases m with
      | zero =>
        simp at hz
        subst hz
        rw [e0]
        exact Bool.eq_false_iff.mpr c
      | succ m => exact i4 m z' (by omega) (by simpa using hz)
theorem opt_some {α : Type} {o : Option α} {a : α} {h h' : MH} : M.opt o h = some (a, h') ↔ o = some a ∧ h = h' := by
  cases o with
  | none => exact ⟨fun e => absurd e (no_some (h := h)), fun e => nomatch e.1⟩
  | some b =>
    show M.ret b h = _ ↔ _
    rw [ret_some]
    simp
theorem DRs.dropLast {K : PySem.W.Frag} {H : Hp} {ι : List Addr} {ds : List D} {vs : List V} (h : DRs K H ι ds vs) : DRs K H ι ds.dropLast vs.dropLast := by
  rw [List.dropLast_eq_take, List.dropLast_eq_take, ← h.len]
  exact h.take _
theorem DRs.eraseIdx {K : PySem.W.Frag} {H : Hp} {ι : List Addr} {ds : List D} {vs : List V} (h : DRs K H ι ds vs) (i : Nat) : DRs K H ι (ds.eraseIdx i) (vs.eraseIdx i) := by
  rw [List.eraseIdx_eq_take_drop_succ, List.eraseIdx_eq_take_drop_succ]
  exact (h.take _).append (h.drop _)
theorem nil_dr {K : PySem.W.Frag} {H : Hp} {ι : List Addr} {vs : List V} (r : DRs K H ι [] vs) : vs = [] := by
  unfold DRs at r
  exact r
theorem ok_met (m : Mt) : MtR X (metId m) (rMet X.K m) := by
  intro pins s σ H x xs v us Q I rx rs q
  obtain ⟨ι, g, d, ds, r, g', r1, r2, R, e, k⟩ := q
  unfold metD at e
  split at e
  · obtain ⟨j, h1, e1, e⟩ := bnd_some.mp e
    obtain ⟨f1, rfl⟩ := rd_some.mp e1
    obtain ⟨rfl, rfl⟩ := ret_some.mp e
    obtain ⟨ys, f2, f3⟩ := Option.bind_eq_some_iff.mp f1
    split at f3
    · rename_i c
      rw [Bool.and_eq_true] at c
      obtain ⟨a, vs, rfl, _, ha, rr⟩ := dr_obj' R r1 f2
      obtain ⟨w, rfl, rw'⟩ := one_dr r2
      obtain ⟨i1, z, i2, i3, i4⟩ := place_at rw' c.1 rr c.2 f3
      exact mt_index pins s σ H _ _ v us Q I rx rs ⟨a, vs, w, j, z, rfl, rfl, SqL.of ha, (flatEq rw' c.1).1, i1, i2, i3, i4, fin_same R (dr_int.mpr rfl) k⟩
    · cases f3
  · obtain ⟨ys, h1, e1, e⟩ := bnd_some.mp e
    obtain ⟨f1, rfl⟩ := rd_some.mp e1
    obtain ⟨y, h2, e2, e⟩ := bnd_some.mp e
    obtain ⟨f2, rfl⟩ := opt_some.mp e2
    obtain ⟨_, h3, e3, e⟩ := bnd_some.mp e
    cases e3
    obtain ⟨rfl, rfl⟩ := ret_some.mp e
    obtain ⟨a, vs, rfl, ea, ha, rr⟩ := dr_obj' R r1 f1
    obtain rfl := nil_dr r2
    obtain ⟨w, hw, rw'⟩ := rr.get f2
    have f := R.put (o := .lst vs.dropLast) (mo := .lst ys.dropLast) ea fun H' ι' gr e' => ⟨_, e', rr.dropLast.mono gr⟩
    exact mt_pop pins s σ H _ _ v us Q I rx rs ⟨a, vs, w, rfl, rfl, ha, by rw [← rr.len]; exact hw, k _ _ ι f.1 (rw'.mono f.1) f.2⟩
  · obtain ⟨ys, h1, e1, e⟩ := bnd_some.mp e
    obtain ⟨f1, rfl⟩ := rd_some.mp e1
    split at e
    · rename_i n i _ c
      simp only [Bool.and_eq_true, decide_eq_true_eq] at c
      obtain ⟨y, h2, e2, e⟩ := bnd_some.mp e
      obtain ⟨f2, rfl⟩ := opt_some.mp e2
      obtain ⟨_, h3, e3, e⟩ := bnd_some.mp e
      cases e3
      obtain ⟨rfl, rfl⟩ := ret_some.mp e
      obtain ⟨a, vs, rfl, ea, ha, rr⟩ := dr_obj' R r1 f1
      obtain ⟨u, rfl, ru⟩ := one_dr r2
      rw [dr_int] at ru
      subst ru
      obtain ⟨w, hw, rw'⟩ := rr.get f2
      have f := R.put (o := .lst (vs.eraseIdx i.toNat)) (mo := .lst (ys.eraseIdx i.toNat)) ea fun H' ι' gr e' => ⟨_, e', (rr.eraseIdx _).mono gr⟩
      refine mt_popAt pins s σ H _ _ v us Q I rx rs ⟨a, vs, i, i.toNat, w, rfl, rfl, ha, by omega, by omega, ?_, hw, k _ _ ι f.1 (rw'.mono f.1) f.2⟩
      have hl := rr.len
      unfold seqIndex?
      simp only [show ¬ i < 0 by omega, if_false]
      first
        | (rw [if_pos (by omega)]; done)
        | (simp; omega)
    · exact absurd e no_some
  · obtain ⟨ys, h1, e1, e⟩ := bnd_some.mp e
    obtain ⟨f1, rfl⟩ := rd_some.mp e1
    split at e
    · rename_i n i y _ c
      simp only [Bool.and_eq_true, decide_eq_true_eq] at c
      obtain ⟨_, h3, e3, e⟩ := bnd_some.mp e
      cases e3
      obtain ⟨rfl, rfl⟩ := ret_some.mp e
      obtain ⟨a, vs, rfl, ea, ha, rr⟩ := dr_obj' R r1 f1
      obtain ⟨u, w, rfl, ru, rw'⟩ := two_dr r2
      rw [dr_int] at ru
      subst ru
      have f := R.put (o := .lst (vs.take i.toNat ++ [w] ++ vs.drop i.toNat)) (mo := .lst (ys.take i.toNat ++ [y] ++ ys.drop i.toNat)) ea fun H' ι' gr e' => ⟨_, e', (((rr.take _).snoc_ rw').append (rr.drop _)).mono gr⟩
      exact mt_insert pins s σ H _ _ v us Q I rx rs ⟨a, vs, i, w, rfl, rfl, ha, by rw [line_le, ← rr.len]; exact c.2, c.1.1, by omega, k _ _ ι f.1 (dr_non.mpr rfl) f.2⟩
    · exact absurd e no_some
  · obtain ⟨ys, h1, e1, e⟩ := bnd_some.mp e
    obtain ⟨f1, rfl⟩ := rd_some.mp e1
    obtain ⟨zs, h2, e2, e⟩ := bnd_some.mp e
    obtain ⟨f2, rfl⟩ := rd_some.mp e2
    split at e
    · rename_i c
      obtain ⟨_, h3, e3, e⟩ := bnd_some.mp e
      cases e3
      obtain ⟨rfl, rfl⟩ := ret_some.mp e
      obtain ⟨a, vs, rfl, ea, ha, rr⟩ := dr_obj' R r1 f1
      obtain ⟨u, rfl, ru⟩ := one_dr r2
      obtain ⟨b, ws, rfl, eb, hb, rb⟩ := dr_obj' R ru f2
      have f := R.put (o := .lst (vs ++ ws)) (mo := .lst (ys ++ zs)) ea fun H' ι' gr e' => ⟨_, e', (rr.append rb).mono gr⟩
      exact mt_extend pins s σ H _ _ v us Q I rx rs ⟨a, b, vs, ws, rfl, rfl, ha, hb, by rw [line_le, ← rr.len, ← rb.len]; exact c, k _ _ ι f.1 (dr_non.mpr rfl) f.2⟩
    · exact absurd e no_some
  · exact absurd e no_some

variable {o : PySem.Expr} {es : List PySem.Expr} {ma : Env → M D} {ms : Env → M (List D)} {apos cpos : PySem.Pos}
theorem lst_ty {K : PySem.W.Frag} {H : Hp} {ι : List Addr} {h : MH} {d : D} {v : V} {u : Unit} (R : HR K H ι h) (r : DR K H ι d v) (e : isLst h d = some u) : tyV K "list" v H := by
  unfold isLst at e
  split at e
  · rw [Option.map_eq_some_iff] at e
    obtain ⟨xs, hx, _⟩ := e
    obtain ⟨a, vs, rfl, _, hv, _⟩ := dr_obj' R r hx
    exact .inl ⟨rfl, vs, SqL.of hv⟩
  · cases e
theorem k_met0 (ho : PE X o (tE X.K ma)) (hbase : attributeBase o "pop" X.env (eval o X.env) = eval o X.env) (hline : (apos.endLine == cpos.line) = true) :
    PE X (.Call (.Attribute o "pop" apos) [] [] cpos) (tE X.K fun env => M.bnd (ma env) fun x => M.bnd (M.rd fun h => isLst h x) fun _ => M.bnd (M.ret []) fun ys => metD .pop x ys) := by
  refine PE.imp (pe_bm0 PySem.F.plainAttrs_list PySem.F.slot_list_pop PySem.F.type_list_pop (ok_met .pop) ho hbase hline) fun σ H Q q => ?_
  obtain ⟨ι, h, env, d, h', E, R, e, k⟩ := q
  obtain ⟨x, h1, e1, e⟩ := bnd_some.mp e
  obtain ⟨_, h2, e2, e⟩ := bnd_some.mp e
  obtain ⟨e3, rfl⟩ := rd_some.mp e2
  obtain ⟨ys, h4, e4, e⟩ := bnd_some.mp e
  obtain ⟨rfl, rfl⟩ := ret_some.mp e4
  exact ⟨ι, h, env, x, _, E, R, e1, fun v1 H1 ι1 g1 r1 R1 => ⟨lst_ty R1 r1 e3, ι1, _, x, [], d, h', r1, DRs.nil_, R1, e, fun v H' ι' g r R' => k v H' ι' (g1.trans g) r R'⟩⟩
theorem met_go (m : Mt) (he : PA X es (tAs X.K ms)) : ∀ σ H Q, tE X.K (fun env => M.bnd (ma env) fun x => M.bnd (M.rd fun h => isLst h x) fun _ => M.bnd (ms env) fun ys => metD m x ys) σ H Q → tBM X.K "list" (rMet X.K m) (tE X.K ma) (tAs X.K ms) σ H Q := fun σ H Q q => by
  obtain ⟨ι, h, env, d, h', E, R, e, k⟩ := q
  obtain ⟨x, h1, e1, e⟩ := bnd_some.mp e
  obtain ⟨_, h2, e2, e⟩ := bnd_some.mp e
  obtain ⟨e3, rfl⟩ := rd_some.mp e2
  obtain ⟨ys, h4, e4, e⟩ := bnd_some.mp e
  exact ⟨ι, h, env, x, _, E, R, e1, fun v1 H1 ι1 g1 r1 R1 => ⟨lst_ty R1 r1 e3, ι1, _, env, ys, h4, E.mono g1, R1, e4, fun vs H2 ι2 g2 r2 R2 => ⟨ι2, h4, x, ys, d, h', r1.mono g2, r2, R2, e, fun v H' ι' g r R' => k v H' ι' (g1.trans (g2.trans g)) r R'⟩⟩⟩
theorem k_met1 (m : Mt) {a : PySem.Expr} (hm : m = .index ∨ m = .popAt ∨ m = .extend) (ho : PE X o (tE X.K ma)) (he : PA X [a] (tAs X.K ms)) (hbase : attributeBase o (metName m) X.env (eval o X.env) = eval o X.env) (hline : (apos.endLine == cpos.line) = true)
    (hst : starEach [a] X.env = (false, eval a X.env) :: starEach [] X.env) :
    PE X (.Call (.Attribute o (metName m) apos) [a] [] cpos) (tE X.K fun env => M.bnd (ma env) fun x => M.bnd (M.rd fun h => isLst h x) fun _ => M.bnd (ms env) fun ys => metD m x ys) := by
  rcases hm with rfl | rfl | rfl
  · exact PE.imp (pe_bm PySem.F.plainAttrs_list PySem.F.slot_list_index PySem.F.type_list_index (ok_met .index) ho he hbase (by rw [hst]; rfl) hline hst rfl) (met_go _ he)
  · exact PE.imp (pe_bm PySem.F.plainAttrs_list PySem.F.slot_list_pop PySem.F.type_list_pop (ok_met .popAt) ho he hbase (by rw [hst]; rfl) hline hst rfl) (met_go _ he)
  · exact PE.imp (pe_bm PySem.F.plainAttrs_list PySem.F.slot_list_extend PySem.F.type_list_extend (ok_met .extend) ho he hbase (by rw [hst]; rfl) hline hst rfl) (met_go _ he)
theorem k_met2 {a b : PySem.Expr} (ho : PE X o (tE X.K ma)) (he : PA X [a, b] (tAs X.K ms)) (hbase : attributeBase o "insert" X.env (eval o X.env) = eval o X.env) (hline : (apos.endLine == cpos.line) = true)
    (hst : starEach [a, b] X.env = (false, eval a X.env) :: starEach [b] X.env) (hst2 : starEach [b] X.env = (false, eval b X.env) :: starEach [] X.env) :
    PE X (.Call (.Attribute o "insert" apos) [a, b] [] cpos) (tE X.K fun env => M.bnd (ma env) fun x => M.bnd (M.rd fun h => isLst h x) fun _ => M.bnd (ms env) fun ys => metD .insert x ys) :=
  PE.imp (pe_bm PySem.F.plainAttrs_list PySem.F.slot_list_insert PySem.F.type_list_insert (ok_met .insert) ho he hbase (by rw [hst, hst2]; rfl) hline hst (by rw [hst2]; rfl)) (met_go _ he)
end
end Mi

set_option maxHeartbeats 4000000
/-! MiSnd: what is read rightly does what the small language does. -/
namespace Mi
open PySem PySem.Spec PyProof.Rows L2

/-- the parameters' values of a call by keywords alone -/
def gK {α : Type} (at_ : List Nat) (us ws : List α) : List α := match us with
  | [] => at_.filterMap fun i => ws[i]?
  | _ :: _ => []
/-- a def that may be called -/
def FnFact (X : Cx) (n : Nat) (G : Ga) (c : Cxt) (f : Nat) (x : Str) (ps : List Str) : Prop := ∃ a fd, FnOk X.prog X.w X.K X.mg X.base CX0 n a fd ps (spOf X.K ps.length (G f)) ∧ X.mg x = some (.ref a) ∧ PySem.W.keepIn X.K (.ref a) = true ∧ Binds X.K fd ps [] ∧
  ∀ ks at_, (f, ks, at_) ∈ c.kw → KBinds X.K fd ps ks (gK at_) (gK at_)
structure Good (n : Nat) (G : Ga) (c : Cxt) (X : Cx) : Prop where
  N : X.N = c.N
  sc : X.env.scope = c.sc
  nd : c.N.Nodup
  calm : X.calm = true
  room : Room n X.A
  fnS : ∀ x, c.stc x = true → X.fn x = true
  free : ∀ x ∈ c.free, X.mg x = none
  fns : ∀ f x ps, c.fn[f]? = some (x, ps) → FnFact X n G c f x ps
  xe : X.xe = fun _ _ => False
  kind : X.env.scope.kind = .function

section
variable {n : Nat} {G : Ga} {c : Cxt} {X : Cx}
theorem Good.hu (g : Good n G c X) : X.A.units + 64 < cLine := g.room.units
theorem Good.passes (g : Good n G c X) : PassesOwn (model X.prog X.w) X.A X.env X.xe := by
  rw [g.xe]
  exact PassesOwn.never
theorem Good.vis (g : Good n G c X) {x : Str} (h : visN c.sc x = true) : Vis X.env.scope x := by
  rw [g.sc]
  unfold visN at h
  split at h
  · rename_i e; exact .inl e
  · rename_i e; exact .inr (.inl e)
  · rename_i e; exact .inr (.inr e)
  · cases h
theorem Good.gl (g : Good n G c X) {x : Str} (h : glN c.sc x = true) : Gl X x := by
  show X.env.scope.names.lookup x = _
  rw [g.sc]
  unfold glN at h
  split at h
  · rename_i e; exact e
  · cases h
theorem Good.fr (g : Good n G c X) {x : Str} (h : freeN c x = true) : Gl X x ∧ X.mg x = none := by
  unfold freeN at h
  rw [Bool.and_eq_true] at h
  exact ⟨g.gl h.1, g.free x (List.contains_iff_mem.mp h.2)⟩
theorem Good.store (g : Good n G c X) {x : Str} (h : storeN c x = true) : Loc X.env.scope x ∧ (X.fn x = true ∨ X.env.scope.names.lookup x = some .local) := by
  rw [g.sc]
  unfold storeN at h
  split at h
  · rename_i e; exact ⟨.inl e, .inr e⟩
  · rename_i e; exact ⟨.inr e, .inl (g.fnS x h)⟩
  · cases h
theorem Good.blk (g : Good n G c X) {scope : Scope} (hk : scope.kind = .function) (s : Shared) (H : Hp) (C : Addr) (cl : List (Str × Addr)) (fp : List Addr) : Good n G (c.blk scope) (X.blk s H scope (compEnvC scope cl C X.env) fp) := by
  refine ⟨g.N, ?_, g.nd, g.calm, g.room, fun x h => h, g.free, g.fns, rfl, hk⟩
  show relS scope X.env.scope = relS scope c.sc
  rw [g.sc]

/-! ### the text's small facts -/
theorem star_of {x : PySem.Expr} {es : List PySem.Expr} {env : PySem.Env} (h : notStar x = true) : starEach (x :: es) env = (false, eval x env) :: starEach es env := by
  cases x <;> first | rfl | cases h
theorem set_of {x : PySem.Expr} {op : CmpOp} (h : notSet x = true) : behindInMarks op x = false := by
  cases x <;> first | rfl | cases h
theorem set_fold {x : PySem.Expr} {env : PySem.Env} (h : notSet x = true) (v : Value) : foldedSetIterable x env v = pure v := by
  cases x <;> first | rfl | cases h
theorem slice_of {x : PySem.Expr} (h : notSlice x = true) : PlainIx x := fun o i => by
  cases x <;> first | rfl | cases h
theorem base_of {x : PySem.Expr} {m : Str} {env : PySem.Env} (h : plainB x = true) : attributeBase x m env (eval x env) = eval x env := by
  cases x <;> first | rfl | cases h
theorem test_of {x : PySem.Expr} {env : PySem.Env} (h : plainT x = true) (whole : Sem Value) : isTrue x env whole = (do let v ← whole; standAt x.pos; holding [v] (truthy v)) := by
  cases x with
  | UnaryOp op a p => cases op <;> first | rfl | cases h
  | BoolOp op vs p => cases h
  | IfExp t b e p => cases h
  | Compare l o r p => cases h
  | _ => rfl
theorem comp_of {x : PySem.Expr} {tg : Option PySem.Expr} {l : Nat} {env : PySem.Env} (h : notComp x = true) : swapsWith x tg l env = pure false := by
  cases x <;> first | rfl | cases h
theorem bop_of {op : BOp} {o : Operator} (h : bopIs op o = true) : o = opOf op := by
  cases op <;> cases o <;> first | rfl | cases h
theorem cop_of {op : COp} {o : CmpOp} (h : copIs op o = true) : o = copOf op := by
  cases op <;> cases o <;> first | rfl | cases h
theorem chkEs_star {es : List CE} {c : Cxt} {xs : List PySem.Expr} {env : PySem.Env} {pos : PySem.Pos} : chkEs es c xs = true → (backTo pos (starEach xs env)).any (·.1) = false := by
  induction es generalizing xs with
  | nil =>
    intro h
    unfold chkEs at h
    cases xs with
    | nil => rfl
    | cons x r => cases h
  | cons e es ih =>
    intro h
    unfold chkEs at h
    cases xs with
    | nil => cases h
    | cons x r =>
      dsimp only at h
      rw [Bool.and_eq_true, Bool.and_eq_true] at h
      rw [star_of h.1.1]
      show (false || (backTo pos (starEach r env)).any (·.1)) = false
      rw [ih h.2]
      rfl
theorem evEs_len {G : Ga} {es : List CE} {env : Env} {h h' : MH} {ds : List D} (e : evEs G es env h = some (ds, h')) : ds.length = es.length := by
  induction es generalizing h h' ds with
  | nil =>
    unfold evEs at e
    obtain ⟨rfl, rfl⟩ := ret_some.mp e
    rfl
  | cons a es ih =>
    unfold evEs at e
    obtain ⟨x, h1, e1, e⟩ := bnd_some.mp e
    obtain ⟨xs, h2, e2, e⟩ := bnd_some.mp e
    obtain ⟨rfl, rfl⟩ := ret_some.mp e
    rw [List.length_cons, List.length_cons, ih e2]

/-! ### targets -/
theorem Good.tg (g : Good n G c X) {cg : CG} {e : PySem.Expr} (h : chkG c cg e = true) : PG X e (gG X.K cg) :=
  kg (by rw [g.N]; exact g.nd) g.calm (ok := storeN c) (fun x hx => g.store hx) cg e (by rw [g.N]; exact h)
theorem own_snd (N : List Str) : ∀ own : List Nat, (ownN N own).map (·.2) = own
  | [] => rfl
  | i :: r => congrArg (i :: ·) (own_snd N r)
theorem kw_all {pos : PySem.Pos} {env : PySem.Env} : ∀ {ks : List Keyword}, (ks.filterMap (·.arg)).length = ks.length → (backToKw pos (keywordEach ks env)).all (·.1.isSome) = true ∧ (backToKw pos (keywordEach ks env)).filterMap (·.1) = ks.filterMap (·.arg) ∧
    (backToKw pos (keywordEach ks env)).any (·.1.isNone) = false
  | [], _ => ⟨rfl, rfl, rfl⟩
  | ⟨a, v, p⟩ :: r, h => by
    cases a with
    | none =>
      have h1 : (List.filterMap (fun (k : Keyword) => k.arg) (⟨none, v, p⟩ :: r)) = r.filterMap (·.arg) := rfl
      rw [h1] at h
      have h2 := List.length_filterMap_le (fun (k : Keyword) => k.arg) r
      rw [h, List.length_cons] at h2
      omega
    | some x =>
      have h1 : (List.filterMap (fun (k : Keyword) => k.arg) (⟨some x, v, p⟩ :: r)) = x :: r.filterMap (·.arg) := rfl
      rw [h1, List.length_cons, List.length_cons] at h
      obtain ⟨i1, i2, i3⟩ := kw_all (pos := pos) (env := env) (Nat.succ.inj h)
      refine ⟨?_, ?_, ?_⟩
      · show (true && (backToKw pos (keywordEach r env)).all (·.1.isSome)) = true
        rw [i1]; rfl
      · show x :: (backToKw pos (keywordEach r env)).filterMap (·.1) = _
        rw [i2, h1]
      · show (false || (backToKw pos (keywordEach r env)).any (·.1.isNone)) = false
        rw [i3]; rfl
theorem placed_dr {K : PySem.W.Frag} {H : Hp} {ι : List Addr} {ds : List D} {zs : List V} (r : DRs K H ι ds zs) : ∀ at_ : List Nat, DRs K H ι (placed at_ ds) (at_.filterMap fun i => zs[i]?)
  | [] => DRs.nil_
  | i :: at_ => by
    unfold placed
    rw [List.filterMap_cons, List.filterMap_cons]
    cases e : ds[i]? with
    | some d =>
      obtain ⟨v, hv, rv⟩ := r.get e
      rw [hv]
      exact DRs.cons_ rv (placed_dr r at_)
    | none =>
      have : zs[i]? = none := by
        rw [List.getElem?_eq_none_iff] at e ⊢
        rw [← r.len]
        exact e
      rw [this]
      exact placed_dr r at_
theorem placed_len (at_ : List Nat) : ∀ {ds es : List D}, ds.length = es.length → (placed at_ ds).length = (placed at_ es).length := fun {ds es} h => by
  induction at_ with
  | nil => rfl
  | cons i r ih =>
    unfold placed at ih ⊢
    rw [List.filterMap_cons, List.filterMap_cons]
    by_cases l : i < ds.length
    · rw [List.getElem?_eq_getElem l, List.getElem?_eq_getElem (h ▸ l)]
      exact congrArg Nat.succ ih
    · rw [List.getElem?_eq_none (by omega), List.getElem?_eq_none (by omega)]
      exact ih
theorem chkPs_some {c : Cxt} : ∀ {es : List (CE × CE)} {ks : List (Option PySem.Expr)} {vs : List PySem.Expr}, chkPs es c ks vs = true → ks.all (·.isSome) = true ∧ ks.length = vs.length
  | [], ks, vs, h => by
    unfold chkPs at h
    simp only [Bool.and_eq_true, List.isEmpty_iff] at h
    obtain ⟨rfl, rfl⟩ := h
    exact ⟨rfl, rfl⟩
  | (a, b) :: es, ks, vs, h => by
    unfold chkPs at h
    split at h
    · simp only [Bool.and_eq_true] at h
      obtain ⟨i1, i2⟩ := chkPs_some h.2
      exact ⟨by rw [List.all_cons, i1]; rfl, congrArg Nat.succ i2⟩
    · cases h
theorem map_non_len (es : List CE) : (es.map fun _ => D.non).length = es.length := List.length_map _

mutual
theorem sndE : ∀ (e : CE) (c : Cxt) (x : PySem.Expr), chkE e c x = true → ∀ (n : Nat) (X : Cx), Good n G c X → PE X x (tE X.K fun env => evE G e env)
  | .var i, c, x, h, n, X, g => by
    unfold chkE at h
    split at h
    · rename_i y p
      simp only [Bool.and_eq_true, decide_eq_true_eq, Bool.not_eq_true'] at h
      exact k_var (by rw [g.N]; exact h.1.1.1) (g.vis h.1.1.2) h.1.2 h.2
    · cases h
  | .cst d, c, x, h, n, X, g => by
    unfold chkE at h
    split at h
    · rename_i k j p
      unfold cstIs at h
      split at h
      · exact k_cst pe_non fun H ι => dr_non.mpr rfl
      · obtain rfl := beq_iff_eq.mp h
        exact k_cst pe_bl fun H ι => dr_bl.mpr rfl
      · obtain rfl := beq_iff_eq.mp h
        exact k_cst pe_int fun H ι => dr_int.mpr rfl
      · obtain rfl := of_decide_eq_true h
        exact k_cst pe_str fun H ι => dr_str.mpr rfl
      · cases h
    · cases h
  | .tup es, c, x, h, n, X, g => by
    unfold chkE at h
    split at h
    · exact k_tup (sndEs es c _ h n X g)
    · cases h
  | .lst es, c, x, h, n, X, g => by
    unfold chkE at h
    split at h
    · exact k_lst (sndEs es c _ h n X g)
    · cases h
  | .bin op a b, c, x, h, n, X, g => by
    unfold chkE at h
    split at h
    · simp only [Bool.and_eq_true] at h
      obtain rfl := bop_of h.1.1
      exact k_bin (sndE a c _ h.1.2 n X g) (sndE b c _ h.2 n X g)
    · cases h
  | .neg a, c, x, h, n, X, g => by
    unfold chkE at h
    split at h
    · exact k_neg (sndE a c _ h n X g)
    · cases h
  | .cmp op a b, c, x, h, n, X, g => by
    unfold chkE at h
    split at h
    · simp only [Bool.and_eq_true] at h
      obtain rfl := cop_of h.1.1.1
      exact k_cmp g.hu (sndE a c _ h.1.2 n X g) (sndE b c _ h.2 n X g) (set_of h.1.1.2)
    · cases h
  | .chn op op' a b d, c, x, h, n, X, g => by
    unfold chkE at h
    split at h
    · simp only [Bool.and_eq_true] at h
      obtain rfl := cop_of h.1.1.1.1.1
      obtain rfl := cop_of h.1.1.1.1.2
      exact k_chn g.hu (sndE a c _ h.1.1.2 n X g) (sndE b c _ h.1.2 n X g) (sndE d c _ h.2 n X g) (set_of h.1.1.1.2)
    · cases h
  | .and a b, c, x, h, n, X, g => by
    unfold chkE at h
    split at h
    · rename_i y z r p
      rw [Bool.and_eq_true] at h
      cases r with
      | nil => exact k_and (sndE a c _ h.1 n X g) (pe_one (sndE b c _ h.2 n X g))
      | cons w r => exact k_and (sndE a c _ h.1 n X g) (sndE b c _ h.2 n X g)
    · cases h
  | .or a b, c, x, h, n, X, g => by
    unfold chkE at h
    split at h
    · rename_i y z r p
      rw [Bool.and_eq_true] at h
      cases r with
      | nil => exact k_or (sndE a c _ h.1 n X g) (pe_one (sndE b c _ h.2 n X g))
      | cons w r => exact k_or (sndE a c _ h.1 n X g) (sndE b c _ h.2 n X g)
    · cases h
  | .not a, c, x, h, n, X, g => by
    unfold chkE at h
    split at h
    · exact k_not (sndE a c _ h n X g)
    · cases h
  | .ite t a b, c, x, h, n, X, g => by
    unfold chkE at h
    split at h
    · simp only [Bool.and_eq_true] at h
      exact k_ite (sndT t c _ h.1.1 n X g) (sndE a c _ h.1.2 n X g) (sndE b c _ h.2 n X g)
    · cases h
  | .idx a i, c, x, h, n, X, g => by
    unfold chkE at h
    split at h
    · simp only [Bool.and_eq_true] at h
      exact k_idx g.hu (sndE a c _ h.1.2 n X g) (sndE i c _ h.2 n X g) (slice_of h.1.1)
    · cases h
  | .slc a lo hi, c, x, h, n, X, g => by
    unfold chkE at h
    split at h
    · simp only [Bool.and_eq_true] at h
      exact k_slc (sndE a c _ h.1.1 n X g) (sndO lo c _ h.1.2 n X g) (sndO hi c _ h.2 n X g)
    · cases h
  | .rev a, c, x, h, n, X, g => by
    unfold chkE at h
    split at h
    · exact k_rev (sndE a c _ h n X g)
    · cases h
  | .call f es, c, x, h, n, X, g => by
    unfold chkE at h
    split at h
    · rename_i y p z zs q
      simp only [Bool.and_eq_true, Bool.not_eq_true'] at h
      obtain ⟨⟨⟨h1, h2⟩, h3⟩, h4⟩ := h
      split at h3
      · rename_i w hw
        simp only [Bool.and_eq_true, decide_eq_true_eq] at h3
        obtain ⟨a, fd, F, hm, hk, hb, _⟩ := g.fns f w.1 w.2 (by rw [hw])
        rw [h3.1] at hm
        have hst : notStar z = true ∧ chkEs es.tail c zs = true := by
          cases es with
          | nil => unfold chkEs at h4; cases h4
          | cons e es =>
            unfold chkEs at h4
            simp only [Bool.and_eq_true] at h4
            exact ⟨h4.1.1, h4.2⟩
        exact k_call F g.room (g.gl h1) hm hk hb (sndEs es c _ h4 n X g) h2 (star_of hst.1) (chkEs_star hst.2) fun env hh ds h' e => by rw [evEs_len e]; exact h3.2
      · cases h3
    · cases h
  | .callK f at_ es, c, x, h, n, X, g => by
    unfold chkE at h
    split at h
    · rename_i y p k ks q
      simp only [Bool.and_eq_true, Bool.not_eq_true', decide_eq_true_eq] at h
      obtain ⟨⟨⟨⟨⟨h1, h2⟩, h3⟩, h4⟩, h5⟩, h6⟩ := h
      split at h3
      · rename_i w hw
        simp only [Bool.and_eq_true, decide_eq_true_eq] at h3
        obtain ⟨a, fd, F, hm, hk, hb, hK⟩ := g.fns f w.1 w.2 (by rw [hw])
        rw [h3.1] at hm
        obtain ⟨q1, q2, q3⟩ := kw_all (pos := q) (env := X.env) h5
        refine PE.imp (pe_callK0 F g.room (g.gl h1) hm hk (hK _ _ h4) (sndKs es c _ h6 n X g) q1 q2 h2 (by rw [q3]; rfl)) fun σ H Q q => ?_
        obtain ⟨ι, h, env, d, h', E, R, e, kk⟩ := q
        replace e : evE G (.callK f at_ es) env h = some (d, h') := e
        unfold evE at e
        obtain ⟨xs, h1, e1, e⟩ := bnd_some.mp e
        refine ⟨ι, h, env, xs, h1, E, R, e1, fun vs H1 ι1 g1 r1 R1 => ⟨ι1, h1, placed at_ xs, d, h', ?_, placed_dr r1 at_, R1, e, fun v H' ι' g r R' => kk v H' ι' (g1.trans g) r R'⟩⟩
        rw [← h3.2]
        exact placed_len at_ (by rw [map_non_len]; exact evEs_len e1)
      · cases h3
    · cases h
  | .blt b es, c, x, h, n, X, g => by
    unfold chkE at h
    split at h
    · rename_i y p z zs q
      simp only [Bool.and_eq_true, decide_eq_true_eq] at h
      obtain ⟨⟨rfl, h2⟩, h4⟩ := h
      have hst : notStar z = true ∧ chkEs es.tail c zs = true := by
        cases es with
        | nil => unfold chkEs at h4; cases h4
        | cons e es =>
          unfold chkEs at h4
          simp only [Bool.and_eq_true] at h4
          exact ⟨h4.1.1, h4.2⟩
      obtain ⟨f1, f2⟩ := g.fr h2
      exact k_blt g.calm f1 f2 (by cases b <;> decide +kernel) (sndEs es c _ h4 n X g) (by cases b <;> decide +kernel) (by cases b <;> decide +kernel) (star_of hst.1) (chkEs_star hst.2)
    · cases h
  | .lrng it, c, x, h, n, X, g => by
    unfold chkE at h
    split at h
    · simp only [Bool.and_eq_true, decide_eq_true_eq] at h
      obtain ⟨⟨⟨⟨⟨rfl, rfl⟩, h1⟩, h2⟩, h3⟩, h4⟩ := h
      split at h4
      · rename_i a
        obtain ⟨f1, f2⟩ := g.fr h1
        obtain ⟨f3, f4⟩ := g.fr h2
        exact k_lrng1 g.calm f1 f2 f3 f4 (sndE a c _ h4 n X g) (star_of h3)
      · cases h4
    · cases h
  | .isin t a, c, x, h, n, X, g => by
    unfold chkE at h
    split at h
    · simp only [Bool.and_eq_true, decide_eq_true_eq] at h
      obtain ⟨⟨⟨⟨⟨rfl, rfl⟩, h1⟩, h2⟩, h3⟩, h4⟩ := h
      obtain ⟨f1, f2⟩ := g.fr h1
      obtain ⟨f3, f4⟩ := g.fr h2
      exact k_isin f1 f2 f3 f4 (sndE a c _ h4 n X g) (star_of h3)
    · cases h
  | .app o a, c, x, h, n, X, g => by
    unfold chkE at h
    split at h
    · simp only [Bool.and_eq_true, decide_eq_true_eq] at h
      obtain ⟨⟨⟨⟨⟨rfl, h1⟩, h2⟩, h3⟩, h4⟩, h5⟩ := h
      exact k_app (sndE o c _ h4 n X g) (sndE a c _ h5 n X g) (base_of h2) (star_of h3) h1
    · cases h
  | .met mm o es, c, x, h, n, X, g => by
    unfold chkE at h
    split at h
    · rename_i y m ap ys p
      simp only [Bool.and_eq_true, decide_eq_true_eq] at h
      obtain ⟨⟨⟨⟨⟨rfl, h1⟩, h2⟩, h3⟩, h4⟩, h5⟩ := h
      have ho := sndE o c _ h4 n X g
      have he := sndEs es c _ h5 n X g
      match es, h3, h5 with
      | [], h3, h5 =>
        unfold chkEs at h5
        cases ys with
        | cons _ _ => cases h5
        | nil =>
          cases mm <;> first | cases h3 | skip
          refine PE.imp (k_met0 ho (base_of h2) h1) fun σ H Q q => ?_
          obtain ⟨ι, h, env, d, h', E, R, e, k⟩ := q
          replace e : evE G (.met .pop o []) env h = some (d, h') := e
          unfold evE at e
          unfold evEs at e
          exact ⟨ι, h, env, d, h', E, R, e, k⟩
      | [e1], h3, h5 =>
        unfold chkEs at h5
        cases ys with
        | nil => cases h5
        | cons a r =>
          simp only [Bool.and_eq_true] at h5
          have h6 := h5.2
          unfold chkEs at h6
          cases r with
          | cons _ _ => cases h6
          | nil =>
            refine PE.imp (k_met1 mm (by cases mm <;> first | (cases h3; done) | simp) ho he (base_of h2) h1 (star_of h5.1.1)) fun σ H Q q => ?_
            obtain ⟨ι, h, env, d, h', E, R, e, k⟩ := q
            replace e : evE G (.met mm o [e1]) env h = some (d, h') := e
            unfold evE at e
            exact ⟨ι, h, env, d, h', E, R, e, k⟩
      | [e1, e2], h3, h5 =>
        unfold chkEs at h5
        cases ys with
        | nil => cases h5
        | cons a r =>
          simp only [Bool.and_eq_true] at h5
          have h6 := h5.2
          unfold chkEs at h6
          cases r with
          | nil => cases h6
          | cons b r =>
            simp only [Bool.and_eq_true] at h6
            have h7 := h6.2
            unfold chkEs at h7
            cases r with
            | cons _ _ => cases h7
            | nil =>
              cases mm <;> first | cases h3 | skip
              refine PE.imp (k_met2 ho he (base_of h2) h1 (star_of h5.1.1) (star_of h6.1.1)) fun σ H Q q => ?_
              obtain ⟨ι, h, env, d, h', E, R, e, k⟩ := q
              replace e : evE G (.met .insert o [e1, e2]) env h = some (d, h') := e
              unfold evE at e
              exact ⟨ι, h, env, d, h', E, R, e, k⟩
      | _ :: _ :: _ :: _, h3, h5 => cases mm <;> cases h3
    · cases h
  | .lc own cg it t a, c, x, h, n, X, g => by
    unfold chkE at h
    split at h
    · rename_i xe tg ie ifs scope ps
      simp only [Bool.and_eq_true] at h
      obtain ⟨⟨⟨⟨⟨⟨h1, h2⟩, h3⟩, h4⟩, h5⟩, h6⟩, h7⟩ := h
      have ok := blkOk_by h1
      have ok' : BlkOk X.N X.env.scope scope (ownN c.N own) := by rw [g.N, g.sc]; exact ok
      have hN : X.N.Nodup := by rw [g.N]; exact g.nd
      have hgb := fun s H C cl fp => g.blk ok.kind s H C cl fp
      have hI := sndI it c _ _ h5 n X g
      have hw : ∀ i ∈ slotsG cg, i ∈ (ownN c.N own).map (·.2) := fun i hi => by
        rw [own_snd]
        exact List.contains_iff_mem.mp (List.all_eq_true.mp h3 i hi)
      have hg' : ∀ (s : Shared) (H : Hp) (C : Addr) (cl : List (Str × Addr)) (fp : List Addr), PG (X.blk s H scope (compEnvC scope cl C X.env) fp) tg (gG X.K cg) := fun s H C cl fp => (hgb s H C cl fp).tg h4
      have ht : ∀ (s : Shared) (H : Hp) (C : Addr) (cl : List (Str × Addr)) (fp : List Addr), PTs (X.blk s H scope (compEnvC scope cl C X.env) fp) ifs (tT X.K fun env => evOT G t env) := fun s H C cl fp => sndOT t _ _ h6 n _ (hgb s H C cl fp)
      have he : ∀ (s : Shared) (H : Hp) (C : Addr) (cl : List (Str × Addr)) (fp : List Addr), PE (X.blk s H scope (compEnvC scope cl C X.env) fp) xe (tE X.K fun env => evE G a env) := fun s H C cl fp => sndE a _ _ h7 n _ (hgb s H C cl fp)
      refine PE.imp (pe_lc g.calm hN hI ok' hg' ht he (set_fold h2)) fun σ H Q q => ?_
      refine k_lc g.calm hN hI ok' hg' ht he (set_fold h2) hw σ H Q ?_
      rw [own_snd]
      exact q
    · cases h
  | .dc own cg it k v, c, x, h, n, X, g => by
    unfold chkE at h
    split at h
    · rename_i xe ye tg ie scope ps
      simp only [Bool.and_eq_true] at h
      obtain ⟨⟨⟨⟨⟨⟨h1, h2⟩, h3⟩, h4⟩, h5⟩, h6⟩, h7⟩ := h
      have ok := blkOk_by h1
      have ok' : BlkOk X.N X.env.scope scope (ownN c.N own) := by rw [g.N, g.sc]; exact ok
      have hN : X.N.Nodup := by rw [g.N]; exact g.nd
      have hgb := fun s H C cl fp => g.blk ok.kind s H C cl fp
      have hI := sndI it c _ _ h5 n X g
      have hw : ∀ i ∈ slotsG cg, i ∈ (ownN c.N own).map (·.2) := fun i hi => by
        rw [own_snd]
        exact List.contains_iff_mem.mp (List.all_eq_true.mp h3 i hi)
      have hg' : ∀ (s : Shared) (H : Hp) (C : Addr) (cl : List (Str × Addr)) (fp : List Addr), PG (X.blk s H scope (compEnvC scope cl C X.env) fp) tg (gG X.K cg) := fun s H C cl fp => (hgb s H C cl fp).tg h4
      have hk : ∀ (s : Shared) (H : Hp) (C : Addr) (cl : List (Str × Addr)) (fp : List Addr), PE (X.blk s H scope (compEnvC scope cl C X.env) fp) xe (tE X.K fun env => evE G k env) := fun s H C cl fp => sndE k _ _ h6 n _ (hgb s H C cl fp)
      have he : ∀ (s : Shared) (H : Hp) (C : Addr) (cl : List (Str × Addr)) (fp : List Addr), PE (X.blk s H scope (compEnvC scope cl C X.env) fp) ye (tE X.K fun env => evE G v env) := fun s H C cl fp => sndE v _ _ h7 n _ (hgb s H C cl fp)
      refine PE.imp (k_dc g.calm hN hI ok' hg' hk he (set_fold h2) hw) fun σ H Q q => ?_
      rw [own_snd]
      exact q
    · cases h
  | .dsp kvs, c, x, h, n, X, g => by
    unfold chkE at h
    split at h
    · rename_i ks vs p
      rw [Bool.or_eq_true] at h
      rcases h with h | h
      · simp only [Bool.and_eq_true, List.isEmpty_iff] at h
        obtain ⟨⟨rfl, rfl⟩, rfl⟩ := h
        exact k_dsp0
      · simp only [Bool.and_eq_true, Bool.not_eq_true', decide_eq_true_eq] at h
        obtain ⟨⟨h1, h2⟩, h3⟩ := h
        have hp := sndPs kvs c ks vs h3 n X g p
        obtain ⟨q1, q2⟩ := chkPs_some h3
        exact k_dsp hp q1 q2 (fun z => by rw [z] at h1; cases h1) h2
    · cases h
theorem sndEs : ∀ (es : List CE) (c : Cxt) (xs : List PySem.Expr), chkEs es c xs = true → ∀ (n : Nat) (X : Cx), Good n G c X → PA X xs (tAs X.K fun env => evEs G es env)
  | [], c, xs, h, n, X, g => by
    unfold chkEs at h
    cases xs with
    | nil => exact ka_nil
    | cons x r => cases h
  | e :: es, c, xs, h, n, X, g => by
    unfold chkEs at h
    cases xs with
    | nil => cases h
    | cons x r =>
      simp only [Bool.and_eq_true] at h
      exact ka_cons (sndE e c _ h.1.2 n X g) (sndEs es c _ h.2 n X g) (star_of h.1.1)
theorem sndKs : ∀ (es : List CE) (c : Cxt) (xs : List Keyword), chkKs es c xs = true → ∀ (n : Nat) (X : Cx), Good n G c X → PK X xs (tAs X.K fun env => evEs G es env)
  | [], c, xs, h, n, X, g => by
    unfold chkKs at h
    cases xs with
    | nil => exact kk_nil
    | cons x r => cases h
  | e :: es, c, xs, h, n, X, g => by
    unfold chkKs at h
    cases xs with
    | nil => cases h
    | cons x r =>
      obtain ⟨a, v, p⟩ := x
      simp only [Bool.and_eq_true] at h
      exact kk_cons (sndE e c _ h.1 n X g) (sndKs es c _ h.2 n X g)
theorem sndPs : ∀ (es : List (CE × CE)) (c : Cxt) (ks : List (Option PySem.Expr)) (vs : List PySem.Expr), chkPs es c ks vs = true → ∀ (n : Nat) (X : Cx), Good n G c X → ∀ p, KPs X p ks vs (fun env => evPs G es env)
  | [], c, ks, vs, h, n, X, g, p => by
    unfold chkPs at h
    simp only [Bool.and_eq_true, List.isEmpty_iff] at h
    obtain ⟨rfl, rfl⟩ := h
    exact kps_nil
  | (a, b) :: es, c, ks, vs, h, n, X, g, p => by
    unfold chkPs at h
    split at h
    · simp only [Bool.and_eq_true] at h
      exact kps_cons (sndE a c _ h.1.1 n X g) (sndE b c _ h.1.2 n X g) (sndPs es c _ _ h.2 n X g p)
    · cases h
theorem sndO : ∀ (e : Option CE) (c : Cxt) (x : Option PySem.Expr), chkO e c x = true → ∀ (n : Nat) (X : Cx), Good n G c X → PO X x (tOo X.K fun env => evO G e env)
  | none, c, x, h, n, X, g => by
    unfold chkO at h
    cases x with
    | none => exact ko_none
    | some y => cases h
  | some e, c, x, h, n, X, g => by
    unfold chkO at h
    cases x with
    | none => cases h
    | some y => exact ko_some (sndE e c _ h n X g)
theorem sndT : ∀ (t : CT) (c : Cxt) (x : PySem.Expr), chkT t c x = true → ∀ (n : Nat) (X : Cx), Good n G c X → PT X x (tT X.K fun env => evT G t env)
  | .tru a, c, x, h, n, X, g => by
    unfold chkT at h
    rw [Bool.and_eq_true] at h
    exact kt_tru (sndE a c _ h.2 n X g) (test_of h.1)
  | .cmp op a b, c, x, h, n, X, g => by
    unfold chkT at h
    split at h
    · simp only [Bool.and_eq_true] at h
      obtain rfl := cop_of h.1.1.1
      exact kt_cmp g.hu (sndE a c _ h.1.2 n X g) (sndE b c _ h.2 n X g) (set_of h.1.1.2)
    · cases h
  | .chn op op' a b d, c, x, h, n, X, g => by
    unfold chkT at h
    split at h
    · simp only [Bool.and_eq_true] at h
      obtain rfl := cop_of h.1.1.1.1.1
      obtain rfl := cop_of h.1.1.1.1.2
      exact kt_chn g.hu (sndE a c _ h.1.1.2 n X g) (sndE b c _ h.1.2 n X g) (sndE d c _ h.2 n X g) (set_of h.1.1.1.2)
    · cases h
  | .and a b, c, x, h, n, X, g => by
    unfold chkT at h
    split at h
    · rename_i y z r p
      rw [Bool.and_eq_true] at h
      cases r with
      | nil => exact (kw_and (sndT a c _ h.1 n X g) (pw_and1 (sndT b c _ h.2 n X g))).pt
      | cons w r => exact (kw_and (sndT a c _ h.1 n X g) (sndW b c _ h.2 n X g ⟨_, _, _, rfl⟩)).pt
    · cases h
  | .or a b, c, x, h, n, X, g => by
    unfold chkT at h
    split at h
    · rename_i y z r p
      rw [Bool.and_eq_true] at h
      cases r with
      | nil => exact (kw_or (sndT a c _ h.1 n X g) (pw_or1 (sndT b c _ h.2 n X g))).pt
      | cons w r => exact (kw_or (sndT a c _ h.1 n X g) (sndW b c _ h.2 n X g ⟨_, _, _, rfl⟩)).pt
    · cases h
  | .not a, c, x, h, n, X, g => by
    unfold chkT at h
    split at h
    · exact kt_not (sndT a c _ h n X g)
    · cases h
theorem sndW : ∀ (t : CT) (c : Cxt) (x : PySem.Expr), chkT t c x = true → ∀ (n : Nat) (X : Cx), Good n G c X → (∃ o l q, x = .BoolOp o l q) → PW X x (tT X.K fun env => evT G t env)
  | .tru a, c, x, h, n, X, g, hx => by
    obtain ⟨o, l, q, rfl⟩ := hx
    unfold chkT at h
    rw [Bool.and_eq_true] at h
    exact absurd h.1 (by unfold plainT; exact Bool.false_ne_true)
  | .cmp op a b, c, x, h, n, X, g, hx => by
    obtain ⟨o, l, q, rfl⟩ := hx
    unfold chkT at h
    cases h
  | .chn op op' a b d, c, x, h, n, X, g, hx => by
    obtain ⟨o, l, q, rfl⟩ := hx
    unfold chkT at h
    cases h
  | .and a b, c, x, h, n, X, g, hx => by
    unfold chkT at h
    split at h
    · rename_i y z r p
      rw [Bool.and_eq_true] at h
      cases r with
      | nil => exact kw_and (sndT a c _ h.1 n X g) (pw_and1 (sndT b c _ h.2 n X g))
      | cons w r => exact kw_and (sndT a c _ h.1 n X g) (sndW b c _ h.2 n X g ⟨_, _, _, rfl⟩)
    · cases h
  | .or a b, c, x, h, n, X, g, hx => by
    unfold chkT at h
    split at h
    · rename_i y z r p
      rw [Bool.and_eq_true] at h
      cases r with
      | nil => exact kw_or (sndT a c _ h.1 n X g) (pw_or1 (sndT b c _ h.2 n X g))
      | cons w r => exact kw_or (sndT a c _ h.1 n X g) (sndW b c _ h.2 n X g ⟨_, _, _, rfl⟩)
    · cases h
  | .not a, c, x, h, n, X, g, hx => by
    obtain ⟨o, l, q, rfl⟩ := hx
    unfold chkT at h
    cases h
theorem sndOT : ∀ (t : Option CT) (c : Cxt) (xs : List PySem.Expr), chkOT t c xs = true → ∀ (n : Nat) (X : Cx), Good n G c X → PTs X xs (tT X.K fun env => evOT G t env)
  | none, c, xs, h, n, X, g => by
    unfold chkOT at h
    cases xs with
    | nil => exact kts_nil
    | cons x r => cases h
  | some t, c, xs, h, n, X, g => by
    unfold chkOT at h
    split at h
    · exact kts_one (sndT t c _ h n X g)
    · cases h
theorem sndI : ∀ (it : CI) (c : Cxt) (tg x : PySem.Expr), chkI it c tg x = true → ∀ (n : Nat) (X : Cx), Good n G c X → PI X tg x (tI X.K fun env => evI G it env)
  | .val a, c, tg, x, h, n, X, g => by
    unfold chkI at h
    exact ki_val (sndE a c _ h n X g)
  | .rng1 a, c, tg, x, h, n, X, g => by
    unfold chkI at h
    split at h
    · simp only [Bool.and_eq_true, decide_eq_true_eq] at h
      obtain ⟨⟨⟨rfl, h1⟩, h2⟩, h3⟩ := h
      obtain ⟨f1, f2⟩ := g.fr h1
      exact ki_rng1 f1 f2 (sndE a c _ h3 n X g) (by rw [star_of h2]; rfl)
    · cases h
  | .rng2 a b, c, tg, x, h, n, X, g => by
    unfold chkI at h
    split at h
    · simp only [Bool.and_eq_true, decide_eq_true_eq] at h
      obtain ⟨⟨⟨⟨⟨rfl, h1⟩, h2⟩, h3⟩, h4⟩, h5⟩ := h
      obtain ⟨f1, f2⟩ := g.fr h1
      exact ki_rng2 f1 f2 (sndE a c _ h4 n X g) (sndE b c _ h5 n X g) (by rw [star_of h2, star_of h3]; rfl) (by rw [star_of h3]; rfl)
    · cases h
  | .rngD a b, c, tg, x, h, n, X, g => by
    unfold chkI at h
    split at h
    · simp only [Bool.and_eq_true, decide_eq_true_eq] at h
      obtain ⟨⟨⟨⟨⟨rfl, h1⟩, h2⟩, h3⟩, h4⟩, h5⟩ := h
      obtain ⟨f1, f2⟩ := g.fr h1
      exact ki_rngD f1 f2 (sndE a c _ h4 n X g) (sndE b c _ h5 n X g) (fun d => by rw [star_of h2, star_of h3]) (fun d => by rw [star_of h3])
    · cases h
  | .zip a b, c, tg, x, h, n, X, g => by
    unfold chkI at h
    split at h
    · simp only [Bool.and_eq_true, decide_eq_true_eq] at h
      obtain ⟨⟨⟨⟨⟨⟨rfl, h1⟩, h0⟩, h2⟩, h3⟩, h4⟩, h5⟩ := h
      obtain ⟨f1, f2⟩ := g.fr h1
      cases tg with
      | Tuple es k p => exact ki_zip g.calm f1 f2 (sndE a c _ h4 n X g) (sndE b c _ h5 n X g) (by rw [star_of h2]) (by rw [star_of h3]; rfl)
      | _ => cases h0
    · cases h
  | .enm a, c, tg, x, h, n, X, g => by
    unfold chkI at h
    split at h
    · simp only [Bool.and_eq_true, decide_eq_true_eq] at h
      obtain ⟨⟨⟨⟨rfl, h1⟩, h0⟩, h2⟩, h3⟩ := h
      obtain ⟨f1, f2⟩ := g.fr h1
      cases tg with
      | Tuple es k p => exact ki_enm g.calm f1 f2 (sndE a c _ h3 n X g) (by rw [star_of h2]; rfl)
      | _ => cases h0
    · cases h
end
end
end Mi

set_option maxHeartbeats 4000000
/-! MiStm: statements read rightly. -/
namespace Mi
open PySem PySem.Spec PyProof.Rows L2
section
variable {X : Cx} {a b tg : PySem.Expr} {ma mb : Env → M D} {pos p : PySem.Pos} {st : PySem.Stmt} {rest : List PySem.Stmt} {G : Ga} {w : Nat}
theorem ks_nil : PSs X [] (tS X.K fun env => evSs G w [] env) := by
  refine PSs.imp pss_nil fun D σ H q => ?_
  obtain ⟨ι, h, env, o, env', h', E, R, e, k⟩ := q
  unfold evSs at e
  obtain ⟨q, rfl⟩ := ret_some.mp e
  cases q
  exact k σ H ι Gr.refl E R
theorem ks_cons {s : CS} {ss : List CS} (h1 : PS X st (tS X.K fun env => evS G w s env)) (h2 : PSs X rest (tS X.K fun env => evSs G w ss env)) : PSs X (st :: rest) (tS X.K fun env => evSs G w (s :: ss) env) := by
  refine PSs.imp (pss_cons h1 h2) fun D σ H q => ?_
  obtain ⟨ι, h, env, o, env', h', E, R, e, k⟩ := q
  unfold evSs at e
  obtain ⟨⟨o1, env1⟩, h1, e1, e⟩ := bnd_some.mp e
  refine ⟨ι, h, env, o1, env1, h1, E, R, e1, ?_⟩
  cases o1 with
  | nx => exact fun σ1 H1 ι1 g1 E1 R1 => ⟨ι1, h1, env1, o, env', h', E1, R1, e, k.mono g1⟩
  | bk =>
    obtain ⟨q, rfl⟩ := ret_some.mp e
    cases q
    exact k
  | ct =>
    obtain ⟨q, rfl⟩ := ret_some.mp e
    cases q
    exact k
  | ret d =>
    obtain ⟨q, rfl⟩ := ret_some.mp e
    cases q
    exact k
theorem ks_set {i : Nat} {te : TE} {e : CE} (h : PS X st (tAsg te (gName i))) (hi : ∀ σ H Q, tE X.K (fun env => evE G e env) σ H Q → te σ H Q) : PS X st (tS X.K fun env => evS G w (.set i e) env) := by
  refine PS.imp h fun D σ H q => ?_
  obtain ⟨ι, h, env, o, env', h', E, R, ee, k⟩ := q
  unfold evS at ee
  obtain ⟨x, h1, e1, e2⟩ := bnd_some.mp ee
  refine hi _ _ _ ⟨ι, h, env, x, h1, E, R, e1, fun v H1 ι1 g1 r1 R1 => ?_⟩
  split at e2
  · obtain ⟨q, rfl⟩ := ret_some.mp e2
    cases q
    exact k _ H1 ι1 g1 ((E.mono g1).set r1) R1
  · exact absurd e2 no_some
theorem ks_asg {g : CG} {e : CE} (h : PS X st (tAsg (tE X.K fun env => evE G e env) (gG X.K g))) : PS X st (tS X.K fun env => evS G w (.asg g e) env) := by
  refine PS.imp h fun D σ H q => ?_
  obtain ⟨ι, h, env, o, env', h', E, R, ee, k⟩ := q
  unfold evS at ee
  obtain ⟨x, h1, e1, e2⟩ := bnd_some.mp ee
  refine ⟨ι, h, env, x, h1, E, R, e1, fun v H1 ι1 g1 r1 R1 => ?_⟩
  cases b : bindG g x env with
  | some env2 =>
    rw [b] at e2
    obtain ⟨q, rfl⟩ := ret_some.mp e2
    cases q
    exact ⟨ι1, _, env, _, x, E.mono g1, R1, r1, b, fun σ' E' _ _ => k σ' H1 ι1 g1 E' R1⟩
  | none =>
    rw [b] at e2
    exact absurd e2 no_some
theorem ks_asgL {gs : List CG} {e : CE} (h : PS X st (tAsg (tE X.K fun env => evE G e env) (gUnl X.K gs.length (gGs X.K gs)))) : PS X st (tS X.K fun env => evS G w (.asgL gs e) env) := by
  refine PS.imp h fun D σ H q => ?_
  obtain ⟨ι, h, env, o, env', h', E, R, ee, k⟩ := q
  unfold evS at ee
  obtain ⟨x, h1, e1, e2⟩ := bnd_some.mp ee
  obtain ⟨xs, h2, e3, e5⟩ := bnd_some.mp e2
  obtain ⟨e4, rfl⟩ := rd_some.mp e3
  refine ⟨ι, h, env, x, _, E, R, e1, fun v H1 ι1 g1 r1 R1 => ?_⟩
  cases x with
  | obj n =>
    obtain ⟨a, vs, rfl, _, hv, rr⟩ := dr_obj' R1 r1 e4
    cases b : bindGs gs xs env with
    | some env2 =>
      rw [b] at e5
      obtain ⟨q, rfl⟩ := ret_some.mp e5
      cases q
      exact ⟨a, vs, rfl, SqL.of hv, by rw [← rr.len, bind_len b], ι1, _, env, _, xs, E.mono g1, R1, rr, b, fun σ' E' _ _ => k σ' H1 ι1 g1 E' R1⟩
    | none =>
      rw [b] at e5
      exact absurd e5 no_some
  | _ => cases e4
theorem ks_par {i j : Nat} {ea eb : CE} (h : PS X st (tPar i j (tAs X.K fun env => evEs G [ea, eb] env))) : PS X st (tS X.K fun env => evS G w (.par i j ea eb) env) := by
  refine PS.imp h fun D σ H q => ?_
  obtain ⟨ι, h, env, o, env', h', E, R, ee, k⟩ := q
  unfold evS at ee
  obtain ⟨x, h1, e1, e2⟩ := bnd_some.mp ee
  obtain ⟨y, h2, e3, e2⟩ := bnd_some.mp e2
  have es : evEs G [ea, eb] env h = some ([x, y], h2) := by
    unfold evEs
    refine bnd_some.mpr ⟨x, h1, e1, ?_⟩
    unfold evEs
    refine bnd_some.mpr ⟨[y], h2, bnd_some.mpr ⟨y, h2, e3, ?_⟩, rfl⟩
    unfold evEs
    rfl
  refine ⟨ι, h, env, _, h2, E, R, es, fun vs H1 ι1 g1 r1 R1 => ?_⟩
  obtain ⟨v, vr, rfl, r2, r3⟩ := r1.uncons
  obtain ⟨v2, vr2, rfl, r4, r5⟩ := r3.uncons
  unfold DRs at r5
  subst r5
  refine ⟨v, v2, rfl, ?_⟩
  split at e2
  · obtain ⟨q, rfl⟩ := ret_some.mp e2
    cases q
    exact k _ H1 ι1 g1 (((E.mono g1).set r2).set r4) R1
  · exact absurd e2 no_some
theorem ks_put {o i e : CE} (h : PS X st (tAsg (tE X.K fun env => evE G e env) (gSub (tE X.K fun env => evE G o env) (tE X.K fun env => evE G i env) (rPut X.K)))) : PS X st (tS X.K fun env => evS G w (.put o i e) env) := by
  refine PS.imp h fun D σ H q => ?_
  obtain ⟨ι, h, env, oo, env', h', E, R, ee, k⟩ := q
  unfold evS at ee
  obtain ⟨v, h1, e1, e2⟩ := bnd_some.mp ee
  obtain ⟨x, h2, e3, e2⟩ := bnd_some.mp e2
  obtain ⟨y, h3, e4, e2⟩ := bnd_some.mp e2
  obtain ⟨u, h4, e5, e2⟩ := bnd_some.mp e2
  obtain ⟨q, rfl⟩ := ret_some.mp e2
  cases q
  exact ⟨ι, h, env, v, h1, E, R, e1, fun v1 H1 ι1 g1 r1 R1 => ⟨ι1, h1, env, x, h2, E.mono g1, R1, e3, fun v2 H2 ι2 g2 r2 R2 => ⟨ι2, h2, env, y, h3, (E.mono g1).mono g2, R2, e4, fun v3 H3 ι3 g3 r3 R3 =>
    ⟨ι3, h3, x, y, v, h4, r2.mono g3, r3, (r1.mono g2).mono g3, R3, e5, fun H4 ι4 g4 R4 => k σ H4 ι4 (g1.trans (g2.trans (g3.trans g4))) (((E.mono g1).mono g2).mono (g3.trans g4)) R4⟩⟩⟩⟩
theorem ks_exp {e : CE} (h : PS X st (tDrop (tE X.K fun env => evE G e env))) : PS X st (tS X.K fun env => evS G w (.exp e) env) := by
  refine PS.imp h fun D σ H q => ?_
  obtain ⟨ι, h, env, oo, env', h', E, R, ee, k⟩ := q
  unfold evS at ee
  obtain ⟨v, h1, e1, e2⟩ := bnd_some.mp ee
  obtain ⟨q, rfl⟩ := ret_some.mp e2
  cases q
  exact ⟨ι, h, env, v, _, E, R, e1, fun v1 H1 ι1 g1 r1 R1 => k σ H1 ι1 g1 (E.mono g1) R1⟩
theorem ks_ret {e : CE} (h : PS X st (tRet (tE X.K fun env => evE G e env))) : PS X st (tS X.K fun env => evS G w (.ret e) env) := by
  refine PS.imp h fun D σ H q => ?_
  obtain ⟨ι, h, env, oo, env', h', E, R, ee, k⟩ := q
  unfold evS at ee
  obtain ⟨v, h1, e1, e2⟩ := bnd_some.mp ee
  obtain ⟨q, rfl⟩ := ret_some.mp e2
  cases q
  exact ⟨ι, h, env, v, _, E, R, e1, fun v1 H1 ι1 g1 r1 R1 => k v1 H1 ι1 g1 r1 R1⟩
theorem ks_retN (h : PS X st tRetN) : PS X st (tS X.K fun env => evS G w .retN env) := by
  refine PS.imp h fun D σ H q => ?_
  obtain ⟨ι, h, env, oo, env', h', E, R, ee, k⟩ := q
  unfold evS at ee
  obtain ⟨q, rfl⟩ := ret_some.mp ee
  cases q
  exact k .non H ι Gr.refl (dr_non.mpr rfl) R
theorem ks_ifs {t : CT} {x y : List CS} (h : PS X st (tIfS (tT X.K fun env => evT G t env) (tS X.K fun env => evSs G w x env) (tS X.K fun env => evSs G w y env))) : PS X st (tS X.K fun env => evS G w (.ifs t x y) env) := by
  refine PS.imp h fun D σ H q => ?_
  obtain ⟨ι, h, env, oo, env', h', E, R, ee, k⟩ := q
  unfold evS at ee
  obtain ⟨c, h1, e1, e2⟩ := bnd_some.mp ee
  refine ⟨ι, h, env, c, h1, E, R, e1, fun H1 ι1 g1 R1 => ?_⟩
  cases c with
  | true =>
    rw [if_pos rfl] at e2
    exact iteT ⟨ι1, h1, env, oo, env', h', E.mono g1, R1, e2, k.mono g1⟩
  | false =>
    rw [if_neg Bool.false_ne_true] at e2
    exact iteF ⟨ι1, h1, env, oo, env', h', E.mono g1, R1, e2, k.mono g1⟩
theorem ks_pass (h : PS X st tNext) : PS X st (tS X.K fun env => evS G w .pass env) := by
  refine PS.imp h fun D σ H q => ?_
  obtain ⟨ι, h, env, oo, env', h', E, R, ee, k⟩ := q
  unfold evS at ee
  obtain ⟨q, rfl⟩ := ret_some.mp ee
  cases q
  exact k σ H ι Gr.refl E R
theorem ks_brk (h : PS X st tBreak) : PS X st (tS X.K fun env => evS G w .brk env) := by
  refine PS.imp h fun D σ H q => ?_
  obtain ⟨ι, h, env, oo, env', h', E, R, ee, k⟩ := q
  unfold evS at ee
  obtain ⟨q, rfl⟩ := ret_some.mp ee
  cases q
  exact k σ H ι Gr.refl E R
theorem ks_cnt (h : PS X st tCont) : PS X st (tS X.K fun env => evS G w .cnt env) := by
  refine PS.imp h fun D σ H q => ?_
  obtain ⟨ι, h, env, oo, env', h', E, R, ee, k⟩ := q
  unfold evS at ee
  obtain ⟨q, rfl⟩ := ret_some.mp ee
  cases q
  exact k σ H ι Gr.refl E R
/-! ### whom a comprehension changes places with -/
theorem swT_none {es : List PySem.Expr} {k : Nat} {q : PySem.Pos} {v : PySem.Expr} {env : PySem.Env} (h : isTupE v = false) : swappedStores [.Tuple es k q] v env = pure none := by
  cases v <;> first | rfl | cases h
theorem swN_none {es : List PySem.Expr} {k : Nat} {q : PySem.Pos} {v : PySem.Expr} {env : PySem.Env} (h : noSwap env.scope es v = true) : swappedStores [.Tuple es k q] v env = pure none := by
  cases v with
  | Tuple vs k2 q2 =>
    replace h : swapN env.scope es vs = true := h
    unfold swapN at h
    unfold swappedStores
    dsimp only
    split
    · rfl
    · rename_i c1
      split
      · rfl
      · split
        · rfl
        · rename_i c2
          exfalso
          rw [Bool.or_eq_true, Bool.or_eq_true] at h
          simp only [Bool.or_eq_true, not_or, Bool.not_eq_true] at c1 c2
          rcases h with (h | h) | h
          · rw [h] at c1; exact absurd c1.1.1 (by decide)
          · rw [h] at c1; exact absurd c1.1.2 (by decide)
          · have e := c2.1
            unfold Env.kindOf at e
            exact Bool.noConfusion (h.symm.trans e)
  | _ => rfl
theorem swS_none {x y : PySem.Expr} {q : PySem.Pos} {v : PySem.Expr} {env : PySem.Env} : swappedStores [.Subscript x y q] v env = pure none := by
  cases v <;> rfl
theorem swP {x y : Str} {px py q q2 : PySem.Pos} {k k2 : Nat} {u v : PySem.Expr} {env : PySem.Env} (hk : env.scope.kind = .function) (hx : env.scope.names.lookup x = some .local) (hy : env.scope.names.lookup y = some .local) (hl : (px.line == py.line) = true) (hxy : (x == y) = false)
    (h1 : [u, v].all (foldedForSure 8) = false) (h2 : [u, v].all (constantsAlone 8) = false) (hu : notStar u = true) (hv : notStar v = true) :
    swappedStores [.Tuple [.Name x px, .Name y py] k q] (.Tuple [u, v] k2 q2) env = pure (some [x, y]) := by
  have kx : env.kindOf x = some .local := hx
  have ky : env.kindOf y = some .local := hy
  have hb : env.blockKind = .function := by unfold Env.blockKind; rw [hk]; rfl
  have hl2 : py.line = px.line := (beq_iff_eq.mp hl).symm
  have su : ∀ z : PySem.Expr, notStar z = true → (fun (w : PySem.Expr) => match w with | .Starred .. => true | _ => false) z = false := by
    intro z hz
    cases z <;> first | rfl | cases hz
  have e1 : ([u, v].any fun | .Starred .. => true | _ => false) = false := by
    show (_ || (_ || false)) = false
    rw [show _ = false from su u hu, show _ = false from su v hv]
    rfl
  have e2 : ([x, y].eraseDups.length != [x, y].length) = false := by
    have hyx : (y == x) = false := by
      rw [Bool.eq_false_iff]
      intro z
      rw [beq_iff_eq] at z
      subst z
      simp at hxy
    simp [List.eraseDups_cons, hxy, hyx]
  have e3 : ∀ l : Nat, px.line = l → ([.Name x px, .Name y py] : List PySem.Expr).filterMap (fun
    | .Name id pos => if env.kindOf id == some .local && pos.line == l then some id else none
    | _ => none) = [x, y] := by
    rintro l rfl
    simp [kx, ky, hl2]
  unfold swappedStores
  dsimp only
  refine (if_neg ?_).trans ((if_neg ?_).trans ?_)
  · rw [hb]
    exact Bool.false_ne_true
  · intro z
    exact Bool.false_ne_true (e1.symm.trans z)
  · generalize hN : List.filterMap _ ([.Name x px, .Name y py] : List PySem.Expr) = N
    have q : N = [x, y] := hN.symm.trans (e3 _ rfl)
    subst q
    clear hN
    refine (if_neg ?_).trans ((if_neg ?_).trans ((if_neg ?_).trans rfl))
    · intro z
      rw [Bool.or_eq_true] at z
      rcases z with z | z
      · exact absurd z (by show ¬ (2 != 2) = true; decide)
      · exact Bool.false_ne_true (e2.symm.trans z)
    · rw [h1]
      exact Bool.false_ne_true
    · rw [h2]
      exact Bool.false_ne_true
end
end Mi

set_option maxHeartbeats 4000000
/-! MiStm2: whole bodies read rightly. -/
namespace Mi
open PySem PySem.Spec PyProof.Rows L2
variable {G : Ga} {w : Nat}
theorem sw_lc {a : PySem.Expr} {gs : List Comprehension} {scope : Scope} {p px : PySem.Pos} {x : Str} {l : Nat} {env : PySem.Env} :
    swapsWith (.ListComp a gs scope p) (some (.Name x px)) l env = pure (env.blockKind == .function && env.kindOf x == some .local && px.line == p.line && !(scope.names.any fun (n, k) => n == x && (k == .local || k == .cell))) := rfl
theorem sw_dc {a b : PySem.Expr} {gs : List Comprehension} {scope : Scope} {p px : PySem.Pos} {x : Str} {l : Nat} {env : PySem.Env} :
    swapsWith (.DictComp a b gs scope p) (some (.Name x px)) l env = pure (env.blockKind == .function && env.kindOf x == some .local && px.line == p.line && !(scope.names.any fun (n, k) => n == x && (k == .local || k == .cell))) := rfl
/-- name = {k: v for ..}, the name a local -/
theorem ps_setDc {X : Cx} {i : Nat} {y : Str} {py : PySem.Pos} {kx vx tg iter : PySem.Expr} {ifs : List PySem.Expr} {scope : Scope} {own : List (Str × Nat)} {pos spos : PySem.Pos} {wi : TI} {g : TG} {tt : TT} {tk tv : TE} (hc : X.calm = true) (hN : X.N.Nodup) (hy : X.N[i]? = some y) (hyl : X.env.scope.names.lookup y = some .local)
    (hsw : swapsWith (.DictComp kx vx [⟨tg, iter, ifs, 0⟩] scope pos) (some (.Name y py)) spos.line X.env = pure true) (hi : PI X tg iter wi) (ok : BlkOk X.N X.env.scope scope own)
    (hg : ∀ (s : Shared) (H : Hp) (C : Addr) (cl : List (Str × Addr)) (fp : List Addr), PG (X.blk s H scope (compEnvC scope cl C X.env) fp) tg g) (ht : ∀ (s : Shared) (H : Hp) (C : Addr) (cl : List (Str × Addr)) (fp : List Addr), PTs (X.blk s H scope (compEnvC scope cl C X.env) fp) ifs tt)
    (hk : ∀ (s : Shared) (H : Hp) (C : Addr) (cl : List (Str × Addr)) (fp : List Addr), PE (X.blk s H scope (compEnvC scope cl C X.env) fp) kx tk)
    (he : ∀ (s : Shared) (H : Hp) (C : Addr) (cl : List (Str × Addr)) (fp : List Addr), PE (X.blk s H scope (compEnvC scope cl C X.env) fp) vx tv) (hs : ∀ x, foldedSetIterable iter X.env x = pure x) :
    PS X (.Assign [.Name y py] (.DictComp kx vx [⟨tg, iter, ifs, 0⟩] scope pos) spos) (tAsg (tDc wi g tt tk tv (own.map (·.2))) (gName i)) := by
  refine ⟨fun pins s σ H D I h => ?_⟩
  rw [exec_Assign_Name_used _ _ _ _ hsw]
  refine wpAny_bind (wpAny_standAt (wpAny_bind ?_))
  show wpAny _ X.A (do let _ ← comprehension (.DictComp kx vx [⟨tg, iter, ifs, 0⟩] scope pos) scope X.env (firstIterPos [⟨tg, iter, ifs, 0⟩] pos) newDict false (eval iter X.env) (some (assign (.Name y py) X.env))) _ _ s
  have h : tDc wi g tt tk tv (own.map (·.2)) σ H (fun x H1 => gName i x σ H1 D.nx) := h
  refine wpAny_bind (thn (dc_core (Qf := fun _ s' => SP X pins D .next s') hc hN I hi ok hg ht hk he hs h fun L C s' m H' I' q hn f => ?_) fun _ s' hq => wpAny_pure (wpAny_pure hq))
  show wpAny _ _ (assign (.Name y py) X.env (.ref L)) _ _ _
  refine wpAny_assign_Name (store_ok2 (v := V.ref L) I' hN hy (.inl hyl) rfl (fun s2 I2 ⟨a, sb, ha⟩ => ?_) (.inr hyl))
  obtain ⟨f0, f1, f2, f3, f4, f5⟩ := f
  have haC : C ≠ a := by
    rcases ha with z | z
    · rw [z]; exact f1
    · exact fun e => f4 y a z e.symm
  refine ⟨m, hn.sameBut sb haC, fun h3 sb3 => ?_⟩
  exact ⟨_, H', I2.turned (t' := s2.toks) (fun b o hb e => (sb3.2 b hb).trans e) f0 f1 f3 f4 f5, q⟩
theorem snd_set {i : Nat} {e : CE} {c : Cxt} {x : Str} {px : PySem.Pos} {v : PySem.Expr} {pos : PySem.Pos} (hi : c.N[i]? = some x) (hst : storeN c x = true) (hd : notSC v = true) (he : chkE e c v = true) (n : Nat) (X : Cx) (g : Good n G c X) :
    PS X (.Assign [.Name x px] v pos) (tS X.K fun env => evS G w (.set i e) env) := by
  have hN : X.N.Nodup := by rw [g.N]; exact g.nd
  have hi' : X.N[i]? = some x := by rw [g.N]; exact hi
  have hx := g.store hst
  have base : swapsWith v (some (.Name x px)) pos.line X.env = pure false → PS X (.Assign [.Name x px] v pos) (tS X.K fun env => evS G w (.set i e) env) := fun hs =>
    ks_set (ps_set hN hi' hx.1 (sndE e c v he n X g) hs hx.2) fun _ _ _ q => q
  cases v with
  | ListComp elt gens scope p =>
    cases hb : (X.env.blockKind == .function && X.env.kindOf x == some .local && px.line == p.line && !(scope.names.any fun (n, k) => n == x && (k == .local || k == .cell))) with
    | false => exact base (by rw [sw_lc, hb])
    | true =>
      have hsw : swapsWith (.ListComp elt gens scope p) (some (.Name x px)) pos.line X.env = pure true := by rw [sw_lc, hb]
      simp only [Bool.and_eq_true] at hb
      have hyl : X.env.scope.names.lookup x = some .local := beq_iff_eq.mp hb.1.1.2
      cases e with
      | lc own cg it t a =>
        have h := he
        unfold chkE at h
        split at h
        · rename_i xe tg ie ifs scope2 ps heq
          cases heq
          simp only [Bool.and_eq_true] at h
          obtain ⟨⟨⟨⟨⟨⟨h1, h2⟩, h3⟩, h4⟩, h5⟩, h6⟩, h7⟩ := h
          have ok := blkOk_by h1
          have ok' : BlkOk X.N X.env.scope scope (ownN c.N own) := by rw [g.N, g.sc]; exact ok
          have hgb := fun s H C cl fp => g.blk ok.kind s H C cl fp
          have hI := sndI it c _ _ h5 n X g
          have hw : ∀ i ∈ slotsG cg, i ∈ (ownN c.N own).map (·.2) := fun i hi => by
            rw [own_snd]
            exact List.contains_iff_mem.mp (List.all_eq_true.mp h3 i hi)
          have hg' : ∀ (s : Shared) (H : Hp) (C : Addr) (cl : List (Str × Addr)) (fp : List Addr), PG (X.blk s H scope (compEnvC scope cl C X.env) fp) tg (gG X.K cg) := fun s H C cl fp => (hgb s H C cl fp).tg h4
          have ht : ∀ (s : Shared) (H : Hp) (C : Addr) (cl : List (Str × Addr)) (fp : List Addr), PTs (X.blk s H scope (compEnvC scope cl C X.env) fp) ifs (tT X.K fun env => evOT G t env) := fun s H C cl fp => sndOT t _ _ h6 n _ (hgb s H C cl fp)
          have hE : ∀ (s : Shared) (H : Hp) (C : Addr) (cl : List (Str × Addr)) (fp : List Addr), PE (X.blk s H scope (compEnvC scope cl C X.env) fp) elt (tE X.K fun env => evE G a env) := fun s H C cl fp => sndE a _ _ h7 n _ (hgb s H C cl fp)
          refine ks_set (ps_setLc g.calm hN hi' hyl hsw hI ok' hg' ht hE (set_fold h2)) fun σ H Q q => ?_
          refine k_lc g.calm hN hI ok' hg' ht hE (set_fold h2) hw σ H Q ?_
          rw [own_snd]
          exact q
        · cases h
      | _ => 
        revert he
        unfold chkE
        intro he
        first | exact absurd he Bool.false_ne_true | (dsimp only at he; cases he)
  | SetComp elt gens scope p => cases hd
  | DictComp kx vx gens scope p =>
    cases hb : (X.env.blockKind == .function && X.env.kindOf x == some .local && px.line == p.line && !(scope.names.any fun (n, k) => n == x && (k == .local || k == .cell))) with
    | false => exact base (by rw [sw_dc, hb])
    | true =>
      have hsw : swapsWith (.DictComp kx vx gens scope p) (some (.Name x px)) pos.line X.env = pure true := by rw [sw_dc, hb]
      simp only [Bool.and_eq_true] at hb
      have hyl : X.env.scope.names.lookup x = some .local := beq_iff_eq.mp hb.1.1.2
      cases e with
      | dc own cg it k v =>
        have h := he
        unfold chkE at h
        split at h
        · rename_i xe ye tg ie scope2 ps heq
          cases heq
          simp only [Bool.and_eq_true] at h
          obtain ⟨⟨⟨⟨⟨⟨h1, h2⟩, h3⟩, h4⟩, h5⟩, h6⟩, h7⟩ := h
          have ok := blkOk_by h1
          have ok' : BlkOk X.N X.env.scope scope (ownN c.N own) := by rw [g.N, g.sc]; exact ok
          have hgb := fun s H C cl fp => g.blk ok.kind s H C cl fp
          have hI := sndI it c _ _ h5 n X g
          have hw : ∀ i ∈ slotsG cg, i ∈ (ownN c.N own).map (·.2) := fun i hi => by
            rw [own_snd]
            exact List.contains_iff_mem.mp (List.all_eq_true.mp h3 i hi)
          have hg' : ∀ (s : Shared) (H : Hp) (C : Addr) (cl : List (Str × Addr)) (fp : List Addr), PG (X.blk s H scope (compEnvC scope cl C X.env) fp) tg (gG X.K cg) := fun s H C cl fp => (hgb s H C cl fp).tg h4
          have hk : ∀ (s : Shared) (H : Hp) (C : Addr) (cl : List (Str × Addr)) (fp : List Addr), PE (X.blk s H scope (compEnvC scope cl C X.env) fp) kx (tE X.K fun env => evE G k env) := fun s H C cl fp => sndE k _ _ h6 n _ (hgb s H C cl fp)
          have hE : ∀ (s : Shared) (H : Hp) (C : Addr) (cl : List (Str × Addr)) (fp : List Addr), PE (X.blk s H scope (compEnvC scope cl C X.env) fp) vx (tE X.K fun env => evE G v env) := fun s H C cl fp => sndE v _ _ h7 n _ (hgb s H C cl fp)
          refine ks_set (ps_setDc g.calm hN hi' hyl hsw hI ok' hg' (fun _ _ _ _ _ => pts_nil) hk hE (set_fold h2)) fun σ H Q q => ?_
          refine k_dc0 g.calm hN hI ok' hg' hk hE (set_fold h2) hw σ H Q ?_
          rw [own_snd]
          exact q
        · cases h
      | _ => 
        revert he
        unfold chkE
        intro he
        first | exact absurd he Bool.false_ne_true | (dsimp only at he; cases he)
  | _ => exact base rfl
theorem comp_sole {x tg : PySem.Expr} {l : Nat} {env : PySem.Env} (h : notComp x = true) : swapsWithSole [tg] x l env = pure false := comp_of h
theorem sub_of {o i : PySem.Expr} {p : PySem.Pos} {env : PySem.Env} (h : notSlice i = true) (v : Value) : assign (.Subscript o i p) env v = (do
    let ov ← holding [v] (eval o env)
    let iv ← holding [v, ov] (eval i env)
    standAt p
    holding [v, ov, iv] (setItem ov iv v)
    release [v, ov, iv] []) := by
  cases i <;> first | rfl | cases h
mutual
theorem sndS : ∀ (s : CS) (c : Cxt) (x : PySem.Stmt), chkS s c x = true → ∀ (n : Nat) (X : Cx), Good n G c X → PS X x (tS X.K fun env => evS G w s env)
  | .set i e, c, x, h, n, X, g => by
    unfold chkS at h
    split at h
    · simp only [Bool.and_eq_true, decide_eq_true_eq] at h
      exact snd_set h.1.1.1 h.1.1.2 h.1.2 h.2 n X g
    · cases h
  | .asg cg e, c, x, h, n, X, g => by
    unfold chkS at h
    split at h
    · simp only [Bool.and_eq_true, Bool.not_eq_true'] at h
      exact ks_asg (ps_asg (sndE e c _ h.2 n X g) (g.tg h.1.2) (comp_sole h.1.1.2) (swN_none (by rw [g.sc]; exact h.1.1.1)))
    · cases h
  | .asgL gs e, c, x, h, n, X, g => by
    unfold chkS at h
    split at h
    · simp only [Bool.and_eq_true, Bool.not_eq_true'] at h
      obtain ⟨i1, i2⟩ := tgs_each (env := X.env) h.1.2
      exact ks_asgL (ps_asg (sndE e c _ h.2 n X g) (pg_unl g.calm (kgs (by rw [g.N]; exact g.nd) g.calm (ok := storeN c) (fun x hx => g.store hx) gs _ (by rw [g.N]; exact h.1.2)) i1 i2) (comp_sole h.1.1.2) (swT_none h.1.1.1))
    · cases h
  | .par i j a b, c, x, h, n, X, g => by
    unfold chkS at h
    split at h
    · rename_i x px y py _ _ u v _ _ _
      simp only [Bool.and_eq_true, Bool.not_eq_true', decide_eq_true_eq] at h
      obtain ⟨⟨⟨⟨⟨⟨⟨⟨⟨⟨⟨⟨h1, h2⟩, h3⟩, h4⟩, h5⟩, h6⟩, h7⟩, h8⟩, h9⟩, h10⟩, h11⟩, h12⟩, h13⟩ := h
      have hN : X.N.Nodup := by rw [g.N]; exact g.nd
      have hx : X.env.scope.names.lookup x = some .local := by rw [g.sc]; exact beq_iff_eq.mp h5
      have hy : X.env.scope.names.lookup y = some .local := by rw [g.sc]; exact beq_iff_eq.mp h6
      refine ks_par (ps_par g.calm hN (by rw [g.N]; exact h1) (by rw [g.N]; exact h2) (fun z => by rw [z, beq_self_eq_true] at h3; cases h3) hx hy (sndEs [a, b] c _ ?_ n X g) (swP g.kind hx hy h7 h4 h8 h9 h10 h11) rfl)
      unfold chkEs
      dsimp only
      rw [h10, h12]
      unfold chkEs
      dsimp only
      rw [h11, h13]
      unfold chkEs
      rfl
    · cases h
  | .put o i e, c, x, h, n, X, g => by
    unfold chkS at h
    split at h
    · simp only [Bool.and_eq_true] at h
      exact ks_put (ps_asg (sndE e c _ h.2 n X g) (pg_sub (sndE o c _ h.1.1.2 n X g) (sndE i c _ h.1.2 n X g) (ok_put g.hu) (sub_of h.1.1.1.2)) (comp_sole h.1.1.1.1) swS_none)
    · cases h
  | .exp e, c, x, h, n, X, g => by
    unfold chkS at h
    split at h
    · rw [Bool.and_eq_true] at h
      exact ks_exp (ps_expr (sndE e c _ h.2 n X g) (comp_of h.1))
    · cases h
  | .ret e, c, x, h, n, X, g => by
    unfold chkS at h
    split at h
    · exact ks_ret (ps_ret (sndE e c _ h n X g))
    · cases h
  | .retN, c, x, h, n, X, g => by
    unfold chkS at h
    split at h
    · exact ks_retN ps_retN
    · cases h
  | .ifs t a b, c, x, h, n, X, g => by
    unfold chkS at h
    split at h
    · simp only [Bool.and_eq_true] at h
      exact ks_ifs (ps_if (sndT t c _ h.1.1 n X g) (sndSs a c _ h.1.2 n X g) (sndSs b c _ h.2 n X g))
    · cases h
  | .for cg it b, c, x, h, n, X, g => by
    unfold chkS at h
    split at h
    · simp only [Bool.and_eq_true] at h
      refine PS.imp (k_for g.passes g.calm (sndI it c _ _ h.1.2 n X g) (g.tg h.1.1.2) (sndSs b c _ h.2 n X g) (fun v => set_fold h.1.1.1 v)) fun D σ H q => ?_
      obtain ⟨ι, h, env, oo, env', h', E, R, ee, k⟩ := q
      unfold evS at ee
      exact ⟨ι, h, env, oo, env', h', E, R, ee, k⟩
    · cases h
  | .whl t b, c, x, h, n, X, g => by
    unfold chkS at h
    split at h
    · simp only [Bool.and_eq_true] at h
      refine PS.imp (k_whl (w := w) g.passes (sndT t c _ h.1 n X g) (sndSs b c _ h.2 n X g)) fun D σ H q => ?_
      obtain ⟨ι, h, env, oo, env', h', E, R, ee, k⟩ := q
      unfold evS at ee
      exact ⟨ι, h, env, oo, env', h', E, R, ee, k⟩
    · cases h
  | .pass, c, x, h, n, X, g => by
    unfold chkS at h
    split at h
    · exact ks_pass ps_pass
    · cases h
  | .brk, c, x, h, n, X, g => by
    unfold chkS at h
    split at h
    · exact ks_brk ps_break
    · cases h
  | .cnt, c, x, h, n, X, g => by
    unfold chkS at h
    split at h
    · exact ks_cnt ps_continue
    · cases h
  | .rse, c, x, h, n, X, g => by
    unfold chkS at h
    split at h
    · refine PS.imp ps_never fun D σ H q => ?_
      obtain ⟨ι, h, env, oo, env', h', E, R, ee, k⟩ := q
      unfold evS at ee
      exact absurd ee no_some
    · cases h
theorem sndSs : ∀ (ss : List CS) (c : Cxt) (xs : List PySem.Stmt), chkSs ss c xs = true → ∀ (n : Nat) (X : Cx), Good n G c X → PSs X xs (tS X.K fun env => evSs G w ss env)
  | [], c, xs, h, n, X, g => by
    unfold chkSs at h
    cases xs with
    | nil => exact ks_nil
    | cons x r => cases h
  | s :: ss, c, xs, h, n, X, g => by
    unfold chkSs at h
    cases xs with
    | nil => cases h
    | cons x r =>
      dsimp only at h
      rw [Bool.and_eq_true] at h
      exact ks_cons (sndS s c x h.1 n X g) (sndSs ss c r h.2 n X g)
end
end Mi

set_option maxHeartbeats 4000000
/-! MiDef: a table of defs keeps its promises. -/
namespace Mi
open PySem PySem.Spec PyProof.Rows L2
/-- a def: its name, its row, its parameters, its slots, what it does -/
structure DT where
  name : Str
  st : PySem.Stmt
  ps : List Str
  N : List Str
  body : List CS
def DT.cd (d : DT) : CDef := ⟨d.ps.length, d.N.length, d.body⟩
abbrev Kws := List (Nat × List Str × List Nat)
def DT.cx (T : List DT) (kw : Kws) (free : List Str) (d : DT) : Cxt := ⟨d.N, defScope d.st, fun _ => true, T.map fun q => (q.name, q.ps), kw, free⟩
def scB (N P : List Str) (sc : Scope) : Bool := (match sc.kind with | .function => true | _ => false) && !sc.isCoroutine && !sc.isGenerator && decide N.Nodup && decide (N.take P.length = P) &&
  (P.all fun x => match sc.names.lookup x with | some .local => true | some .cell => true | _ => false) && sc.names.all fun y => match y.2 with | .free => false | _ => true
theorem scB_ok {N P : List Str} {sc : Scope} (h : scB N P sc = true) : FnScope N P sc := by
  unfold scB at h
  simp only [Bool.and_eq_true, Bool.not_eq_true', decide_eq_true_eq] at h
  obtain ⟨⟨⟨⟨⟨⟨h1, h2⟩, h3⟩, h4⟩, h5⟩, h6⟩, h7⟩ := h
  refine ⟨?_, h2, h3, h4, h5, fun x hx => ?_, fun y hy z => ?_⟩
  · split at h1
    · assumption
    · cases h1
  · have := List.all_eq_true.mp h6 x hx
    split at this
    · exact .inl ‹_›
    · exact .inr ‹_›
    · cases this
  · have := List.all_eq_true.mp h7 y hy
    rw [z] at this
    cases this
def DT.chk (T : List DT) (kw : Kws) (free : List Str) (d : DT) : Bool := scB d.N d.ps (defScope d.st) && chkSs d.body (d.cx T kw free) (defBody d.st)
def DT.dd (d : DT) : He.DefD := ⟨(d.name, none), d.name, d.name, defArgs d.st, defBody d.st, defScope d.st, [], []⟩
/-- values by position -/
def DT.binds (d : DT) : Prop := ∀ (kV doc pm : Value) (an : Option Addr) (cdv ct : Value) (us : List Value), us.length = d.ps.length → bindArgs (PySem.W.fnOf d.name d.name (defArgs d.st) (defBody d.st) (defScope d.st) .none kV doc pm an cdv ct) ⟨us, []⟩ = pure (d.ps.zip us)
/-- values by name -/
def DT.kbinds (d : DT) (ks : List Str) (at_ : List Nat) : Prop := ∀ (kV doc pm : Value) (an : Option Addr) (cdv ct : Value) (ws : List Value), (at_.filterMap fun i => ws[i]?).length = d.ps.length → bindArgs (PySem.W.fnOf d.name d.name (defArgs d.st) (defBody d.st) (defScope d.st) .none kV doc pm an cdv ct) ⟨[], ks.zip ws⟩ = pure (d.ps.zip (at_.filterMap fun i => ws[i]?))
abbrev DT.FD (K : PySem.W.Frag) (d : DT) (f : Addr) (fd : FuncData) : Prop := FunD K d.name d.name (defArgs d.st) (defBody d.st) (defScope d.st) [] [] f fd
theorem vals_at : ∀ (at_ : List Nat) {zs : List V} {ws : List Value}, Vals zs ws → Vals (at_.filterMap fun i => zs[i]?) (at_.filterMap fun i => ws[i]?)
  | [], _, _, _ => .nil
  | i :: r, zs, ws, h => by
    cases e : zs[i]? with
    | none =>
      have hl : ws[i]? = none := by
        rw [List.getElem?_eq_none_iff] at e ⊢
        rw [← h.length]
        exact e
      rw [List.filterMap_cons, List.filterMap_cons, e, hl]
      exact vals_at r h
    | some v =>
      obtain ⟨u, hu, rv⟩ := h.get e
      rw [List.filterMap_cons, List.filterMap_cons, e, hu]
      exact .cons rv (vals_at r h)
theorem kbinds_ok {K : PySem.W.Frag} {d : DT} {f : Addr} {fd : FuncData} {ks : List Str} {at_ : List Nat} (F : d.FD K f fd) (hp : d.ps ≠ []) (h : d.kbinds ks at_) : KBinds K fd d.ps ks (gK at_) (gK at_) := by
  obtain ⟨oc, od, dV, kV, doc, pm, an, cdv, ct, osl, rfl, lk, hcd, hD, hK⟩ := F.ex
  rcases hD with ⟨_, rfl⟩ | ⟨e, _⟩
  · refine ⟨fun s us ws _ hl => ?_, fun {vs us zs ws} r rz => ?_⟩
    · cases us with
      | nil => exact .of_eq (h kV doc pm an cdv ct ws hl)
      | cons u us => exact absurd (List.eq_nil_of_length_eq_zero hl.symm) hp
    · cases r with
      | nil => exact vals_at at_ rz
      | cons _ _ => exact .nil
  · exact absurd rfl e
/-- the whole table -/
structure TabOk (T : List DT) (kw : Kws) (free : List Str) (K : PySem.W.Frag) (mg : Str → Option Value) : Prop where
  defs : ∀ (i : Nat) (d : DT), T[i]? = some d → ∃ (f : Addr) (fd : FuncData), DT.FD K d f fd ∧ mg d.name = some (.ref f)
  fre : ∀ x ∈ free, mg x = none
  chk : ∀ d ∈ T, d.chk T kw free = true
  binds : ∀ d ∈ T, d.binds
  kbinds : ∀ (i : Nat) (ks : List Str) (at_ : List Nat), (i, ks, at_) ∈ kw → ∀ d : DT, T[i]? = some d → d.ps ≠ [] ∧ d.kbinds ks at_
theorem tab_ok {P : Program} {w : World} {K : PySem.W.Frag} {mg : Str → Option Value} {base : Heap} {T : List DT} {kw : Kws} {free : List Str} (O : TabOk T kw free K mg) (fuel : Nat) :
    ∀ (n i : Nat) (d : DT) (f : Addr) (fd : FuncData), T[i]? = some d → d.FD K f fd → FnOk P w K mg base CX0 n f fd d.ps (spOf K d.ps.length (Gn (T.map DT.cd) fuel n i))
  | 0, i, d, f, fd, hi, F => by
    refine ⟨fun vs H Q E h => ?_, fun A outer s H args us vs Q E _ _ _ _ h => ?_⟩
    · obtain ⟨ι, hh, ds, r, h', hl, rs, _, _, _⟩ := h
      rw [← hl, rs.len]
    · obtain ⟨ι, hh, ds, r, h', hl, rs, _, e, _⟩ := h
      exact absurd e no_some
  | n + 1, i, d, f, fd, hi, F => by
    have hm := List.mem_of_getElem? hi
    have c0 := O.chk d hm
    unfold DT.chk at c0
    rw [Bool.and_eq_true] at c0
    have S := scB_ok c0.1
    refine F.ok S (fun vs H Q E h => ?_) fun cdv A outer s H vs Q E hr h => ⟨tS K fun env => evSs (Gn (T.map DT.cd) fuel n) fuel d.body env, PSs.nox (sndSs d.body _ _ c0.2 n _ ?_), ?_⟩
    · obtain ⟨ι, hh, ds, r, h', hl, rs, _, _, _⟩ := h
      rw [← hl, rs.len]
    · refine ⟨rfl, rfl, S.nd, rfl, hr, fun _ _ => rfl, O.fre, fun j x ps hj => ?_, rfl, S.kind⟩
      replace hj : (T.map fun q => (q.name, q.ps))[j]? = some (x, ps) := hj
      rw [List.getElem?_map, Option.map_eq_some_iff] at hj
      obtain ⟨d2, hj2, e2⟩ := hj
      cases e2
      obtain ⟨f2, fd2, F2, m2⟩ := O.defs j d2 hj2
      exact ⟨f2, fd2, tab_ok O fuel n j d2 f2 fd2 hj2 F2, m2, F2.kp, F2.bindsN (O.binds d2 (List.mem_of_getElem? hj2)), fun ks at_ hk => by
        obtain ⟨hp, hb⟩ := O.kbinds j ks at_ hk d2 hj2
        exact kbinds_ok F2 hp hb⟩
    · obtain ⟨ι, hh, ds, r, h', hl, rs, R, e, k⟩ := h
      unfold Gn at e
      rw [List.getElem?_map, hi] at e
      replace e : runD (Gn (T.map DT.cd) fuel n) fuel d.cd ds hh = some (r, h') := e
      unfold runD at e
      rw [if_pos (show ds.length = d.cd.ps from hl)] at e
      obtain ⟨⟨o, env'⟩, h1, e1, e⟩ := bnd_some.mp e
      refine ⟨ι, hh, _, o, env', h1, ?_, R, e1, ?_⟩
      · have hl2 : ds.length = vs.length := rs.len
        show ER K H ι (ds.map some ++ List.replicate (d.N.length - ds.length) none) (vs.map some ++ List.replicate (d.N.length - vs.length) none)
        refine ⟨by simp [hl2], fun j x q => ?_⟩
        by_cases hj : j < ds.length
        · rw [List.getElem?_append_left (by simpa using hj), List.getElem?_map, Option.map_eq_some_iff] at q
          obtain ⟨x', q, e3⟩ := q
          cases e3
          obtain ⟨v, hv, r2⟩ := rs.get q
          exact ⟨v, by rw [List.getElem?_append_left (by rw [List.length_map]; omega), List.getElem?_map, hv]; rfl, r2⟩
        · rw [List.getElem?_append_right (by simpa using hj), List.getElem?_replicate] at q
          split at q <;> cases q
      · cases o with
        | nx =>
          obtain ⟨rfl, rfl⟩ := ret_some.mp e
          exact fun σ' H' ι' g' _ R' => k .non H' ι' g' (dr_non.mpr rfl) R'
        | ret x =>
          obtain ⟨rfl, rfl⟩ := ret_some.mp e
          exact fun v H' ι' g' r' R' => k v H' ι' g' r' R'
        | bk => exact absurd e no_some
        | ct => exact absurd e no_some
end Mi

set_option maxHeartbeats 4000000
/-! MiHead: a table behind a head by facts. -/
namespace Mi
open PySem PySem.Spec PyProof.Rows L2
theorem frz_of {K : PySem.W.Frag} {H : Hp} {a : Addr} {xs : List V} (hO : Only H) (h : SqL K H a xs) : Frz K H a xs := by
  rcases h with (h | h) | h
  · rcases hO a with z | ⟨o, ys, z⟩
    · rw [h] at z; cases z
    · rw [h] at z; cases z
  · exact .inl h
  · exact .inr h
theorem dr_ints1 {K : PySem.W.Frag} {H : Hp} {ι : List Addr} : ∀ ns : List Int, DRs K H ι (ns.map D.int) (ns.map V.int)
  | [] => DRs.nil_
  | i :: r => DRs.cons_ (dr_int.mpr rfl) (dr_ints1 r)
theorem law_sp {K : PySem.W.Frag} {H : Hp} {a : Addr} {ns : List Int} {m : List D → M D} {E : XK} {h' : MH} (hO : Only H) (hS : SqL K H a (ns.map V.int)) (hm : m [.fl (ns.map D.int)] [] = some (.bl true, h')) :
    spOf K 1 m [.ref a] H (fun v _ => v = .bl true) E := by
  refine ⟨[], [], [.fl (ns.map D.int)], _, h', rfl, DRs.cons_ ?_ DRs.nil_, ⟨rfl, List.nodup_nil, fun n b o e _ => ?_⟩, hm, fun v H' ι' _ r _ => dr_bl.mp r⟩
  · unfold DR
    exact ⟨a, _, rfl, frz_of hO hS, dr_ints1 ns⟩
  · rw [List.getElem?_nil] at e
    cases e
abbrev faOf (T : List DT) (free : List Str) : List He.Fa := T.map (fun d => .glo d.name) ++ free.map fun x => .free x
theorem tab_head {P : Program} {w : World} {K : PySem.W.Frag} {h : Heap} {mg : Str → Option Value} {T : List DT} {kw : Kws} {free : List Str} {f : Addr} {i : Nat} {d : DT} {x : Str} (X : K.In h) (G : h.Ns mainGlobals mg)
    (c : He.SaysD (faOf T free) (T.map DT.dd) K) (hi : T[i]? = some d) (hfa : mg d.name = some (.ref f)) (hps : d.ps = [x]) (hc : (T.all fun d => d.chk T kw free) = true) (hb : ∀ d ∈ T, DT.binds d)
    (hk : ∀ (i : Nat) (ks : List Str) (at_ : List Nat), (i, ks, at_) ∈ kw → ∀ d : DT, T[i]? = some d → d.ps ≠ [] ∧ d.kbinds ks at_) (fuel n : Nat) :
    ∃ fd : FuncData, (∀ (s : Shared) (v : Value), BindsTo s fd ⟨[v], []⟩ [(x, v)]) ∧ ∀ base : Heap, K.In base → base.Ns mainGlobals mg → FnOk P w K mg base CX0 n f fd [x] (spOf K 1 (Gn (T.map DT.cd) fuel n i)) := by
  have glo : ∀ (i : Nat) (d : DT), T[i]? = some d → mg d.name = some (.ref (He.ga K d.name)) := fun i d hi => He.glo_ok X G (c.fact i (f := .glo d.name) (by
    rw [List.getElem?_append_left (by rw [List.length_map]; exact (List.getElem?_eq_some_iff.mp hi).1), List.getElem?_map, hi]
    rfl))
  have defs : ∀ (i : Nat) (d : DT), T[i]? = some d → ∃ (f : Addr) (fd : FuncData), DT.FD K d f fd ∧ mg d.name = some (.ref f) := fun i d hi => by
    obtain ⟨fd, F⟩ := c.def_ i (d := d.dd) (by rw [List.getElem?_map, hi]; rfl)
    exact ⟨_, fd, F, glo i d hi⟩
  have O : TabOk T kw free K mg := ⟨defs, fun y hy => by
    obtain ⟨j, hj⟩ := List.getElem?_of_mem hy
    refine He.free_ok X G (c.fact (T.length + j) (f := .free y) ?_)
    rw [List.getElem?_append_right (by rw [List.length_map]; omega), List.length_map, Nat.add_sub_cancel_left, List.getElem?_map, hj]
    rfl, fun d hd => List.all_eq_true.mp hc d hd, hb, hk⟩
  obtain ⟨f', fd, F, m'⟩ := defs i d hi
  rw [hfa] at m'
  cases m'
  refine ⟨fd, fun s v => ?_, fun base _ _ => ?_⟩
  · have q := FunD.bindsA (ps := d.ps) F (hb d (List.mem_of_getElem? hi)) s [v] (by rw [hps]; rfl)
    rw [hps] at q
    exact q
  · have q := tab_ok (P := P) (w := w) (base := base) O fuel n i d f fd hi F
    rw [hps] at q
    exact q
end Mi

set_option maxHeartbeats 4000000
/-! MiWp: to reason about the small language. -/
namespace Mi
open PySem (Str PyData)

def wp {α : Type} (m : M α) (h : MH) (Q : α → MH → Prop) : Prop := ∃ a h', m h = some (a, h') ∧ Q a h'
section
variable {α β : Type} {m : M α} {h : MH} {Q : α → MH → Prop}
theorem wp_mono {R : α → MH → Prop} (w : wp m h R) (k : ∀ a h', R a h' → Q a h') : wp m h Q := let ⟨a, h', e, r⟩ := w; ⟨a, h', e, k a h' r⟩
theorem wp_ret {a : α} : wp (M.ret a) h Q ↔ Q a h := by
  unfold wp M.ret
  constructor
  · rintro ⟨b, h', e, q⟩
    cases e
    exact q
  · exact fun q => ⟨_, _, rfl, q⟩
theorem wp_no : wp (M.no : M α) h Q ↔ False := by
  unfold wp M.no
  constructor
  · rintro ⟨_, _, e, _⟩
    cases e
  · exact False.elim
theorem wp_bnd {f : α → M β} {Q : β → MH → Prop} : wp (M.bnd m f) h Q ↔ wp m h fun a h' => wp (f a) h' Q := by
  unfold wp M.bnd
  constructor
  · rintro ⟨b, h', e, q⟩
    cases e1 : m h with
    | none => rw [e1] at e; cases e
    | some r =>
      obtain ⟨a, h1⟩ := r
      rw [e1] at e
      exact ⟨a, h1, rfl, b, h', e, q⟩
  · rintro ⟨a, h1, e1, b, h', e, q⟩
    refine ⟨b, h', ?_, q⟩
    rw [e1]
    exact e
theorem wp_rd {f : MH → Option α} : wp (M.rd f) h Q ↔ ∃ a, f h = some a ∧ Q a h := by
  unfold wp M.rd
  constructor
  · rintro ⟨b, h', e, q⟩
    split at e
    · cases e
    · rename_i a e1
      cases e
      exact ⟨_, e1, q⟩
  · rintro ⟨a, e, q⟩
    refine ⟨a, h, ?_, q⟩
    rw [e]
theorem wp_new {o : MO} {Q : D → MH → Prop} : wp (M.new o) h Q ↔ Q (.obj h.length) (h ++ [o]) := by
  unfold wp M.new
  constructor
  · rintro ⟨b, h', e, q⟩
    cases e
    exact q
  · exact fun q => ⟨_, _, rfl, q⟩
theorem wp_ite {c : Prop} [Decidable c] {a b : M α} : wp (if c then a else b) h Q ↔ if c then wp a h Q else wp b h Q := by
  split <;> exact Iff.rfl
theorem wp_keep {ks : Kp} {Q : Unit → MH → Prop} : wp (keepM ks) h Q ↔ keepOk ks h = true ∧ Q () h := by
  unfold wp keepM
  constructor
  · rintro ⟨a, h', e, q⟩
    split at e
    · cases e
      exact ⟨‹_›, q⟩
    · cases e
  · rintro ⟨e, q⟩
    exact ⟨(), h, by rw [if_pos e], q⟩
theorem ex_some {α : Type} {a : α} {P : α → Prop} : (∃ b, some a = some b ∧ P b) ↔ P a := by
  constructor
  · rintro ⟨b, e, p⟩
    cases e
    exact p
  · exact fun p => ⟨a, rfl, p⟩
theorem ex_none {α : Type} {P : α → Prop} : (∃ b, (none : Option α) = some b ∧ P b) ↔ False := by
  constructor
  · rintro ⟨b, e, p⟩
    cases e
  · exact False.elim
end

/-! ### the forms -/
section
variable {G : Ga} {env : Env} {h : MH} {Q : D → MH → Prop} {Qb : Bool → MH → Prop} {Qs : List D → MH → Prop} {QS : Out × Env → MH → Prop} {w : Nat}
theorem w_lc {own : List Nat} {g : CG} {it : CI} {t : Option CT} {e : CE} : wp (evE G (.lc own g it t e) env) h Q ↔
    wp (evI G it env) h fun r h1 => wp (lcL (bindG g) (evOT G t) (evE G e) r.2 h1.length (wipeE env own) r.1) (h1 ++ [.lst []]) fun _ h2 => Q (.obj h1.length) h2 := by
  unfold evE
  refine (wp_bnd (β := D)).trans ?_
  constructor
  · intro q
    refine wp_mono q fun r h1 q => ?_
    have q : wp (M.bnd (M.new (.lst [])) fun l => M.bnd (lcL (bindG g) (evOT G t) (evE G e) r.2 h1.length (wipeE env own) r.1) fun _ => M.ret l) h1 Q := q
    rw [wp_bnd, wp_new, wp_bnd] at q
    exact wp_mono q fun _ _ q => wp_ret.mp q
  · intro q
    refine wp_mono q fun r h1 q => ?_
    show wp (M.bnd (M.new (.lst [])) fun l => M.bnd (lcL (bindG g) (evOT G t) (evE G e) r.2 h1.length (wipeE env own) r.1) fun _ => M.ret l) h1 Q
    rw [wp_bnd, wp_new, wp_bnd]
    exact wp_mono q fun _ _ q => wp_ret.mpr q
theorem w_dc {own : List Nat} {g : CG} {it : CI} {k v : CE} : wp (evE G (.dc own g it k v) env) h Q ↔
    wp (evI G it env) h fun r h1 => wp (dcL (bindG g) (evE G k) (evE G v) r.2 h1.length (wipeE env own) r.1) (h1 ++ [.dic []]) fun _ h2 => Q (.obj h1.length) h2 := by
  unfold evE
  refine (wp_bnd (β := D)).trans ?_
  constructor
  · intro q
    refine wp_mono q fun r h1 q => ?_
    have q : wp (M.bnd (M.new (.dic [])) fun l => M.bnd (dcL (bindG g) (evE G k) (evE G v) r.2 h1.length (wipeE env own) r.1) fun _ => M.ret l) h1 Q := q
    rw [wp_bnd, wp_new, wp_bnd] at q
    exact wp_mono q fun _ _ q => wp_ret.mp q
  · intro q
    refine wp_mono q fun r h1 q => ?_
    show wp (M.bnd (M.new (.dic [])) fun l => M.bnd (dcL (bindG g) (evE G k) (evE G v) r.2 h1.length (wipeE env own) r.1) fun _ => M.ret l) h1 Q
    rw [wp_bnd, wp_new, wp_bnd]
    exact wp_mono q fun _ _ q => wp_ret.mpr q
theorem w_dsp {kvs : List (CE × CE)} : wp (evE G (.dsp kvs) env) h Q ↔ wp (evPs G kvs env) (h ++ [.dic []]) fun ps h1 => wp (dspL h.length ps) h1 Q := by
  unfold evE
  show wp (M.bnd (M.new (.dic [])) fun _ => M.bnd (evPs G kvs env) fun ps => dspL h.length ps) h Q ↔ _
  rw [wp_bnd, wp_new, wp_bnd]
theorem wp_pt {α : Type} {m : M α} {h : MH} {Q : α → MH → Prop} {a : α} {h' : MH} (e : m h = some (a, h')) : wp m h Q ↔ Q a h' := by
  unfold wp
  constructor
  · rintro ⟨b, h2, e2, q⟩
    rw [e] at e2
    cases e2
    exact q
  · exact fun q => ⟨a, h', e, q⟩
end

/-! ### the store grows -/
/-- all but the objects of S stand as they stood -/
def Ex (S : List Nat) (h h' : MH) : Prop := h.length ≤ h'.length ∧ ∀ n, n ∉ S → n < h.length → h'[n]? = h[n]?
section
variable {S : List Nat} {h h1 h2 : MH}
theorem Ex.refl : Ex S h h := ⟨Nat.le_refl _, fun _ _ _ => rfl⟩
theorem Ex.trans (a : Ex S h h1) (b : Ex S h1 h2) : Ex S h h2 := ⟨Nat.le_trans a.1 b.1, fun n hn hl => (b.2 n hn (Nat.lt_of_lt_of_le hl a.1)).trans (a.2 n hn hl)⟩
theorem Ex.mono (a : Ex [] h h1) : Ex S h h1 := ⟨a.1, fun n _ hl => a.2 n List.not_mem_nil hl⟩
theorem Ex.at (a : Ex S h h1) {n : Nat} {o : MO} (hn : n ∉ S) (e : h[n]? = some o) : h1[n]? = some o := by
  rw [a.2 n hn (List.getElem?_eq_some_iff.mp e).1]
  exact e
theorem Ex.at0 (a : Ex [] h h1) {n : Nat} {o : MO} (e : h[n]? = some o) : h1[n]? = some o := a.at List.not_mem_nil e
theorem Ex.app {t : MH} : Ex S h (h ++ t) := ⟨by rw [List.length_append]; omega, fun n _ hl => List.getElem?_append_left hl⟩
theorem Ex.set {n : Nat} {o : MO} (a : Ex S h h1) (hn : h.length ≤ n) : Ex S h (h1.set n o) := ⟨by rw [List.length_set]; exact a.1, fun m hm hl => by
  rw [List.getElem?_set_ne (by omega)]
  exact a.2 m hm hl⟩
theorem Ex.setS {n : Nat} {o : MO} (a : Ex S h h1) (hn : n ∈ S) : Ex S h (h1.set n o) := ⟨by rw [List.length_set]; exact a.1, fun m hm hl => by
  rw [List.getElem?_set_ne (by rintro rfl; exact hm hn)]
  exact a.2 m hm hl⟩
theorem lstAt_iff {n : Nat} {xs : List D} : lstAt h n = some xs ↔ h[n]? = some (.lst xs) := by
  unfold lstAt
  constructor
  · intro e
    split at e
    · cases e
      assumption
    · cases e
  · intro e
    rw [e]
theorem dicAt_iff {n : Nat} {xs : List (Key × D)} : dicAt h n = some xs ↔ h[n]? = some (.dic xs) := by
  unfold dicAt
  constructor
  · intro e
    split at e
    · cases e
      assumption
    · cases e
  · intro e
    rw [e]
end
mutual
theorem beq_refl : ∀ d : D, D.beq d d = true
  | .non => rfl
  | .bl b => beq_self_eq_true b
  | .int i => beq_self_eq_true i
  | .str x => decide_eq_true rfl
  | .tup xs => by unfold D.beq; exact beqs_refl xs
  | .fl xs => by unfold D.beq; exact beqs_refl xs
  | .obj n => beq_self_eq_true n
theorem beqs_refl : ∀ ds : List D, D.beqs ds ds = true
  | [] => rfl
  | d :: ds => by unfold D.beqs; rw [beq_refl d, beqs_refl ds]; rfl
end
/-- the lists walked stand -/
def Ks (ks : Kp) (h : MH) : Prop := ∀ p ∈ ks, h[p.1]? = some (.lst p.2)
theorem Ks.ok {ks : Kp} {h : MH} (k : Ks ks h) : keepOk ks h = true := by
  unfold keepOk
  rw [List.all_eq_true]
  intro p hp
  rw [lstAt_iff.mpr (k p hp)]
  exact beqs_refl _
theorem Ks.nil {h : MH} : Ks [] h := fun p hp => nomatch hp
theorem Ks.one {h : MH} {n : Nat} {xs : List D} (e : h[n]? = some (.lst xs)) : Ks [(n, xs)] h := fun p hp => by
  rw [List.mem_singleton.mp hp]
  exact e
theorem Ks.app {h : MH} {a b : Kp} (x : Ks a h) (y : Ks b h) : Ks (a ++ b) h := fun p hp => by
  rcases List.mem_append.mp hp with q | q
  · exact x p q
  · exact y p q

/-! ### loops -/
theorem wp_for {bnd : D → Env → Option Env} {body : Env → M (Out × Env)} {ks : Kp} {Q : Out × Env → MH → Prop} (Inv : List D → Env → MH → Prop)
    (hs : ∀ d ds env h, Inv (d :: ds) env h → Ks ks h ∧ ∃ env1, bnd d env = some env1 ∧ wp (body env1) h fun r h' => match r.1 with
      | .nx => Inv ds r.2 h'
      | .ct => Inv ds r.2 h'
      | .bk => Q (.nx, r.2) h'
      | .ret d => Q (.ret d, r.2) h')
    (he : ∀ env h, Inv [] env h → Ks ks h ∧ Q (.nx, env) h) : ∀ {ds : List D} {env : Env} {h : MH}, Inv ds env h → wp (forL bnd body ks ds env) h Q
  | [], env, h, i => by
    unfold forL
    rw [wp_bnd, wp_keep, wp_ret]
    exact ⟨(he env h i).1.ok, (he env h i).2⟩
  | d :: ds, env, h, i => by
    obtain ⟨k, env1, e, q⟩ := hs d ds env h i
    unfold forL
    rw [wp_bnd, wp_keep]
    refine ⟨k.ok, ?_⟩
    rw [e]
    dsimp only
    rw [wp_bnd]
    refine wp_mono q fun r h' q => ?_
    obtain ⟨o, env'⟩ := r
    cases o with
    | nx => exact wp_for Inv hs he q
    | ct => exact wp_for Inv hs he q
    | bk => exact wp_ret.mpr q
    | ret x => exact wp_ret.mpr q
theorem wp_whl {c : Env → M Bool} {body : Env → M (Out × Env)} {Q : Out × Env → MH → Prop} (Inv : Nat → Env → MH → Prop)
    (hs : ∀ m env h, Inv m env h → wp (c env) h fun b h1 => if b then wp (body env) h1 fun r h' => match r.1 with
      | .nx => ∃ m', m' < m ∧ Inv m' r.2 h'
      | .ct => ∃ m', m' < m ∧ Inv m' r.2 h'
      | .bk => Q (.nx, r.2) h'
      | .ret d => Q (.ret d, r.2) h' else Q (.nx, env) h1) : ∀ {w m : Nat} {env : Env} {h : MH}, m < w → Inv m env h → wp (whlL c body w env) h Q
  | 0, m, env, h, hm, i => absurd hm (Nat.not_lt_zero _)
  | w + 1, m, env, h, hm, i => by
    unfold whlL
    rw [wp_bnd]
    refine wp_mono (hs m env h i) fun b h1 q => ?_
    cases b with
    | false =>
      rw [if_neg Bool.false_ne_true] at q ⊢
      exact wp_ret.mpr q
    | true =>
      rw [if_pos rfl] at q ⊢
      rw [wp_bnd]
      refine wp_mono q fun r h' q => ?_
      obtain ⟨o, env'⟩ := r
      cases o with
      | nx =>
        obtain ⟨m', hlt, q⟩ := q
        exact wp_whl Inv hs (by omega) q
      | ct =>
        obtain ⟨m', hlt, q⟩ := q
        exact wp_whl Inv hs (by omega) q
      | bk => exact wp_ret.mpr q
      | ret x => exact wp_ret.mpr q
theorem wp_push {n : Nat} {d : D} {h : MH} {xs : List D} {Q : Unit → MH → Prop} (e : h[n]? = some (.lst xs)) (hl : xs.length < LINE) (q : Q () (h.set n (.lst (xs ++ [d])))) : wp (pushAt n d) h Q := by
  unfold pushAt appD
  refine ⟨(), h.set n (.lst (xs ++ [d])), ?_, q⟩
  dsimp only
  rw [e]
  dsimp only
  rw [if_pos hl]
theorem wp_lcL {bnd : D → Env → Option Env} {tst : Env → M Bool} {elt : Env → M D} {ks : Kp} {n : Nat} {env : Env} {Q : Unit → MH → Prop} (Inv : List D → List D → MH → Prop)
    (hs : ∀ d ds acc h, Inv (d :: ds) acc h → Ks ks h ∧ ∃ env1, bnd d env = some env1 ∧ wp (tst env1) h fun b h1 => if b then wp (elt env1) h1 fun y h2 => h2[n]? = some (.lst acc) ∧ acc.length < LINE ∧ Inv ds (acc ++ [y]) (h2.set n (.lst (acc ++ [y]))) else Inv ds acc h1)
    (he : ∀ acc h, Inv [] acc h → Ks ks h ∧ Q () h) : ∀ {ds acc : List D} {h : MH}, Inv ds acc h → wp (lcL bnd tst elt ks n env ds) h Q
  | [], acc, h, i => by
    unfold lcL
    rw [wp_keep]
    exact ⟨(he acc h i).1.ok, (he acc h i).2⟩
  | d :: ds, acc, h, i => by
    obtain ⟨k, env1, e, q⟩ := hs d ds acc h i
    unfold lcL
    rw [wp_bnd, wp_keep]
    refine ⟨k.ok, ?_⟩
    rw [e]
    dsimp only
    rw [wp_bnd]
    refine wp_mono q fun b h1 q => ?_
    cases b with
    | false =>
      rw [if_neg Bool.false_ne_true] at q ⊢
      exact wp_lcL Inv hs he q
    | true =>
      rw [if_pos rfl] at q ⊢
      rw [wp_bnd]
      refine wp_mono q fun y h2 q => ?_
      rw [wp_bnd]
      exact wp_push q.1 q.2.1 (wp_lcL Inv hs he q.2.2)
theorem wp_dcL {bnd : D → Env → Option Env} {key val : Env → M D} {ks : Kp} {n : Nat} {env : Env} {Q : Unit → MH → Prop} (Inv : List D → List (Key × D) → MH → Prop)
    (hs : ∀ d ds acc h, Inv (d :: ds) acc h → Ks ks h ∧ ∃ env1, bnd d env = some env1 ∧ wp (key env1) h fun k h1 => wp (val env1) h1 fun v h2 => h2[n]? = some (.dic acc) ∧ acc.length < LINE ∧ ∃ kk, keyOf k = some kk ∧ Inv ds (kput acc kk v) (h2.set n (.dic (kput acc kk v))))
    (he : ∀ acc h, Inv [] acc h → Ks ks h ∧ Q () h) : ∀ {ds : List D} {acc : List (Key × D)} {h : MH}, Inv ds acc h → wp (dcL bnd key val ks n env ds) h Q
  | [], acc, h, i => by
    unfold dcL
    rw [wp_keep]
    exact ⟨(he acc h i).1.ok, (he acc h i).2⟩
  | d :: ds, acc, h, i => by
    obtain ⟨k, env1, e, q⟩ := hs d ds acc h i
    unfold dcL
    rw [wp_bnd, wp_keep]
    refine ⟨k.ok, ?_⟩
    rw [e]
    dsimp only
    rw [wp_bnd]
    refine wp_mono q fun k h1 q => ?_
    rw [wp_bnd]
    refine wp_mono q fun v h2 q => ?_
    obtain ⟨e1, l, kk, ek, q⟩ := q
    rw [wp_bnd]
    refine ⟨(), h2.set n (.dic (kput acc kk v)), ?_, wp_dcL Inv hs he q⟩
    unfold putKat
    rw [e1]
    dsimp only
    rw [ek]
    dsimp only
    rw [if_pos l]
/-- items of a list, a tuple -/
theorem wp_items_tup {xs : List D} {h : MH} {Q : List D × Kp → MH → Prop} : wp (itemsD (.tup xs)) h Q ↔ Q (xs, []) h := wp_ret
theorem wp_items_fl {xs : List D} {h : MH} {Q : List D × Kp → MH → Prop} : wp (itemsD (.fl xs)) h Q ↔ Q (xs, []) h := wp_ret
theorem wp_items_obj {n : Nat} {h : MH} {Q : List D × Kp → MH → Prop} : wp (itemsD (.obj n)) h Q ↔ ∃ xs, lstAt h n = some xs ∧ Q (xs, [(n, xs)]) h := by
  unfold itemsD
  dsimp only
  rw [wp_bnd, wp_rd]
  simp only [wp_ret]
end Mi

set_option maxHeartbeats 4000000
/-! MiWpS: rules to run the small language by simp. -/
namespace Mi
open PySem (Str PyData)
section
variable {G : Ga} {env : Env} {h : MH} {Q : D → MH → Prop} {Qb : Bool → MH → Prop} {Qs : List D → MH → Prop} {QS : Out × Env → MH → Prop} {QI : List D × Kp → MH → Prop} {QO : Option Int → MH → Prop} {Qu : Unit → MH → Prop} {w : Nat}
theorem w_var {i : Nat} : wp (evE G (.var i) env) h Q ↔ match env[i]? with
    | some (some d) => Q d h
    | _ => False := by
  unfold evE
  rcases env[i]? with _ | _ | d
  · exact wp_no
  · exact wp_no
  · exact wp_ret
theorem w_cst {d : D} : wp (evE G (.cst d) env) h Q ↔ Q d h := by unfold evE; exact wp_ret
theorem w_nil : wp (evEs G [] env) h Qs ↔ Qs [] h := by unfold evEs; exact wp_ret
theorem w_cons {e : CE} {es : List CE} : wp (evEs G (e :: es) env) h Qs ↔ wp (evE G e env) h fun x h' => wp (evEs G es env) h' fun xs h2 => Qs (x :: xs) h2 := by
  rw [evEs]; simp only [wp_bnd, wp_ret]
theorem wlen {es : List CE} {h : MH} {Qs : List D → MH → Prop} (w : wp (evEs G es env) h Qs) : wp (evEs G es env) h fun vs h' => vs.length = es.length ∧ Qs vs h' := by
  induction es generalizing h Qs with
  | nil => rw [w_nil] at w ⊢; exact ⟨rfl, w⟩
  | cons e es ih =>
    rw [w_cons] at w ⊢
    refine wp_mono w fun x h1 w => wp_mono (ih w) fun xs h2 w => ⟨?_, w.2⟩
    rw [List.length_cons, List.length_cons, w.1]
theorem line_ge {n : Nat} (h : n ≤ 10000000) : n ≤ LINE := by rw [LINE_eq]; omega
theorem line_gt {n : Nat} (h : n ≤ 10000000) : n < LINE := by rw [LINE_eq]; omega
theorem w_tup {es : List CE} (hl : es.length ≤ 10000000) : wp (evE G (.tup es) env) h Q ↔ wp (evEs G es env) h fun vs h' => Q (.tup vs) h' := by
  unfold evE
  simp only [wp_bnd, wp_ite, wp_ret, wp_no]
  constructor
  · intro q
    refine wp_mono q fun vs h1 q => ?_
    split at q
    · exact q
    · exact q.elim
  · intro q
    refine wp_mono (wlen q) fun vs h1 q => ?_
    rw [if_pos (line_ge (by omega))]
    exact q.2
theorem w_lst {es : List CE} (hl : es.length ≤ 10000000) : wp (evE G (.lst es) env) h Q ↔ wp (evEs G es env) h fun vs h' => Q (.obj h'.length) (h' ++ [.lst vs]) := by
  unfold evE
  simp only [wp_bnd, wp_ite, wp_new, wp_no]
  constructor
  · intro q
    refine wp_mono q fun vs h1 q => ?_
    split at q
    · exact q
    · exact q.elim
  · intro q
    refine wp_mono (wlen q) fun vs h1 q => ?_
    rw [if_pos (line_ge (by omega))]
    exact q.2
theorem w_bin {op : BOp} {a b : CE} : wp (evE G (.bin op a b) env) h Q ↔ wp (evE G a env) h fun x h => wp (evE G b env) h fun y h => wp (binD op x y) h Q := by
  rw [evE]; simp only [wp_bnd]
theorem w_neg {a : CE} : wp (evE G (.neg a) env) h Q ↔ wp (evE G a env) h fun x h => match x with
    | .int i => Q (.int (-i)) h
    | _ => False := by
  rw [evE]
  simp only [wp_bnd]
  constructor
  · intro q
    refine wp_mono q fun x h1 q => ?_
    split at q
    · exact wp_ret.mp q
    · exact (wp_no.mp q).elim
  · intro q
    refine wp_mono q fun x h1 q => ?_
    split at q
    · exact wp_ret.mpr q
    · exact q.elim
theorem w_cmp {op : COp} {a b : CE} : wp (evE G (.cmp op a b) env) h Q ↔ wp (evE G a env) h fun x h => wp (evE G b env) h fun y h => ∃ r, cmpD op x y h = some r ∧ Q (.bl r) h := by
  rw [evE]; simp only [wp_bnd, wp_rd, wp_ret]
theorem w_chn {op op' : COp} {a b c : CE} : wp (evE G (.chn op op' a b c) env) h Q ↔ wp (evE G a env) h fun x h => wp (evE G b env) h fun y h => ∃ r, cmpD op x y h = some r ∧
    if r = true then wp (evE G c env) h fun z h => ∃ r, cmpD op' y z h = some r ∧ Q (.bl r) h else Q (.bl false) h := by
  rw [evE]; simp only [wp_bnd, wp_rd, wp_ite, wp_ret]
theorem w_and {a b : CE} : wp (evE G (.and a b) env) h Q ↔ wp (evE G a env) h fun x h => ∃ k, truD h x = some k ∧ if k = true then wp (evE G b env) h Q else Q x h := by
  rw [evE]; simp only [wp_bnd, wp_rd, wp_ite, wp_ret]
theorem w_or {a b : CE} : wp (evE G (.or a b) env) h Q ↔ wp (evE G a env) h fun x h => ∃ k, truD h x = some k ∧ if k = true then Q x h else wp (evE G b env) h Q := by
  rw [evE]; simp only [wp_bnd, wp_rd, wp_ite, wp_ret]
theorem w_not {a : CE} : wp (evE G (.not a) env) h Q ↔ wp (evE G a env) h fun x h => ∃ k, truD h x = some k ∧ Q (.bl (!k)) h := by
  rw [evE]; simp only [wp_bnd, wp_rd, wp_ret]
theorem w_iteE {c : CT} {a b : CE} : wp (evE G (.ite c a b) env) h Q ↔ wp (evT G c env) h fun k h => if k = true then wp (evE G a env) h Q else wp (evE G b env) h Q := by
  rw [evE]; simp only [wp_bnd, wp_ite]
theorem w_idx {a i : CE} : wp (evE G (.idx a i) env) h Q ↔ wp (evE G a env) h fun x h => wp (evE G i env) h fun y h => ∃ d, idxD x y h = some d ∧ Q d h := by
  rw [evE]; simp only [wp_bnd, wp_rd]
theorem w_slc {a : CE} {lo hi : Option CE} : wp (evE G (.slc a lo hi) env) h Q ↔ wp (evE G a env) h fun x h => wp (evO G lo env) h fun l h => wp (evO G hi env) h fun u h => wp (slcD x l u) h Q := by
  rw [evE]; simp only [wp_bnd]
theorem w_rev {a : CE} : wp (evE G (.rev a) env) h Q ↔ wp (evE G a env) h fun x h => wp (revD x) h Q := by
  rw [evE]; simp only [wp_bnd]
theorem w_call {f : Nat} {es : List CE} : wp (evE G (.call f es) env) h Q ↔ wp (evEs G es env) h fun vs h => wp (G f vs) h Q := by
  rw [evE]; simp only [wp_bnd]
theorem w_callK {f : Nat} {at_ : List Nat} {es : List CE} : wp (evE G (.callK f at_ es) env) h Q ↔ wp (evEs G es env) h fun vs h => wp (G f (placed at_ vs)) h Q := by
  rw [evE]; simp only [wp_bnd]
theorem w_blt {b : Blt} {es : List CE} : wp (evE G (.blt b es) env) h Q ↔ wp (evEs G es env) h fun vs h => wp (bltD b vs) h Q := by
  rw [evE]; simp only [wp_bnd]
theorem w_lrng {it : CI} : wp (evE G (.lrng it) env) h Q ↔ wp (evI G it env) h fun r h => r.1.length ≤ LINE ∧ Q (.obj h.length) (h ++ [.lst r.1]) := by
  rw [evE]
  simp only [wp_bnd, wp_ite, wp_new, wp_no]
  constructor
  · intro q
    refine wp_mono q fun vs h1 q => ?_
    split at q
    · exact ⟨‹_›, q⟩
    · exact q.elim
  · intro q
    refine wp_mono q fun vs h1 q => ?_
    rw [if_pos q.1]
    exact q.2
theorem w_isin {t : Ty} {a : CE} : wp (evE G (.isin t a) env) h Q ↔ wp (evE G a env) h fun x h => ∃ k, isinD t x h = some k ∧ Q (.bl k) h := by
  rw [evE]; simp only [wp_bnd, wp_rd, wp_ret]
theorem w_met {m : Mt} {o : CE} {es : List CE} : wp (evE G (.met m o es) env) h Q ↔ wp (evE G o env) h fun x h => ∃ u, isLst h x = some u ∧ wp (evEs G es env) h fun ys h => wp (metD m x ys) h Q := by
  rw [evE]; simp only [wp_bnd, wp_rd]
theorem w_app {o e : CE} : wp (evE G (.app o e) env) h Q ↔ wp (evE G o env) h fun x h => ∃ u, isLst h x = some u ∧ wp (evE G e env) h fun y h => wp (appD x y) h fun _ h => Q .non h := by
  rw [evE]; simp only [wp_bnd, wp_rd, wp_ret]
theorem w_pnil : wp (evPs G [] env) h Qp ↔ Qp [] h := by unfold evPs; exact wp_ret
theorem w_pcons {k v : CE} {ps : List (CE × CE)} {Qp : List (D × D) → MH → Prop} : wp (evPs G ((k, v) :: ps) env) h Qp ↔ wp (evE G k env) h fun x h => wp (evE G v env) h fun y h => wp (evPs G ps env) h fun xs h => Qp ((x, y) :: xs) h := by
  rw [evPs]; simp only [wp_bnd, wp_ret]
theorem w_onone : wp (evO G none env) h QO ↔ QO none h := by unfold evO; exact wp_ret
theorem w_osome {e : CE} : wp (evO G (some e) env) h QO ↔ wp (evE G e env) h fun x h => match x with
    | .int i => QO (some i) h
    | _ => False := by
  rw [evO]
  simp only [wp_bnd]
  constructor
  · intro q
    refine wp_mono q fun x h1 q => ?_
    split at q
    · exact wp_ret.mp q
    · exact (wp_no.mp q).elim
  · intro q
    refine wp_mono q fun x h1 q => ?_
    split at q
    · exact wp_ret.mpr q
    · exact q.elim
theorem w_tru {e : CE} : wp (evT G (.tru e) env) h Qb ↔ wp (evE G e env) h fun x h => ∃ k, truD h x = some k ∧ Qb k h := by
  rw [evT]; simp only [wp_bnd, wp_rd]
theorem w_tcmp {op : COp} {a b : CE} : wp (evT G (.cmp op a b) env) h Qb ↔ wp (evE G a env) h fun x h => wp (evE G b env) h fun y h => ∃ r, cmpD op x y h = some r ∧ Qb r h := by
  rw [evT]; simp only [wp_bnd, wp_rd]
theorem w_tchn {op op' : COp} {a b c : CE} : wp (evT G (.chn op op' a b c) env) h Qb ↔ wp (evE G a env) h fun x h => wp (evE G b env) h fun y h => ∃ r, cmpD op x y h = some r ∧
    if r = true then wp (evE G c env) h fun z h => ∃ r, cmpD op' y z h = some r ∧ Qb r h else Qb false h := by
  rw [evT]; simp only [wp_bnd, wp_rd, wp_ite, wp_ret]
theorem w_tand {a b : CT} : wp (evT G (.and a b) env) h Qb ↔ wp (evT G a env) h fun k h => if k = true then wp (evT G b env) h Qb else Qb false h := by
  rw [evT]; simp only [wp_bnd, wp_ite, wp_ret]
theorem w_tor {a b : CT} : wp (evT G (.or a b) env) h Qb ↔ wp (evT G a env) h fun k h => if k = true then Qb true h else wp (evT G b env) h Qb := by
  rw [evT]; simp only [wp_bnd, wp_ite, wp_ret]
theorem w_tnot {a : CT} : wp (evT G (.not a) env) h Qb ↔ wp (evT G a env) h fun k h => Qb (!k) h := by
  rw [evT]; simp only [wp_bnd, wp_ret]
theorem w_otnone : wp (evOT G none env) h Qb ↔ Qb true h := by unfold evOT; exact wp_ret
theorem w_otsome {t : CT} : wp (evOT G (some t) env) h Qb ↔ wp (evT G t env) h Qb := by rw [evOT]
theorem w_val {e : CE} : wp (evI G (.val e) env) h QI ↔ wp (evE G e env) h fun x h => wp (itemsD x) h QI := by
  rw [evI]; simp only [wp_bnd]
theorem w_rng1 {b : CE} : wp (evI G (.rng1 b) env) h QI ↔ wp (evE G b env) h fun y h => ∃ j, y = .int j ∧ within62 j = true ∧ QI (rngL 0 j.toNat, []) h := by
  rw [evI]
  simp only [wp_bnd]
  constructor
  · intro q
    refine wp_mono q fun x h1 q => ?_
    split at q
    · rename_i j
      rw [wp_ite] at q
      split at q
      · exact ⟨j, rfl, ‹_›, wp_ret.mp q⟩
      · exact (wp_no.mp q).elim
    · exact (wp_no.mp q).elim
  · intro q
    refine wp_mono q fun x h1 q => ?_
    obtain ⟨j, rfl, k, q⟩ := q
    dsimp only
    rw [if_pos k]
    exact wp_ret.mpr q
theorem w_rng2 {a b : CE} : wp (evI G (.rng2 a b) env) h QI ↔ wp (evE G a env) h fun x h => wp (evE G b env) h fun y h => ∃ i j, x = .int i ∧ y = .int j ∧ within62 i = true ∧ within62 j = true ∧ QI (rngL i (j - i).toNat, []) h := by
  rw [evI]
  simp only [wp_bnd]
  constructor
  · intro q
    refine wp_mono q fun x h1 q => wp_mono q fun y h2 q => ?_
    cases x with
    | int i =>
      cases y with
      | int j =>
        dsimp only at q
        rw [wp_ite] at q
        split at q
        · rename_i c
          rw [Bool.and_eq_true] at c
          exact ⟨i, j, rfl, rfl, c.1, c.2, wp_ret.mp q⟩
        · exact (wp_no.mp q).elim
      | _ => exact (wp_no.mp q).elim
    | _ => exact (wp_no.mp q).elim
  · intro q
    refine wp_mono q fun x h1 q => wp_mono q fun y h2 q => ?_
    obtain ⟨i, j, rfl, rfl, k, k2, q⟩ := q
    dsimp only
    rw [if_pos (by rw [k, k2]; rfl)]
    exact wp_ret.mpr q
theorem w_rngD {a b : CE} : wp (evI G (.rngD a b) env) h QI ↔ wp (evE G a env) h fun x h => wp (evE G b env) h fun y h => ∃ i j, x = .int i ∧ y = .int j ∧ within62 i = true ∧ within62 j = true ∧ QI (rngDn i (i - j).toNat, []) h := by
  rw [evI]
  simp only [wp_bnd]
  constructor
  · intro q
    refine wp_mono q fun x h1 q => wp_mono q fun y h2 q => ?_
    cases x with
    | int i =>
      cases y with
      | int j =>
        dsimp only at q
        rw [wp_ite] at q
        split at q
        · rename_i c
          rw [Bool.and_eq_true] at c
          exact ⟨i, j, rfl, rfl, c.1, c.2, wp_ret.mp q⟩
        · exact (wp_no.mp q).elim
      | _ => exact (wp_no.mp q).elim
    | _ => exact (wp_no.mp q).elim
  · intro q
    refine wp_mono q fun x h1 q => wp_mono q fun y h2 q => ?_
    obtain ⟨i, j, rfl, rfl, k, k2, q⟩ := q
    dsimp only
    rw [if_pos (by rw [k, k2]; rfl)]
    exact wp_ret.mpr q
theorem w_zip {a b : CE} : wp (evI G (.zip a b) env) h QI ↔ wp (evE G a env) h fun x h => wp (evE G b env) h fun y h => wp (itemsD x) h fun p h => wp (itemsD y) h fun q h => QI (zipD p.1 q.1, p.2 ++ q.2) h := by
  rw [evI]; simp only [wp_bnd, wp_ret]
theorem w_enm {a : CE} : wp (evI G (.enm a) env) h QI ↔ wp (evE G a env) h fun x h => wp (itemsD x) h fun p h => QI (enumD p.1, p.2) h := by
  rw [evI]; simp only [wp_bnd, wp_ret]

/-! ### statements -/
theorem s_set {i : Nat} {e : CE} : wp (evS G w (.set i e) env) h QS ↔ wp (evE G e env) h fun x h => i < env.length ∧ QS (.nx, env.set i (some x)) h := by
  rw [evS]
  simp only [wp_bnd, wp_ite, wp_ret, wp_no]
  constructor
  · intro q
    refine wp_mono q fun x h1 q => ?_
    split at q
    · exact ⟨‹_›, q⟩
    · exact q.elim
  · intro q
    refine wp_mono q fun x h1 q => ?_
    rw [if_pos q.1]
    exact q.2
theorem s_asg {g : CG} {e : CE} : wp (evS G w (.asg g e) env) h QS ↔ wp (evE G e env) h fun x h => ∃ env', bindG g x env = some env' ∧ QS (.nx, env') h := by
  rw [evS]
  simp only [wp_bnd]
  constructor
  · intro q
    refine wp_mono q fun x h1 q => ?_
    split at q
    · exact ⟨_, ‹_›, wp_ret.mp q⟩
    · exact (wp_no.mp q).elim
  · intro q
    refine wp_mono q fun x h1 q => ?_
    obtain ⟨env', e, q⟩ := q
    rw [e]
    exact wp_ret.mpr q
theorem s_asgL {gs : List CG} {e : CE} : wp (evS G w (.asgL gs e) env) h QS ↔ wp (evE G e env) h fun x h => ∃ xs, lstOf h x = some xs ∧ ∃ env', bindGs gs xs env = some env' ∧ QS (.nx, env') h := by
  rw [evS]
  simp only [wp_bnd, wp_rd]
  constructor
  · intro q
    refine wp_mono q fun x h1 q => ?_
    obtain ⟨xs, e, q⟩ := q
    refine ⟨xs, e, ?_⟩
    split at q
    · exact ⟨_, ‹_›, wp_ret.mp q⟩
    · exact (wp_no.mp q).elim
  · intro q
    refine wp_mono q fun x h1 q => ?_
    obtain ⟨xs, e1, env', e, q⟩ := q
    refine ⟨xs, e1, ?_⟩
    rw [e]
    exact wp_ret.mpr q
theorem s_par {i j : Nat} {a b : CE} : wp (evS G w (.par i j a b) env) h QS ↔ wp (evE G a env) h fun x h => wp (evE G b env) h fun y h => (i < env.length ∧ j < env.length) ∧ QS (.nx, (env.set i (some x)).set j (some y)) h := by
  rw [evS]
  simp only [wp_bnd, wp_ite, wp_ret, wp_no]
  constructor
  · intro q
    refine wp_mono q fun x h1 q => wp_mono q fun y h2 q => ?_
    split at q
    · exact ⟨‹_›, q⟩
    · exact q.elim
  · intro q
    refine wp_mono q fun x h1 q => wp_mono q fun y h2 q => ?_
    rw [if_pos q.1]
    exact q.2
theorem s_put {o i e : CE} : wp (evS G w (.put o i e) env) h QS ↔ wp (evE G e env) h fun v h => wp (evE G o env) h fun x h => wp (evE G i env) h fun y h => wp (putD x y v) h fun _ h => QS (.nx, env) h := by
  rw [evS]; simp only [wp_bnd, wp_ret]
theorem s_exp {e : CE} : wp (evS G w (.exp e) env) h QS ↔ wp (evE G e env) h fun _ h => QS (.nx, env) h := by
  rw [evS]; simp only [wp_bnd, wp_ret]
theorem s_ret {e : CE} : wp (evS G w (.ret e) env) h QS ↔ wp (evE G e env) h fun x h => QS (.ret x, env) h := by
  rw [evS]; simp only [wp_bnd, wp_ret]
theorem s_retN : wp (evS G w .retN env) h QS ↔ QS (.ret .non, env) h := by
  rw [evS]; exact wp_ret
theorem s_ifs {c : CT} {a b : List CS} : wp (evS G w (.ifs c a b) env) h QS ↔ wp (evT G c env) h fun k h => if k = true then wp (evSs G w a env) h QS else wp (evSs G w b env) h QS := by
  rw [evS]; simp only [wp_bnd, wp_ite]
theorem s_for {g : CG} {it : CI} {b : List CS} : wp (evS G w (.for g it b) env) h QS ↔ wp (evI G it env) h fun r h => wp (forL (bindG g) (evSs G w b) r.2 r.1 env) h QS := by
  rw [evS]; simp only [wp_bnd]
theorem s_whl {c : CT} {b : List CS} : wp (evS G w (.whl c b) env) h QS ↔ wp (whlL (evT G c) (evSs G w b) w env) h QS := by
  rw [evS]
theorem s_pass : wp (evS G w .pass env) h QS ↔ QS (.nx, env) h := by rw [evS]; exact wp_ret
theorem s_brk : wp (evS G w .brk env) h QS ↔ QS (.bk, env) h := by rw [evS]; exact wp_ret
theorem s_cnt : wp (evS G w .cnt env) h QS ↔ QS (.ct, env) h := by rw [evS]; exact wp_ret
theorem s_nil : wp (evSs G w [] env) h QS ↔ QS (.nx, env) h := by rw [evSs]; exact wp_ret
theorem s_cons {s : CS} {ss : List CS} : wp (evSs G w (s :: ss) env) h QS ↔ wp (evS G w s env) h fun r h => match r.1 with
    | .nx => wp (evSs G w ss r.2) h QS
    | o => QS (o, r.2) h := by
  rw [evSs]
  simp only [wp_bnd]
  constructor
  · intro q
    refine wp_mono q fun r h1 q => ?_
    obtain ⟨o, e⟩ := r
    cases o with
    | nx => exact q
    | _ => exact wp_ret.mp q
  · intro q
    refine wp_mono q fun r h1 q => ?_
    obtain ⟨o, e⟩ := r
    cases o with
    | nx => exact q
    | _ => exact wp_ret.mpr q
theorem w_run {ps ns : Nat} {b : List CS} {args : List D} : wp (runD G w ⟨ps, ns, b⟩ args) h Q ↔ args.length = ps ∧ wp (evSs G w b (args.map some ++ List.replicate (ns - args.length) none)) h fun r h => match r.1 with
    | .nx => Q .non h
    | .ret x => Q x h
    | _ => False := by
  unfold runD
  rw [wp_ite]
  constructor
  · intro q
    split at q
    · refine ⟨‹_›, ?_⟩
      rw [wp_bnd] at q
      refine wp_mono q fun r h1 q => ?_
      obtain ⟨o, e⟩ := r
      cases o with
      | nx => exact wp_ret.mp q
      | ret d => exact wp_ret.mp q
      | _ => exact (wp_no.mp q).elim
    · exact (wp_no.mp q).elim
  · rintro ⟨hl, q⟩
    rw [if_pos hl, wp_bnd]
    refine wp_mono q fun r h1 q => ?_
    obtain ⟨o, e⟩ := r
    cases o with
    | nx => exact wp_ret.mpr q
    | ret d => exact wp_ret.mpr q
    | _ => exact q.elim
end

/-! ### operations -/
section
variable {h : MH} {Q : D → MH → Prop} {Qu : Unit → MH → Prop}
theorem o_add {i j : Int} : wp (binD .add (.int i) (.int j)) h Q ↔ Q (.int (i + j)) h := wp_ret
theorem o_sub {i j : Int} : wp (binD .sub (.int i) (.int j)) h Q ↔ Q (.int (i - j)) h := wp_ret
theorem o_mul {i j : Int} : wp (binD .mul (.int i) (.int j)) h Q ↔ (small64 i || small64 j) = true ∧ Q (.int (i * j)) h := by
  unfold binD
  dsimp only
  rw [wp_ite]
  constructor
  · intro q
    split at q
    · exact ⟨‹_›, wp_ret.mp q⟩
    · exact (wp_no.mp q).elim
  · rintro ⟨k, q⟩
    rw [if_pos k]
    exact wp_ret.mpr q
theorem o_fdiv {i j : Int} : wp (binD .fdiv (.int i) (.int j)) h Q ↔ (0 < j ∧ j < 1073741824) ∧ Q (.int (i / j)) h := by
  unfold binD
  dsimp only
  rw [wp_ite]
  constructor
  · intro q
    split at q
    · rename_i c
      simp only [Bool.and_eq_true, decide_eq_true_eq] at c
      exact ⟨c, wp_ret.mp q⟩
    · exact (wp_no.mp q).elim
  · rintro ⟨k, q⟩
    rw [if_pos (by simp only [Bool.and_eq_true, decide_eq_true_eq]; exact k)]
    exact wp_ret.mpr q
theorem o_mod {i j : Int} : wp (binD .mod (.int i) (.int j)) h Q ↔ 0 < j ∧ Q (.int (i % j)) h := by
  unfold binD
  dsimp only
  rw [wp_ite]
  constructor
  · intro q
    split at q
    · exact ⟨‹_›, wp_ret.mp q⟩
    · exact (wp_no.mp q).elim
  · rintro ⟨k, q⟩
    rw [if_pos k]
    exact wp_ret.mpr q
theorem o_catS {a b : Str} : wp (binD .add (.str a) (.str b)) h Q ↔ a.length + b.length ≤ LINE ∧ Q (.str (a ++ b)) h := by
  unfold binD
  dsimp only
  rw [wp_ite]
  constructor
  · intro q
    split at q
    · exact ⟨‹_›, wp_ret.mp q⟩
    · exact (wp_no.mp q).elim
  · rintro ⟨k, q⟩
    rw [if_pos k]
    exact wp_ret.mpr q
theorem o_catT {a b : List D} : wp (binD .add (.tup a) (.tup b)) h Q ↔ a.length + b.length ≤ LINE ∧ Q (.tup (a ++ b)) h := by
  unfold binD
  dsimp only
  rw [wp_ite]
  constructor
  · intro q
    split at q
    · exact ⟨‹_›, wp_ret.mp q⟩
    · exact (wp_no.mp q).elim
  · rintro ⟨k, q⟩
    rw [if_pos k]
    exact wp_ret.mpr q
theorem o_catL {n m : Nat} {xs ys : List D} (e1 : h[n]? = some (.lst xs)) (e2 : h[m]? = some (.lst ys)) (hl : xs.length + ys.length ≤ LINE) (q : Q (.obj h.length) (h ++ [.lst (xs ++ ys)])) : wp (binD .add (.obj n) (.obj m)) h Q := by
  unfold binD
  dsimp only
  rw [wp_bnd, wp_rd]
  refine ⟨xs, lstAt_iff.mpr e1, ?_⟩
  rw [wp_bnd, wp_rd]
  refine ⟨ys, lstAt_iff.mpr e2, ?_⟩
  rw [if_pos hl]
  exact wp_new.mpr q
theorem wp_appD {n : Nat} {d : D} {xs : List D} (e : h[n]? = some (.lst xs)) (hl : xs.length < LINE) (q : Qu () (h.set n (.lst (xs ++ [d])))) : wp (appD (.obj n) d) h Qu := wp_push e hl q
theorem wp_putL {n : Nat} {i : Int} {v : D} {xs : List D} {j : Nat} (e : h[n]? = some (.lst xs)) (hj : ixN xs.length i = some j) (q : Qu () (h.set n (.lst (xs.set j v)))) : wp (putD (.obj n) (.int i) v) h Qu := by
  refine ⟨(), h.set n (.lst (xs.set j v)), ?_, q⟩
  unfold putD
  dsimp only
  rw [e]
  dsimp only
  rw [hj]
theorem wp_putK {n : Nat} {k v : D} {kvs : List (Key × D)} {kk : Key} (e : h[n]? = some (.dic kvs)) (hk : keyOf k = some kk) (hl : kvs.length < LINE) (q : Qu () (h.set n (.dic (kput kvs kk v)))) : wp (putD (.obj n) k v) h Qu := by
  refine ⟨(), h.set n (.dic (kput kvs kk v)), ?_, q⟩
  unfold putD
  dsimp only
  rw [e]
  dsimp only
  rw [hk]
  dsimp only
  rw [if_pos hl]
theorem ix_lst {n : Nat} {i : Int} {xs : List D} (e : h[n]? = some (.lst xs)) : idxD (.obj n) (.int i) h = atI xs i := by
  unfold idxD
  dsimp only
  rw [e]
theorem ix_dic {n : Nat} {k : D} {kk : Key} {kvs : List (Key × D)} (e : h[n]? = some (.dic kvs)) (hk : keyOf k = some kk) : idxD (.obj n) k h = kget kvs kk := by
  unfold idxD
  dsimp only
  rw [e]
  dsimp only
  rw [hk]
  rfl
theorem ix_tup {xs : List D} {i : Int} : idxD (.tup xs) (.int i) h = atI xs i := rfl
theorem ix_fl {xs : List D} {i : Int} : idxD (.fl xs) (.int i) h = atI xs i := rfl
theorem at_nat {α : Type} {xs : List α} {i : Int} (h0 : 0 ≤ i) (h1 : i < xs.length) : atI xs i = xs[i.toNat]? := by
  unfold atI ixN
  rw [if_pos h0, if_pos h1]
  rfl
theorem at_nat' {α : Type} {xs : List α} {n : Nat} (h1 : n < xs.length) : atI xs (n : Int) = xs[n]? := by
  rw [at_nat (by omega) (by omega)]
  simp
theorem ixN_nat {n : Nat} {i : Int} (h0 : 0 ≤ i) (h1 : i < n) : ixN n i = some i.toNat := by
  unfold ixN
  rw [if_pos h0, if_pos h1]
/-- equality of plain values -/
theorem eq_int {i j : Int} : eqD h (.int i) (.int j) = some (decide (i = j)) := by
  unfold eqD pyOf
  simp only [PyData.eqv]
  congr 1
theorem eq_bl {a b : Bool} : eqD h (.bl a) (.bl b) = some (a == b) := rfl
theorem eq_str {a b : Str} (ha : PyData.strOk a = true) (hb : PyData.strOk b = true) : eqD h (.str a) (.str b) = some (decide (a = b)) := by
  unfold eqD pyOf
  rw [if_pos ha, if_pos hb]
  simp only [PyData.eqv]
  congr 1
theorem o_lenT {xs : List D} : wp (bltD .len [.tup xs]) h Q ↔ Q (.int xs.length) h := by
  unfold bltD
  dsimp only
  rw [wp_bnd, wp_rd]
  simp only [wp_ret]
  exact ex_some
theorem o_lenL {n : Nat} {xs : List D} (e : h[n]? = some (.lst xs)) (q : Q (.int xs.length) h) : wp (bltD .len [.obj n]) h Q := by
  unfold bltD
  dsimp only
  rw [wp_bnd, wp_rd]
  refine ⟨_, ?_, wp_ret.mpr q⟩
  unfold lenD
  dsimp only
  rw [e]
theorem o_int {i : Int} : wp (bltD .int [.int i]) h Q ↔ Q (.int i) h := wp_ret
theorem o_intb {b : Bool} : wp (bltD .int [.bl b]) h Q ↔ Q (.int (if b then 1 else 0)) h := wp_ret
theorem o_abs {i : Int} : wp (bltD .abs [.int i]) h Q ↔ Q (.int (if i < 0 then -i else i)) h := wp_ret
theorem o_tupL {n : Nat} {xs : List D} (e : h[n]? = some (.lst xs)) (q : Q (.tup xs) h) : wp (bltD .tuple [.obj n]) h Q := by
  unfold bltD
  dsimp only
  rw [wp_bnd, wp_rd]
  exact ⟨_, lstAt_iff.mpr e, wp_ret.mpr q⟩
theorem o_listT {xs : List D} (q : Q (.obj h.length) (h ++ [.lst xs])) : wp (bltD .list [.tup xs]) h Q := by
  unfold bltD
  dsimp only
  rw [wp_bnd, wp_rd]
  exact ⟨xs, rfl, wp_new.mpr q⟩
theorem o_listL {n : Nat} {xs : List D} (e : h[n]? = some (.lst xs)) (q : Q (.obj h.length) (h ++ [.lst xs])) : wp (bltD .list [.obj n]) h Q := by
  unfold bltD
  dsimp only
  rw [wp_bnd, wp_rd]
  exact ⟨xs, lstAt_iff.mpr e, wp_new.mpr q⟩
theorem o_sumL {n : Nat} {is : List Int} (e : h[n]? = some (.lst (is.map .int))) (q : Q (.int is.sum) h) : wp (bltD .sum [.obj n]) h Q := by
  unfold bltD
  dsimp only
  rw [wp_bnd, wp_rd]
  refine ⟨is, ?_, wp_ret.mpr q⟩
  rw [lstAt_iff.mpr e]
  show intsOf (is.map .int) = some is
  clear e q
  induction is with
  | nil => rfl
  | cons i is ih =>
    show (intsOf (is.map .int)).map (i :: ·) = _
    rw [ih]
    rfl
theorem c_lt {i j : Int} : cmpD .lt (.int i) (.int j) h = some (decide (i < j)) := rfl
theorem c_le {i j : Int} : cmpD .le (.int i) (.int j) h = some (decide (i ≤ j)) := rfl
theorem c_gt {i j : Int} : cmpD .gt (.int i) (.int j) h = some (decide (j < i)) := rfl
theorem c_ge {i j : Int} : cmpD .ge (.int i) (.int j) h = some (decide (j ≤ i)) := rfl
theorem c_eqI {i j : Int} : cmpD .eq (.int i) (.int j) h = some (decide (i = j)) := by
  show eqD h (.int i) (.int j) = _
  exact eq_int
theorem c_neI {i j : Int} : cmpD .ne (.int i) (.int j) h = some (!decide (i = j)) := by
  show (eqD h (.int i) (.int j)).map _ = _
  rw [eq_int]
  rfl
theorem c_isN {d : D} : cmpD .isN d .non h = some (nonD d) := rfl
theorem c_notN {d : D} : cmpD .notN d .non h = some (!nonD d) := rfl
theorem t_bl {b : Bool} : truD h (.bl b) = some b := rfl
theorem t_int {i : Int} : truD h (.int i) = some (i != 0) := rfl
theorem t_tup {xs : List D} : truD h (.tup xs) = some (!xs.isEmpty) := rfl
theorem t_non : truD h .non = some false := rfl
theorem t_lst {n : Nat} {xs : List D} (e : h[n]? = some (.lst xs)) : truD h (.obj n) = some (!xs.isEmpty) := by
  unfold truD
  dsimp only
  rw [e]
theorem at0 {α : Type} {x : α} {xs : List α} : atI (x :: xs) 0 = some x := by
  rw [at_nat (by omega) (by rw [List.length_cons]; omega)]
  rfl
theorem at1 {α : Type} {x y : α} {xs : List α} : atI (x :: y :: xs) 1 = some y := by
  rw [at_nat (by omega) (by rw [List.length_cons, List.length_cons]; omega)]
  rfl
theorem at2 {α : Type} {x y z : α} {xs : List α} : atI (x :: y :: z :: xs) 2 = some z := by
  rw [at_nat (by omega) (by simp only [List.length_cons]; omega)]
  rfl
theorem at3 {α : Type} {x y z u : α} {xs : List α} : atI (x :: y :: z :: u :: xs) 3 = some u := by
  rw [at_nat (by omega) (by simp only [List.length_cons]; omega)]
  rfl
theorem at4 {α : Type} {x y z u v : α} {xs : List α} : atI (x :: y :: z :: u :: v :: xs) 4 = some v := by
  rw [at_nat (by omega) (by simp only [List.length_cons]; omega)]
  rfl
theorem bif_eq {b : Bool} {p q : Prop} : (if b = true then p else q) ↔ (b = true → p) ∧ (b = false → q) := by
  cases b <;> simp
end

/-! ### pure comprehensions -/
theorem set_at {h : MH} {n : Nat} {o o' : MO} (e : h[n]? = some o) : (h.set n o')[n]? = some o' := List.getElem?_set_self (List.getElem?_eq_some_iff.mp e).1
theorem Ks.ex {ks : Kp} {h h' : MH} (k : Ks ks h) (x : Ex [] h h') : Ks ks h' := fun p hp => x.at0 (k p hp)
theorem wp_mapf {G : Ga} {bnd : D → Env → Option Env} {elt : Env → M D} {ks : Kp} {env : Env} {ds : List D} {Q : Unit → MH → Prop} (f : D → D) (h0 : MH) (hk : Ks ks h0) (hl : ds.length ≤ 10000000)
    (hel : ∀ d ∈ ds, ∀ h', Ex [] h0 h' → ∃ env1, bnd d env = some env1 ∧ wp (elt env1) h' fun y h2 => y = f d ∧ Ex [] h' h2)
    (post : ∀ h', Ex [] h0 h' → h'[h0.length]? = some (.lst (ds.map f)) → Q () h') : wp (lcL bnd (evOT G none) elt ks h0.length env ds) (h0 ++ [.lst []]) Q := by
  refine wp_lcL (Inv := fun todo acc h' => ∃ done, ds = done ++ todo ∧ acc = done.map f ∧ Ex [] h0 h' ∧ h'[h0.length]? = some (.lst acc)) ?_ ?_ ⟨[], rfl, rfl, Ex.app, by simp⟩
  · rintro d todo acc h1 ⟨done, rfl, rfl, x, hn⟩
    obtain ⟨env1, e1, q⟩ := hel d (by simp) h1 x
    refine ⟨hk.ex x, env1, e1, ?_⟩
    rw [w_otnone, if_pos rfl]
    refine wp_mono q fun y h2 q => ?_
    obtain ⟨rfl, x2⟩ := q
    have e2 := x2.at0 hn
    refine ⟨e2, line_gt ?_, done ++ [d], by simp, by simp, (x.trans x2).set (Nat.le_refl _), set_at e2⟩
    rw [List.length_map]
    rw [List.length_append] at hl
    omega
  · rintro acc h1 ⟨done, rfl, rfl, x, hn⟩
    refine ⟨hk.ex x, post h1 x ?_⟩
    rw [List.append_nil]
    exact hn
theorem wp_filf {bnd : D → Env → Option Env} {tst : Env → M Bool} {elt : Env → M D} {ks : Kp} {env : Env} {ds : List D} {Q : Unit → MH → Prop} (b : D → Bool) (f : D → D) (h0 : MH) (hk : Ks ks h0) (hl : ds.length ≤ 10000000)
    (hel : ∀ d ∈ ds, ∀ h', Ex [] h0 h' → ∃ env1, bnd d env = some env1 ∧ wp (tst env1) h' fun v h2 => v = b d ∧ Ex [] h' h2 ∧ (v = true → wp (elt env1) h2 fun y h3 => y = f d ∧ Ex [] h2 h3))
    (post : ∀ h', Ex [] h0 h' → h'[h0.length]? = some (.lst ((ds.filter b).map f)) → Q () h') : wp (lcL bnd tst elt ks h0.length env ds) (h0 ++ [.lst []]) Q := by
  refine wp_lcL (Inv := fun todo acc h' => ∃ done, ds = done ++ todo ∧ acc = (done.filter b).map f ∧ Ex [] h0 h' ∧ h'[h0.length]? = some (.lst acc)) ?_ ?_ ⟨[], rfl, rfl, Ex.app, by simp⟩
  · rintro d todo acc h1 ⟨done, rfl, rfl, x, hn⟩
    obtain ⟨env1, e1, q⟩ := hel d (by simp) h1 x
    refine ⟨hk.ex x, env1, e1, ?_⟩
    refine wp_mono q fun v h2 q => ?_
    obtain ⟨rfl, x2, q⟩ := q
    cases hv : b d with
    | false =>
      rw [if_neg Bool.false_ne_true]
      exact ⟨done ++ [d], by simp, by simp [hv], x.trans x2, x2.at0 hn⟩
    | true =>
      rw [if_pos rfl]
      refine wp_mono (q hv) fun y h3 q => ?_
      obtain ⟨rfl, x3⟩ := q
      have e2 := x3.at0 (x2.at0 hn)
      refine ⟨e2, line_gt ?_, done ++ [d], by simp, by simp [hv], ((x.trans x2).trans x3).set (Nat.le_refl _), set_at e2⟩
      rw [List.length_map]
      rw [List.length_append] at hl
      have := List.length_filter_le b done
      omega
  · rintro acc h1 ⟨done, rfl, rfl, x, hn⟩
    refine ⟨hk.ex x, post h1 x ?_⟩
    rw [List.append_nil]
    exact hn
/-! ### small steps -/
section
variable {α β : Type} {a b x : α} {l xs : List α} {n i : Nat}
theorem r_get0 : (a :: l)[0]? = some a := rfl
theorem r_getS : (a :: l)[i + 1]? = l[i]? := List.getElem?_cons_succ
theorem r_set0 : (x :: xs).set 0 a = a :: xs := rfl
theorem r_setS : (x :: xs).set (i + 1) a = x :: xs.set i a := rfl
theorem r_setN : ([] : List α).set i a = [] := rfl
theorem r_lenC : (a :: l).length = l.length + 1 := rfl
theorem r_lenN : ([] : List α).length = 0 := rfl
theorem r_mapC {f : α → β} : (a :: l).map f = f a :: l.map f := rfl
theorem r_mapN {f : α → β} : ([] : List α).map f = [] := rfl
theorem r_repS : List.replicate (n + 1) a = a :: List.replicate n a := rfl
theorem r_rep0 : List.replicate 0 a = [] := rfl
theorem r_appC : (a :: l) ++ xs = a :: (l ++ xs) := rfl
theorem r_appN : [] ++ xs = xs := rfl
theorem r_fmC {f : α → Option β} : (a :: l).filterMap f = match f a with
    | none => l.filterMap f
    | some b => b :: l.filterMap f := List.filterMap_cons
theorem r_fmN {f : α → Option β} : ([] : List α).filterMap f = [] := rfl
theorem r_lt1 (n : Nat) : n < n + 1 := Nat.lt_add_one n
theorem r_pos (n : Nat) : 0 < n + 1 := Nat.succ_pos n
theorem r_irr (n : Nat) : (n < n) = False := by simp
theorem r_zadd (n : Nat) : 0 + n = n := Nat.zero_add n
theorem r_tand (p : Prop) : (True ∧ p) = p := true_and p
theorem r_andt (p : Prop) : (p ∧ True) = p := and_true p
theorem r_ift {c : Decidable True} (t e : α) : (@ite α True c t e) = t := if_true t e
theorem r_iff {c : Decidable False} (t e : α) : (@ite α False c t e) = e := if_false t e
theorem r_iftP {c : Decidable True} (t e : Prop) : (@ite Prop True c t e) = t := if_true t e
theorem r_iffP {c : Decidable False} (t e : Prop) : (@ite Prop False c t e) = e := if_false t e
theorem r_ff : (false = true) = False := by simp
theorem r_tt : (true = true) = True := by simp
theorem r_nt : (!true) = false := rfl
theorem r_nf : (!false) = true := rfl
theorem r_geN {x y : Nat} : (x ≥ y) = (y ≤ x) := rfl
theorem r_gtN {x y : Nat} : (x > y) = (y < x) := rfl
theorem r_geI {x y : Int} : (x ≥ y) = (y ≤ x) := rfl
theorem r_gtI {x y : Int} : (x > y) = (y < x) := rfl
end
end Mi

namespace Mi
theorem rules : type_of% (And.intro @ex_some (And.intro @ex_none (And.intro @w_lc (And.intro @w_dc (And.intro @w_dsp (And.intro @wp_items_tup (And.intro @wp_items_fl (And.intro @w_var (And.intro @w_cst (And.intro @w_nil (And.intro @w_cons (And.intro @w_tup (And.intro @w_lst (And.intro @w_bin (And.intro @w_neg (And.intro @w_cmp (And.intro @w_chn (And.intro @w_and (And.intro @w_or (And.intro @w_not (And.intro @w_iteE (And.intro @w_idx (And.intro @w_slc (And.intro @w_rev (And.intro @w_call (And.intro @w_callK (And.intro @w_blt (And.intro @w_lrng (And.intro @w_isin (And.intro @w_met (And.intro @w_app (And.intro @w_pnil (And.intro @w_pcons (And.intro @w_onone (And.intro @w_osome (And.intro @w_tru (And.intro @w_tcmp (And.intro @w_tchn (And.intro @w_tand (And.intro @w_tor (And.intro @w_tnot (And.intro @w_otnone (And.intro @w_otsome (And.intro @w_val (And.intro @w_zip (And.intro @w_enm (And.intro @s_set (And.intro @s_asg (And.intro @s_asgL (And.intro @s_par (And.intro @s_put (And.intro @s_exp (And.intro @s_ret (And.intro @s_retN (And.intro @s_ifs (And.intro @s_for (And.intro @s_whl (And.intro @s_pass (And.intro @s_brk (And.intro @s_cnt (And.intro @s_nil (And.intro @s_cons (And.intro @w_run (And.intro @o_add (And.intro @o_sub (And.intro @ix_tup (And.intro @ix_fl (And.intro @o_lenT (And.intro @o_int (And.intro @o_intb (And.intro @o_abs (And.intro @c_lt (And.intro @c_le (And.intro @c_gt (And.intro @c_ge (And.intro @c_eqI (And.intro @c_neI (And.intro @c_isN (And.intro @c_notN (And.intro @t_bl (And.intro @t_int (And.intro @t_tup (And.intro @t_non (And.intro @at0 (And.intro @at1 (And.intro @at2 (And.intro @at3 (And.intro @at4 (And.intro @r_get0 (And.intro @r_getS (And.intro @r_set0 (And.intro @r_setS (And.intro @r_setN (And.intro @r_lenC (And.intro @r_lenN (And.intro @r_mapC (And.intro @r_mapN (And.intro @r_repS (And.intro @r_rep0 (And.intro @r_appC (And.intro @r_appN (And.intro @r_fmC (And.intro @r_fmN (And.intro @r_lt1 (And.intro @r_pos (And.intro @r_irr (And.intro @r_zadd (And.intro @r_tand (And.intro @r_andt (And.intro @r_ift (And.intro @r_iff (And.intro @r_iftP (And.intro @r_iffP (And.intro @r_ff (And.intro @r_tt (And.intro @r_nt (And.intro @r_nf (And.intro @r_geN (And.intro @r_gtN (And.intro @r_geI (@r_gtI))))))))))))))))))))))))))))))))))))))))))))))))))))))))))))))))))))))))))))))))))))))))))))))))))))))))))))))))))))))))) := And.intro @ex_some (And.intro @ex_none (And.intro @w_lc (And.intro @w_dc (And.intro @w_dsp (And.intro @wp_items_tup (And.intro @wp_items_fl (And.intro @w_var (And.intro @w_cst (And.intro @w_nil (And.intro @w_cons (And.intro @w_tup (And.intro @w_lst (And.intro @w_bin (And.intro @w_neg (And.intro @w_cmp (And.intro @w_chn (And.intro @w_and (And.intro @w_or (And.intro @w_not (And.intro @w_iteE (And.intro @w_idx (And.intro @w_slc (And.intro @w_rev (And.intro @w_call (And.intro @w_callK (And.intro @w_blt (And.intro @w_lrng (And.intro @w_isin (And.intro @w_met (And.intro @w_app (And.intro @w_pnil (And.intro @w_pcons (And.intro @w_onone (And.intro @w_osome (And.intro @w_tru (And.intro @w_tcmp (And.intro @w_tchn (And.intro @w_tand (And.intro @w_tor (And.intro @w_tnot (And.intro @w_otnone (And.intro @w_otsome (And.intro @w_val (And.intro @w_zip (And.intro @w_enm (And.intro @s_set (And.intro @s_asg (And.intro @s_asgL (And.intro @s_par (And.intro @s_put (And.intro @s_exp (And.intro @s_ret (And.intro @s_retN (And.intro @s_ifs (And.intro @s_for (And.intro @s_whl (And.intro @s_pass (And.intro @s_brk (And.intro @s_cnt (And.intro @s_nil (And.intro @s_cons (And.intro @w_run (And.intro @o_add (And.intro @o_sub (And.intro @ix_tup (And.intro @ix_fl (And.intro @o_lenT (And.intro @o_int (And.intro @o_intb (And.intro @o_abs (And.intro @c_lt (And.intro @c_le (And.intro @c_gt (And.intro @c_ge (And.intro @c_eqI (And.intro @c_neI (And.intro @c_isN (And.intro @c_notN (And.intro @t_bl (And.intro @t_int (And.intro @t_tup (And.intro @t_non (And.intro @at0 (And.intro @at1 (And.intro @at2 (And.intro @at3 (And.intro @at4 (And.intro @r_get0 (And.intro @r_getS (And.intro @r_set0 (And.intro @r_setS (And.intro @r_setN (And.intro @r_lenC (And.intro @r_lenN (And.intro @r_mapC (And.intro @r_mapN (And.intro @r_repS (And.intro @r_rep0 (And.intro @r_appC (And.intro @r_appN (And.intro @r_fmC (And.intro @r_fmN (And.intro @r_lt1 (And.intro @r_pos (And.intro @r_irr (And.intro @r_zadd (And.intro @r_tand (And.intro @r_andt (And.intro @r_ift (And.intro @r_iff (And.intro @r_iftP (And.intro @r_iffP (And.intro @r_ff (And.intro @r_tt (And.intro @r_nt (And.intro @r_nf (And.intro @r_geN (And.intro @r_gtN (And.intro @r_geI (@r_gtI))))))))))))))))))))))))))))))))))))))))))))))))))))))))))))))))))))))))))))))))))))))))))))))))))))))))))))))))))))))))
end Mi

/-! the text of fringes_k76_whole_within in Mini -/
namespace K76
open Mi
open PySem (Str)
/-- place_numbers -/
def b0 : List CS := [
  .ret (.dc [1, 2] (.tp [(.nm 1), (.nm 2)]) (.enm (.idx (.var 0) (.cst (.int 1)))) (.idx (.var 2) (.cst (.int 0))) (.var 1))]
/-- tie_ends -/
def b1 : List CS := [
  .set 1 (.call 0 [(.var 0)]),
  .ret (.lc [2] (.nm 2) (.val (.idx (.var 0) (.cst (.int 2)))) none (.tup [(.idx (.var 1) (.idx (.var 2) (.cst (.int 1)))), (.idx (.var 1) (.idx (.var 2) (.cst (.int 2))))]))]
/-- place_of -/
def b2 : List CS := [
  .ret (.idx (.call 0 [(.var 0)]) (.var 1))]
/-- part_marks -/
def b3 : List CS := [
  .set 1 (.call 1 [(.var 0)]),
  .set 2 (.lc [8] (.nm 8) (.val (.idx (.var 0) (.cst (.int 1)))) none (.lst [])),
  .for (.tp [(.nm 5), (.nm 6)]) (.val (.var 1)) [
    .exp (.app (.idx (.var 2) (.var 5)) (.var 6)),
    .exp (.app (.idx (.var 2) (.var 6)) (.var 5))],
  .set 3 (.bin .mul (.lst [(.cst .non)]) (.blt .len [(.idx (.var 0) (.cst (.int 1)))])),
  .for (.nm 4) (.rng1 (.blt .len [(.var 3)])) [
    .set 7 (.ite (.cmp .isN (.idx (.var 3) (.var 4)) (.cst .non)) (.lst [(.var 4)]) (.lst [])),
    .whl (.tru (.var 7)) [
      .set 9 (.met .pop (.var 7) []),
      .ifs (.cmp .isN (.idx (.var 3) (.var 9)) (.cst .non)) [
        .put (.var 3) (.var 9) (.var 4),
        .exp (.met .extend (.var 7) [(.idx (.var 2) (.var 9))])] []]],
  .ret (.var 3)]
/-- same_part -/
def b4 : List CS := [
  .set 3 (.call 3 [(.var 0)]),
  .ret (.cmp .eq (.idx (.var 3) (.call 2 [(.var 0), (.var 1)])) (.idx (.var 3) (.call 2 [(.var 0), (.var 2)])))]
/-- unlike_places -/
def b5 : List CS := [
  .ifs (.cmp .eq (.var 0) (.var 1)) [
    .rse] []]
/-- cut_down -/
def b6 : List CS := [
  .ret (.bin .sub (.var 0) (.bin .mod (.bin .sub (.var 0) (.var 1)) (.var 2)))]
/-- leg_bounds -/
def b7 : List CS := [
  .asg (.tp [(.nm 2), (.nm 3), (.nm 4)]) (.var 0),
  .set 1 (.lst []),
  .for (.tp [(.nm 5), (.nm 6)]) (.zip (.var 4) (.call 1 [(.var 0)])) [
    .set 7 (.bin .sub (.idx (.idx (.var 3) (.idx (.var 6) (.cst (.int 1)))) (.cst (.int 1))) (.idx (.idx (.var 3) (.idx (.var 6) (.cst (.int 0)))) (.cst (.int 1)))),
    .set 8 (.ite (.cmp .isN (.idx (.var 5) (.cst (.int 4))) (.cst .non)) (.cst .non) (.call 6 [(.idx (.var 5) (.cst (.int 4))), (.var 7), (.var 2)])),
    .set 9 (.ite (.cmp .isN (.idx (.var 5) (.cst (.int 3))) (.cst .non)) (.cst .non) (.call 6 [(.neg (.idx (.var 5) (.cst (.int 3)))), (.neg (.var 7)), (.var 2)])),
    .exp (.app (.var 1) (.tup [(.var 8), (.var 9)]))],
  .ret (.var 1)]
/-- bounded_legs -/
def b8 : List CS := [
  .set 1 (.lst []),
  .set 2 (.call 7 [(.var 0)]),
  .for (.tp [(.nm 3), (.nm 4)]) (.enm (.call 1 [(.var 0)])) [
    .for (.nm 5) (.val (.tup [(.cst (.int 0)), (.cst (.int 1))])) [
      .ifs (.cmp .notN (.idx (.idx (.var 2) (.var 3)) (.var 5)) (.cst .non)) [
        .exp (.app (.var 1) (.tup [(.idx (.var 4) (.var 5)), (.idx (.var 4) (.bin .sub (.cst (.int 1)) (.var 5))), (.idx (.idx (.var 2) (.var 3)) (.var 5)), (.tup [(.var 3), (.var 5)])]))] []]],
  .ret (.var 1)]
/-- back_legs -/
def b9 : List CS := [
  .set 2 (.bin .mul (.lst [(.cst (.int 0))]) (.var 1)),
  .set 3 (.bin .mul (.lst [(.cst .non)]) (.var 1)),
  .set 4 (.cst .non),
  .for (.nm 5) (.rng1 (.bin .add (.var 1) (.cst (.int 1)))) [
    .set 4 (.cst .non),
    .for (.tp [(.nm 6), (.nm 7), (.nm 8), (.nm 9)]) (.val (.var 0)) [
      .ifs (.cmp .lt (.bin .add (.idx (.var 2) (.var 6)) (.var 8)) (.idx (.var 2) (.var 7))) [
        .put (.var 2) (.var 7) (.bin .add (.idx (.var 2) (.var 6)) (.var 8)),
        .put (.var 3) (.var 7) (.tup [(.var 6), (.var 9)]),
        .set 4 (.var 7)] []],
    .ifs (.cmp .isN (.var 4) (.cst .non)) [
      .brk] []],
  .ret (.tup [(.var 2), (.var 3), (.var 4)])]
/-- ring_back -/
def b10 : List CS := [
  .set 3 (.var 1),
  .for (.nm 4) (.rng1 (.var 2)) [
    .set 3 (.idx (.idx (.var 0) (.var 3)) (.cst (.int 0)))],
  .set 5 (.var 3),
  .set 6 (.lst []),
  .whl (.or (.not (.tru (.var 6))) (.cmp .ne (.var 3) (.var 5))) [
    .asg (.tp [(.nm 3), (.nm 7)]) (.idx (.var 0) (.var 3)),
    .exp (.met .insert (.var 6) [(.cst (.int 0)), (.var 7)])],
  .ret (.blt .tuple [(.var 6)])]
/-- ring_of_legs -/
def b11 : List CS := [
  .asg (.tp [(.nm 2), (.nm 3), (.nm 4)]) (.call 9 [(.var 0), (.var 1)]),
  .ret (.ite (.cmp .isN (.var 4) (.cst .non)) (.cst .non) (.call 10 [(.var 3), (.var 4), (.var 1)]))]
/-- barring_ring -/
def b12 : List CS := [
  .ret (.call 11 [(.call 8 [(.var 0)]), (.blt .len [(.idx (.var 0) (.cst (.int 1)))])])]
/-- not_barred -/
def b13 : List CS := [
  .set 1 (.call 12 [(.var 0)]),
  .ifs (.cmp .notN (.var 1) (.cst .non)) [
    .rse] []]
/-- reach_from -/
def b14 : List CS := [
  .set 3 (.bin .mul (.lst [(.cst .non)]) (.var 1)),
  .set 4 (.bin .mul (.lst [(.cst .non)]) (.var 1)),
  .put (.var 3) (.var 2) (.cst (.int 0)),
  .set 5 (.cst (.bl true)),
  .whl (.tru (.var 5)) [
    .set 5 (.cst (.bl false)),
    .for (.tp [(.nm 6), (.nm 7), (.nm 8), (.nm 9)]) (.val (.var 0)) [
      .ifs (.and (.cmp .notN (.idx (.var 3) (.var 6)) (.cst .non)) (.or (.cmp .isN (.idx (.var 3) (.var 7)) (.cst .non)) (.cmp .lt (.bin .add (.idx (.var 3) (.var 6)) (.var 8)) (.idx (.var 3) (.var 7))))) [
        .put (.var 3) (.var 7) (.bin .add (.idx (.var 3) (.var 6)) (.var 8)),
        .put (.var 4) (.var 7) (.tup [(.var 6), (.var 9)]),
        .set 5 (.cst (.bl true))] []]],
  .ret (.tup [(.var 3), (.var 4)])]
/-- reach_between -/
def b15 : List CS := [
  .par 3 4 (.call 2 [(.var 0), (.var 1)]) (.call 2 [(.var 0), (.var 2)]),
  .asg (.tp [(.nm 5), (.nm 6)]) (.call 14 [(.call 8 [(.var 0)]), (.blt .len [(.idx (.var 0) (.cst (.int 1)))]), (.var 3)]),
  .ret (.tup [(.idx (.var 5) (.var 4)), (.var 6), (.var 4)])]
/-- greatest -/
def b16 : List CS := [
  .exp (.call 5 [(.var 1), (.var 2)]),
  .exp (.call 13 [(.var 0)]),
  .ret (.idx (.call 15 [(.var 0), (.var 1), (.var 2)]) (.cst (.int 0)))]
/-- differences_of -/
def b17 : List CS := [
  .ret (.lc [2, 3] (.tp [(.nm 2), (.nm 3)]) (.val (.call 1 [(.var 0)])) none (.bin .sub (.idx (.var 1) (.var 3)) (.idx (.var 1) (.var 2))))]
/-- keeps -/
def b18 : List CS := [
  .par 2 3 (.idx (.var 0) (.cst (.int 3))) (.idx (.var 0) (.cst (.int 4))),
  .ret (.and (.or (.cmp .isN (.var 2) (.cst .non)) (.cmp .ge (.var 1) (.var 2))) (.or (.cmp .isN (.var 3) (.cst .non)) (.cmp .le (.var 1) (.var 3))))]
/-- grounded -/
def b19 : List CS := [
  .set 2 (.call 3 [(.var 0)]),
  .ret (.blt .tuple [(.lc [3, 4] (.tp [(.nm 3), (.nm 4)]) (.zip (.var 1) (.var 2)) none (.bin .add (.bin .sub (.var 3) (.idx (.var 1) (.var 4))) (.idx (.idx (.idx (.var 0) (.cst (.int 1))) (.var 4)) (.cst (.int 1)))))])]
/-- unfit_ties -/
def b20 : List CS := [
  .set 2 (.call 17 [(.var 0), (.var 1)]),
  .ret (.blt .tuple [(.lc [3, 4] (.tp [(.nm 3), (.nm 4)]) (.enm (.idx (.var 0) (.cst (.int 2)))) (some (.not (.tru (.call 18 [(.var 4), (.idx (.var 2) (.var 3))])))) (.var 3))])]
/-- land_of_legs -/
def b21 : List CS := [
  .asg (.tp [(.nm 3), (.nm 4)]) (.tup [(.idx (.var 0) (.cst (.int 0))), (.idx (.var 0) (.cst (.int 1)))]),
  .set 2 (.lst []),
  .for (.tp [(.nm 5), (.nm 6), (.nm 7), (.nm 8)]) (.val (.var 1)) [
    .exp (.app (.var 2) (.tup [(.var 5), (.var 6), (.bin .fdiv (.bin .add (.bin .sub (.var 7) (.idx (.idx (.var 4) (.var 6)) (.cst (.int 1)))) (.idx (.idx (.var 4) (.var 5)) (.cst (.int 1)))) (.var 3)), (.var 8)]))],
  .asg (.tp [(.nm 9), (.nm 10), (.nm 11)]) (.call 9 [(.var 2), (.blt .len [(.var 4)])]),
  .ifs (.cmp .notN (.var 11) (.cst .non)) [
    .ret (.cst .non)] [],
  .ret (.call 19 [(.var 0), (.blt .tuple [(.lc [12, 13] (.tp [(.nm 12), (.nm 13)]) (.zip (.var 4) (.var 9)) none (.bin .add (.idx (.var 12) (.cst (.int 1))) (.bin .mul (.var 3) (.var 13))))])])]
/-- some_land -/
def b22 : List CS := [
  .exp (.call 13 [(.var 0)]),
  .ret (.call 21 [(.var 0), (.call 8 [(.var 0)])])]
/-- land_held -/
def b23 : List CS := [
  .par 5 6 (.idx (.var 0) (.cst (.int 0))) (.idx (.var 0) (.cst (.int 1))),
  .ifs (.cmp .ne (.bin .mod (.bin .add (.bin .sub (.var 3) (.idx (.idx (.var 6) (.var 2)) (.cst (.int 1)))) (.idx (.idx (.var 6) (.var 1)) (.cst (.int 1)))) (.var 5)) (.cst (.int 0))) [
    .ret (.cst .non)] [],
  .set 4 (.bin .add (.call 8 [(.var 0)]) (.lst [(.tup [(.var 1), (.var 2), (.var 3), (.cst .non)]), (.tup [(.var 2), (.var 1), (.neg (.var 3)), (.cst .non)])])),
  .ret (.call 21 [(.var 0), (.var 4)])]
/-- held_part -/
def b24 : List CS := [
  .set 4 (.call 3 [(.var 0)]),
  .set 5 (.call 22 [(.var 0)]),
  .set 6 (.bin .add (.bin .sub (.var 3) (.idx (.var 5) (.var 2))) (.idx (.var 5) (.var 1))),
  .ifs (.cmp .ne (.bin .mod (.var 6) (.idx (.var 0) (.cst (.int 0)))) (.cst (.int 0))) [
    .ret (.cst .non)] [],
  .ret (.blt .tuple [(.lc [7, 8] (.tp [(.nm 7), (.nm 8)]) (.enm (.var 5)) none (.ite (.cmp .eq (.idx (.var 4) (.var 7)) (.idx (.var 4) (.var 2))) (.bin .add (.var 8) (.var 6)) (.var 8)))])]
/-- land_with -/
def b25 : List CS := [
  .exp (.call 5 [(.var 1), (.var 2)]),
  .exp (.call 13 [(.var 0)]),
  .par 4 5 (.call 2 [(.var 0), (.var 1)]) (.call 2 [(.var 0), (.var 2)]),
  .ifs (.tru (.call 4 [(.var 0), (.var 1), (.var 2)])) [
    .set 6 (.call 23 [(.var 0), (.var 4), (.var 5), (.var 3)])] [
    .set 6 (.call 24 [(.var 0), (.var 4), (.var 5), (.var 3)])],
  .ifs (.cmp .isN (.var 6) (.cst .non)) [
    .rse] [],
  .ret (.var 6)]
/-- struck_tie -/
def b26 : List CS := [
  .ret (.tup [(.idx (.var 0) (.cst (.int 0))), (.idx (.var 0) (.cst (.int 1))), (.idx (.var 0) (.cst (.int 2))), (.cst .non), (.cst .non), (.idx (.var 0) (.cst (.int 5)))])]
/-- struck_chart -/
def b27 : List CS := [
  .set 2 (.dc [4] (.nm 4) (.val (.var 1)) (.var 4) (.cst (.bl true))),
  .set 3 (.lc [5, 4] (.tp [(.nm 5), (.nm 4)]) (.enm (.idx (.var 0) (.cst (.int 2)))) none (.ite (.cmp .in_ (.var 5) (.var 2)) (.call 26 [(.var 4)]) (.var 4))),
  .ret (.tup [(.idx (.var 0) (.cst (.int 0))), (.idx (.var 0) (.cst (.int 1))), (.blt .tuple [(.var 3)])])]
/-- is_within -/
def b28 : List CS := [
  .ret (.cmp .le (.blt .len [(.call 20 [(.var 0), (.var 1)])]) (.var 2))]
/-- bounded_ties -/
def b29 : List CS := [
  .ret (.lc [1, 2] (.tp [(.nm 1), (.nm 2)]) (.enm (.idx (.var 0) (.cst (.int 2)))) (some (.or (.cmp .notN (.idx (.var 2) (.cst (.int 3))) (.cst .non)) (.cmp .notN (.idx (.var 2) (.cst (.int 4))) (.cst .non)))) (.var 1))]
/-- lots_up_to -/
def b30 : List CS := [
  .set 2 (.lst [(.tup [])]),
  .set 3 (.lst [(.tup [])]),
  .for (.nm 4) (.rng1 (.var 1)) [
    .set 5 (.lst []),
    .for (.nm 6) (.val (.var 3)) [
      .exp (.met .extend (.var 5) [(.lc [7] (.nm 7) (.val (.var 0)) (some (.or (.not (.tru (.var 6))) (.cmp .gt (.var 7) (.idx (.var 6) (.neg (.cst (.int 1))))))) (.bin .add (.var 6) (.tup [(.var 7)])))])],
    .exp (.met .extend (.var 2) [(.var 5)]),
    .set 3 (.var 5)],
  .ret (.var 2)]
/-- greatest_within -/
def b31 : List CS := [
  .exp (.call 5 [(.var 1), (.var 2)]),
  .set 4 (.cst .non),
  .for (.nm 5) (.val (.call 30 [(.call 29 [(.var 0)]), (.var 3)])) [
    .set 6 (.call 27 [(.var 0), (.var 5)]),
    .ifs (.cmp .isN (.call 12 [(.var 6)]) (.cst .non)) [
      .set 7 (.call 16 [(.var 6), (.var 1), (.var 2)]),
      .ifs (.cmp .isN (.var 7) (.cst .non)) [
        .ret (.tup [(.cst (.str "endless"))])] [],
      .ifs (.or (.cmp .isN (.var 4) (.cst .non)) (.cmp .gt (.var 7) (.idx (.var 4) (.cst (.int 0))))) [
        .set 4 (.tup [(.var 7), (.var 6)])] []] []],
  .ifs (.cmp .isN (.var 4) (.cst .non)) [
    .ret (.tup [(.cst (.str "none"))])] [],
  .ret (.tup [(.cst (.str "greatest")), (.idx (.var 4) (.cst (.int 0))), (.call 25 [(.idx (.var 4) (.cst (.int 1))), (.var 1), (.var 2), (.idx (.var 4) (.cst (.int 0)))])])]
/-- _law_pool -/
def b32 : List CS := [
  .set 1 (.lst []),
  .set 2 (.cst (.int 137)),
  .for (.nm 3) (.val (.slc (.var 0) none (some (.cst (.int 63))))) [
    .set 4 (.blt .int [(.var 3)]),
    .set 2 (.bin .mod (.bin .add (.bin .add (.bin .mul (.var 2) (.cst (.int 109))) (.bin .mod (.var 4) (.cst (.int 1000099)))) (.cst (.int 43))) (.cst (.int 2147483069))),
    .ifs (.cmp .lt (.var 4) (.bin .pow (.cst (.int 10)) (.cst (.int 18)))) [
      .exp (.app (.var 1) (.var 4))] [
      .for (.nm 5) (.rng1 (.cst (.int 60))) [
        .ifs (.cmp .eq (.var 4) (.cst (.int 0))) [
          .brk] [],
        .exp (.app (.var 1) (.bin .mod (.var 4) (.cst (.int 5040)))),
        .set 4 (.bin .fdiv (.var 4) (.cst (.int 5040)))]]],
  .ret (.lst [(.var 1), (.cst (.int 0)), (.var 2)])]
/-- _law_take -/
def b33 : List CS := [
  .ifs (.cmp .lt (.idx (.var 0) (.cst (.int 1))) (.blt .len [(.idx (.var 0) (.cst (.int 0)))])) [
    .put (.var 0) (.cst (.int 1)) (.bin .add (.idx (.var 0) (.cst (.int 1))) (.cst (.int 1))),
    .ret (.bin .mod (.blt .int [(.idx (.idx (.var 0) (.cst (.int 0))) (.bin .sub (.idx (.var 0) (.cst (.int 1))) (.cst (.int 1))))]) (.var 1))] [],
  .put (.var 0) (.cst (.int 2)) (.bin .mod (.bin .add (.bin .mul (.idx (.var 0) (.cst (.int 2))) (.cst (.int 40692))) (.cst (.int 23))) (.cst (.int 2147483647))),
  .ret (.bin .mod (.bin .fdiv (.blt .int [(.idx (.var 0) (.cst (.int 2)))]) (.cst (.int 71))) (.var 1))]
/-- _law_shuffled -/
def b34 : List CS := [
  .set 2 (.lrng (.rng1 (.var 1))),
  .set 3 (.lst []),
  .for (.nm 4) (.rng1 (.var 1)) [
    .exp (.app (.var 3) (.met .popAt (.var 2) [(.call 33 [(.var 0), (.blt .len [(.var 2)])])]))],
  .ret (.var 3)]
/-- _law_names -/
def b35 : List CS := [
  .set 3 (.bin .add (.cst (.int 10)) (.call 33 [(.var 0), (.cst (.int 60))])),
  .set 4 (.lst []),
  .for (.nm 5) (.rng1 (.var 1)) [
    .exp (.app (.var 4) (.bin .add (.bin .add (.idx (.var 2) (.call 33 [(.var 0), (.blt .len [(.var 2)])])) (.blt .str [(.bin .add (.var 3) (.var 5))])) (.idx (.lst [(.cst (.str "")), (.cst (.str "y")), (.cst (.str "0z"))]) (.call 33 [(.var 0), (.cst (.int 3))]))))],
  .ret (.blt .sorted [(.var 4)])]
/-- _law_tie -/
def b36 : List CS := [
  .set 3 (.call 33 [(.var 0), (.cst (.int 8))]),
  .ifs (.cmp .gt (.var 3) (.cst (.int 5))) [
    .set 2 (.bin .add (.var 2) (.bin .mul (.bin .mul (.var 1) (.bin .add (.cst (.int 1)) (.call 33 [(.var 0), (.cst (.int 4))]))) (.bin .sub (.cst (.int 1)) (.bin .mul (.cst (.int 2)) (.call 33 [(.var 0), (.cst (.int 2))])))))] [],
  .set 4 (.bin .sub (.var 2) (.call 33 [(.var 0), (.bin .add (.bin .mul (.cst (.int 2)) (.var 1)) (.cst (.int 1)))])),
  .set 5 (.bin .add (.var 2) (.call 33 [(.var 0), (.bin .add (.bin .mul (.cst (.int 2)) (.var 1)) (.cst (.int 1)))])),
  .ifs (.cmp .eq (.var 3) (.cst (.int 0))) [
    .set 4 (.cst .non)] [],
  .ifs (.cmp .eq (.var 3) (.cst (.int 1))) [
    .set 5 (.cst .non)] [],
  .ifs (.and (.cmp .eq (.var 3) (.cst (.int 2))) (.cmp .eq (.call 33 [(.var 0), (.cst (.int 2))]) (.cst (.int 0)))) [
    .set 4 (.cst .non),
    .set 5 (.cst .non)] [],
  .ret (.tup [(.var 4), (.var 5)])]
/-- _law_chart -/
def b37 : List CS := [
  .set 3 (.bin .add (.cst (.int 1)) (.call 33 [(.var 0), (.cst (.int 6))])),
  .set 4 (.call 35 [(.var 0), (.var 1), (.cst (.str "afglnv"))]),
  .set 5 (.call 35 [(.var 0), (.var 2), (.cst (.str "cekmt"))]),
  .set 6 (.lc [15] (.nm 15) (.val (.var 4)) none (.call 33 [(.var 0), (.var 3)])),
  .set 7 (.lc [16] (.nm 16) (.val (.var 6)) none (.bin .add (.var 16) (.bin .mul (.var 3) (.bin .sub (.call 33 [(.var 0), (.cst (.int 5))]) (.cst (.int 2)))))),
  .set 8 (.lst []),
  .for (.nm 9) (.val (.var 5)) [
    .set 10 (.call 33 [(.var 0), (.var 1)]),
    .set 11 (.bin .mod (.bin .add (.bin .add (.var 10) (.cst (.int 1))) (.call 33 [(.var 0), (.bin .sub (.var 1) (.cst (.int 1)))])) (.var 1)),
    .set 12 (.blt .min2 [(.var 10), (.var 11)]),
    .set 13 (.blt .max2 [(.var 10), (.var 11)]),
    .asg (.tp [(.nm 17), (.nm 18)]) (.call 36 [(.var 0), (.var 3), (.bin .sub (.idx (.var 7) (.var 13)) (.idx (.var 7) (.var 12)))]),
    .set 14 (.tup []),
    .ifs (.cmp .eq (.call 33 [(.var 0), (.cst (.int 4))]) (.cst (.int 0))) [
      .set 14 (.tup [(.tup [(.bin .sub (.call 33 [(.var 0), (.cst (.int 9))]) (.cst (.int 4))), (.cst (.int 1)), (.cst (.int 2))])])] [],
    .exp (.app (.var 8) (.tup [(.var 9), (.idx (.var 4) (.var 12)), (.idx (.var 4) (.var 13)), (.var 17), (.var 18), (.var 14)]))],
  .ret (.tup [(.var 3), (.blt .tuple [(.lc [19] (.nm 19) (.rng1 (.var 1)) none (.tup [(.idx (.var 4) (.var 19)), (.idx (.var 6) (.var 19))]))]), (.blt .tuple [(.var 8)])])]
/-- _law_bundle -/
def b38 : List CS := [
  .set 3 (.lst [(.call 33 [(.var 0), (.var 2)]), (.call 33 [(.var 0), (.var 2)])]),
  .set 4 (.call 34 [(.var 0), (.blt .len [(.var 1)])]),
  .set 5 (.lc [6] (.nm 6) (.rng1 (.blt .len [(.var 1)])) none (.tup [(.bin .add (.cst (.str "k")) (.blt .str [(.bin .add (.cst (.int 10)) (.var 6))])), (.cst (.str "n1")), (.cst (.str "n2")), (.cst (.int 0)), (.idx (.var 1) (.idx (.var 4) (.var 6))), (.tup [])])),
  .ret (.tup [(.var 2), (.tup [(.tup [(.cst (.str "n1")), (.idx (.var 3) (.cst (.int 0)))]), (.tup [(.cst (.str "n2")), (.idx (.var 3) (.cst (.int 1)))])]), (.blt .tuple [(.var 5)])])]
/-- _law_legs -/
def b39 : List CS := [
  .set 2 (.lc [8] (.nm 8) (.val (.idx (.var 0) (.cst (.int 1)))) none (.idx (.var 8) (.cst (.int 0)))),
  .set 3 (.lst []),
  .for (.nm 4) (.rng1 (.blt .len [(.idx (.var 0) (.cst (.int 2)))])) [
    .asg (.tp [(.nm 9), (.nm 10), (.nm 11), (.nm 12), (.nm 13), (.nm 14)]) (.idx (.idx (.var 0) (.cst (.int 2))) (.var 4)),
    .set 5 (.met .index (.var 2) [(.var 10)]),
    .set 6 (.met .index (.var 2) [(.var 11)]),
    .set 7 (.blt .int [(.bin .sub (.idx (.idx (.idx (.var 0) (.cst (.int 1))) (.var 6)) (.cst (.int 1))) (.idx (.idx (.idx (.var 0) (.cst (.int 1))) (.var 5)) (.cst (.int 1))))]),
    .ifs (.and (.cmp .notIn (.var 4) (.var 1)) (.cmp .notN (.var 13) (.cst .non))) [
      .exp (.app (.var 3) (.tup [(.var 5), (.var 6), (.bin .sub (.var 13) (.bin .mod (.blt .int [(.bin .sub (.var 13) (.var 7))]) (.idx (.var 0) (.cst (.int 0))))), (.var 4), (.cst (.int 0))]))] [],
    .ifs (.and (.cmp .notIn (.var 4) (.var 1)) (.cmp .notN (.var 12) (.cst .non))) [
      .exp (.app (.var 3) (.tup [(.var 6), (.var 5), (.neg (.bin .add (.var 12) (.bin .mod (.blt .int [(.bin .sub (.var 7) (.var 12))]) (.idx (.var 0) (.cst (.int 0)))))), (.var 4), (.cst (.int 1))]))] []],
  .ret (.var 3)]
/-- _law_table -/
def b40 : List CS := [
  .set 2 (.lst []),
  .for (.nm 3) (.rng1 (.var 0)) [
    .set 5 (.bin .mul (.lst [(.cst .non)]) (.var 0)),
    .put (.var 5) (.var 3) (.cst (.int 0)),
    .exp (.app (.var 2) (.var 5))],
  .for (.tp [(.nm 6), (.nm 7), (.nm 8), (.nm 9), (.nm 10)]) (.val (.var 1)) [
    .ifs (.or (.cmp .isN (.idx (.idx (.var 2) (.var 6)) (.var 7)) (.cst .non)) (.cmp .lt (.var 8) (.idx (.idx (.var 2) (.var 6)) (.var 7)))) [
      .put (.idx (.var 2) (.var 6)) (.var 7) (.var 8)] []],
  .for (.nm 4) (.rng1 (.var 0)) [
    .for (.nm 11) (.rng1 (.var 0)) [
      .for (.nm 12) (.rng1 (.var 0)) [
        .ifs (.and (.cmp .notN (.idx (.idx (.var 2) (.var 11)) (.var 4)) (.cst .non)) (.cmp .notN (.idx (.idx (.var 2) (.var 4)) (.var 12)) (.cst .non))) [
          .set 13 (.bin .add (.idx (.idx (.var 2) (.var 11)) (.var 4)) (.idx (.idx (.var 2) (.var 4)) (.var 12))),
          .ifs (.or (.cmp .isN (.idx (.idx (.var 2) (.var 11)) (.var 12)) (.cst .non)) (.cmp .lt (.var 13) (.idx (.idx (.var 2) (.var 11)) (.var 12)))) [
            .put (.idx (.var 2) (.var 11)) (.var 12) (.var 13)] []] []]],
    .ifs (.cmp .lt (.idx (.idx (.var 2) (.var 4)) (.var 4)) (.cst (.int 0))) [
      .ret (.cst .non)] []],
  .for (.nm 3) (.rng1 (.var 0)) [
    .ifs (.cmp .lt (.idx (.idx (.var 2) (.var 3)) (.var 3)) (.cst (.int 0))) [
      .ret (.cst .non)] []],
  .ret (.var 2)]
/-- _law_lots -/
def b41 : List CS := [
  .set 2 (.lc [8] (.nm 8) (.rng1 (.blt .len [(.idx (.var 0) (.cst (.int 2)))])) (some (.or (.cmp .notN (.idx (.idx (.idx (.var 0) (.cst (.int 2))) (.var 8)) (.cst (.int 3))) (.cst .non)) (.cmp .notN (.idx (.idx (.idx (.var 0) (.cst (.int 2))) (.var 8)) (.cst (.int 4))) (.cst .non)))) (.var 8)),
  .set 3 (.lst [(.tup [])]),
  .set 4 (.lst [(.tup [])]),
  .for (.nm 5) (.rng1 (.var 1)) [
    .set 6 (.lst []),
    .for (.nm 7) (.val (.var 4)) [
      .for (.nm 8) (.val (.var 2)) [
        .ifs (.or (.cmp .eq (.blt .len [(.var 7)]) (.cst (.int 0))) (.cmp .gt (.var 8) (.idx (.var 7) (.neg (.cst (.int 1)))))) [
          .exp (.app (.var 6) (.bin .add (.var 7) (.tup [(.var 8)])))] []]],
    .set 3 (.bin .add (.var 3) (.var 6)),
    .set 4 (.var 6)],
  .ret (.var 3)]
/-- _law_greatest -/
def b42 : List CS := [
  .set 4 (.lc [11] (.nm 11) (.val (.idx (.var 0) (.cst (.int 1)))) none (.idx (.var 11) (.cst (.int 0)))),
  .set 5 (.met .index (.var 4) [(.var 1)]),
  .set 6 (.met .index (.var 4) [(.var 2)]),
  .set 7 (.cst .non),
  .set 8 (.tup []),
  .for (.nm 9) (.val (.call 41 [(.var 0), (.var 3)])) [
    .set 10 (.call 40 [(.blt .len [(.var 4)]), (.call 39 [(.var 0), (.var 9)])]),
    .ifs (.cmp .notN (.var 10) (.cst .non)) [
      .ifs (.cmp .isN (.idx (.idx (.var 10) (.var 5)) (.var 6)) (.cst .non)) [
        .ret (.tup [(.cst (.str "endless"))])] [],
      .ifs (.or (.cmp .isN (.var 7) (.cst .non)) (.cmp .gt (.idx (.idx (.var 10) (.var 5)) (.var 6)) (.var 7))) [
        .set 7 (.idx (.idx (.var 10) (.var 5)) (.var 6)),
        .set 8 (.var 9)] []] []],
  .ifs (.cmp .isN (.var 7) (.cst .non)) [
    .ret (.tup [(.cst (.str "none"))])] [],
  .ret (.tup [(.cst (.str "greatest")), (.var 7), (.var 8)])]
/-- _law_integer -/
def b43 : List CS := [
  .ret (.and (.isin .int (.var 0)) (.not (.isin .bool (.var 0))))]
/-- _law_broken -/
def b44 : List CS := [
  .set 2 (.lc [11] (.nm 11) (.val (.idx (.var 0) (.cst (.int 1)))) none (.idx (.var 11) (.cst (.int 0)))),
  .set 3 (.cst (.int 0)),
  .for (.tp [(.nm 4), (.nm 5), (.nm 6), (.nm 7), (.nm 8), (.nm 9)]) (.val (.idx (.var 0) (.cst (.int 2)))) [
    .set 10 (.bin .sub (.idx (.var 1) (.met .index (.var 2) [(.var 6)])) (.idx (.var 1) (.met .index (.var 2) [(.var 5)]))),
    .set 3 (.bin .add (.var 3) (.blt .int [(.or (.and (.cmp .notN (.var 7) (.cst .non)) (.cmp .lt (.var 10) (.var 7))) (.and (.cmp .notN (.var 8) (.cst .non)) (.cmp .gt (.var 10) (.var 8))))]))],
  .ret (.var 3)]
/-- _law_right -/
def b45 : List CS := [
  .ifs (.or (.not (.tru (.isin .tuple (.var 1)))) (.cmp .ne (.blt .len [(.var 1)]) (.blt .len [(.idx (.var 0) (.cst (.int 1)))]))) [
    .ret (.cst (.bl false))] [],
  .for (.nm 2) (.rng1 (.blt .len [(.var 1)])) [
    .ifs (.or (.not (.tru (.call 43 [(.idx (.var 1) (.var 2))]))) (.cmp .ne (.bin .mod (.blt .int [(.bin .sub (.idx (.var 1) (.var 2)) (.idx (.idx (.idx (.var 0) (.cst (.int 1))) (.var 2)) (.cst (.int 1))))]) (.idx (.var 0) (.cst (.int 0)))) (.cst (.int 0)))) [
      .ret (.cst (.bl false))] []],
  .ret (.cst (.bl true))]
/-- _law_says -/
def b46 : List CS := [
  .ret (.and (.isin .bool (.var 0)) (.cmp .eq (.var 0) (.var 1)))]
/-- _law_same -/
def b47 : List CS := [
  .set 2 (.lst [(.tup [(.var 0), (.var 1)])]),
  .whl (.tru (.var 2)) [
    .asg (.tp [(.nm 3), (.nm 4)]) (.met .pop (.var 2) []),
    .ifs (.tru (.isin .tuple (.var 4))) [
      .ifs (.or (.not (.tru (.isin .tuple (.var 3)))) (.cmp .ne (.blt .len [(.var 3)]) (.blt .len [(.var 4)]))) [
        .ret (.cst (.bl false))] [],
      .for (.nm 5) (.rng1 (.blt .len [(.var 4)])) [
        .exp (.app (.var 2) (.tup [(.idx (.var 3) (.var 5)), (.idx (.var 4) (.var 5))]))]] [
      .ifs (.tru (.isin .str (.var 4))) [
        .ifs (.or (.not (.tru (.isin .str (.var 3)))) (.cmp .ne (.var 3) (.var 4))) [
          .ret (.cst (.bl false))] []] [
        .ifs (.cmp .isN (.var 4) (.cst .non)) [
          .ifs (.cmp .notN (.var 3) (.cst .non)) [
            .ret (.cst (.bl false))] []] [
          .ifs (.or (.not (.tru (.call 43 [(.var 3)]))) (.cmp .ne (.var 3) (.var 4))) [
            .ret (.cst (.bl false))] []]]]],
  .ret (.cst (.bl true))]
/-- _law_told -/
def b48 : List CS := [
  .set 5 (.call 31 [(.var 0), (.var 1), (.var 2), (.var 3)]),
  .ifs (.or (.not (.tru (.isin .tuple (.var 5)))) (.or (.cmp .eq (.blt .len [(.var 5)]) (.cst (.int 0))) (.not (.tru (.isin .str (.idx (.var 5) (.cst (.int 0)))))))) [
    .ret (.cst (.bl false))] [],
  .ifs (.tru (.isin .str (.var 4))) [
    .ret (.and (.cmp .eq (.blt .len [(.var 5)]) (.cst (.int 1))) (.cmp .eq (.idx (.var 5) (.cst (.int 0))) (.var 4)))] [],
  .ifs (.or (.cmp .ne (.blt .len [(.var 5)]) (.cst (.int 3))) (.or (.cmp .ne (.idx (.var 5) (.cst (.int 0))) (.cst (.str "greatest"))) (.or (.not (.tru (.call 43 [(.idx (.var 5) (.cst (.int 1)))]))) (.cmp .ne (.idx (.var 5) (.cst (.int 1))) (.var 4))))) [
    .ret (.cst (.bl false))] [],
  .ifs (.or (.not (.tru (.call 45 [(.var 0), (.idx (.var 5) (.cst (.int 2)))]))) (.cmp .gt (.call 44 [(.var 0), (.idx (.var 5) (.cst (.int 2)))]) (.var 3))) [
    .ret (.cst (.bl false))] [],
  .set 6 (.lc [8] (.nm 8) (.val (.idx (.var 0) (.cst (.int 1)))) none (.idx (.var 8) (.cst (.int 0)))),
  .ifs (.cmp .ne (.bin .sub (.idx (.idx (.var 5) (.cst (.int 2))) (.met .index (.var 6) [(.var 2)])) (.idx (.idx (.var 5) (.cst (.int 2))) (.met .index (.var 6) [(.var 1)]))) (.var 4)) [
    .ret (.cst (.bl false))] [],
  .ifs (.cmp .gt (.blt .max1 [(.lc [9] (.nm 9) (.val (.idx (.var 5) (.cst (.int 2)))) none (.blt .abs [(.var 9)]))]) (.bin .pow (.cst (.int 10)) (.cst (.int 6)))) [
    .ret (.cst (.bl true))] [],
  .for (.nm 7) (.rng1 (.cst (.int 3))) [
    .ifs (.not (.tru (.call 46 [(.call 28 [(.var 0), (.idx (.var 5) (.cst (.int 2))), (.var 7)]), (.cmp .le (.call 44 [(.var 0), (.idx (.var 5) (.cst (.int 2)))]) (.var 7))]))) [
      .ret (.cst (.bl false))] []],
  .ret (.cst (.bl true))]
/-- _law_struck -/
def b49 : List CS := [
  .set 2 (.lst []),
  .for (.nm 3) (.rng1 (.blt .len [(.idx (.var 0) (.cst (.int 2)))])) [
    .asg (.tp [(.nm 4), (.nm 5), (.nm 6), (.nm 7), (.nm 8), (.nm 9)]) (.idx (.idx (.var 0) (.cst (.int 2))) (.var 3)),
    .ifs (.cmp .in_ (.var 3) (.var 1)) [
      .set 7 (.cst .non),
      .set 8 (.cst .non)] [],
    .exp (.app (.var 2) (.tup [(.var 4), (.var 5), (.var 6), (.var 7), (.var 8), (.var 9)]))],
  .ret (.tup [(.idx (.var 0) (.cst (.int 0))), (.idx (.var 0) (.cst (.int 1))), (.blt .tuple [(.var 2)])])]
/-- _law_asked -/
def b50 : List CS := [
  .for (.nm 4) (.rng1 (.cst (.int 3))) [
    .set 10 (.call 42 [(.var 1), (.var 2), (.var 3), (.var 4)]),
    .set 11 (.idx (.var 10) (.cst (.int 0))),
    .ifs (.cmp .eq (.var 11) (.cst (.str "greatest"))) [
      .set 11 (.idx (.var 10) (.cst (.int 1)))] [],
    .ifs (.not (.tru (.call 48 [(.var 1), (.var 2), (.var 3), (.var 4), (.var 11)]))) [
      .ret (.cst (.bl false))] []],
  .set 5 (.blt .tuple [(.lc [14] (.nm 14) (.rng1 (.blt .len [(.idx (.var 1) (.cst (.int 2)))])) (some (.cmp .eq (.call 33 [(.var 0), (.cst (.int 3))]) (.cst (.int 0)))) (.var 14))]),
  .set 6 (.call 49 [(.var 1), (.var 5)]),
  .ifs (.not (.tru (.call 47 [(.call 27 [(.var 1), (.var 5)]), (.var 6)]))) [
    .ret (.cst (.bl false))] [],
  .set 7 (.lc [13] (.nm 13) (.val (.idx (.var 1) (.cst (.int 1)))) none (.idx (.var 13) (.cst (.int 0)))),
  .set 8 (.call 40 [(.blt .len [(.var 7)]), (.call 39 [(.var 1), (.var 5)])]),
  .ifs (.cmp .notN (.var 8) (.cst .non)) [
    .set 10 (.idx (.idx (.var 8) (.met .index (.var 7) [(.var 2)])) (.met .index (.var 7) [(.var 3)])),
    .set 12 (.call 16 [(.var 6), (.var 2), (.var 3)]),
    .ifs (.or (.and (.cmp .isN (.var 10) (.cst .non)) (.cmp .notN (.var 12) (.cst .non))) (.and (.cmp .notN (.var 10) (.cst .non)) (.or (.not (.tru (.call 43 [(.var 12)]))) (.cmp .ne (.var 12) (.var 10))))) [
      .ret (.cst (.bl false))] []] [],
  .set 9 (.blt .tuple [(.lc [13] (.nm 13) (.val (.idx (.var 1) (.cst (.int 1)))) none (.bin .add (.idx (.var 13) (.cst (.int 1))) (.bin .mul (.idx (.var 1) (.cst (.int 0))) (.bin .sub (.call 33 [(.var 0), (.cst (.int 7))]) (.cst (.int 3))))))]),
  .for (.nm 4) (.rng1 (.cst (.int 3))) [
    .ifs (.not (.tru (.call 46 [(.call 28 [(.var 1), (.var 9), (.var 4)]), (.cmp .le (.call 44 [(.var 1), (.var 9)]) (.var 4))]))) [
      .ret (.cst (.bl false))] []],
  .ret (.cst (.bl true))]
/-- _law_bundled -/
def b51 : List CS := [
  .set 1 (.bin .add (.cst (.int 1)) (.call 33 [(.var 0), (.cst (.int 6))])),
  .set 2 (.lc [8] (.nm 8) (.rng1 (.bin .add (.cst (.int 1)) (.call 33 [(.var 0), (.cst (.int 5))]))) none (.bin .add (.var 1) (.call 33 [(.var 0), (.cst (.int 30))]))),
  .set 3 (.call 38 [(.var 0), (.var 2), (.var 1)]),
  .set 4 (.blt .int [(.bin .sub (.idx (.idx (.idx (.var 3) (.cst (.int 1))) (.cst (.int 1))) (.cst (.int 1))) (.idx (.idx (.idx (.var 3) (.cst (.int 1))) (.cst (.int 0))) (.cst (.int 1))))]),
  .set 5 (.blt .sorted [(.lc [9] (.nm 9) (.val (.var 2)) none (.bin .sub (.var 9) (.bin .mod (.blt .int [(.bin .sub (.var 9) (.var 4))]) (.var 1))))]),
  .for (.nm 6) (.rng1 (.cst (.int 3))) [
    .set 7 (.cst (.str "endless")),
    .ifs (.cmp .lt (.var 6) (.blt .len [(.var 5)])) [
      .set 7 (.idx (.var 5) (.var 6))] [],
    .ifs (.not (.tru (.call 48 [(.var 3), (.cst (.str "n1")), (.cst (.str "n2")), (.var 6), (.var 7)]))) [
      .ret (.cst (.bl false))] []],
  .ret (.cst (.bl true))]
/-- _law_clashing -/
def b52 : List CS := [
  .set 1 (.bin .add (.cst (.int 1)) (.call 33 [(.var 0), (.cst (.int 5))])),
  .set 2 (.bin .add (.cst (.int 1)) (.call 33 [(.var 0), (.cst (.int 5))])),
  .set 3 (.call 34 [(.var 0), (.var 2)]),
  .set 4 (.lst [(.call 33 [(.var 0), (.var 1)]), (.call 33 [(.var 0), (.var 1)])]),
  .set 5 (.bin .sub (.idx (.var 4) (.cst (.int 1))) (.idx (.var 4) (.cst (.int 0)))),
  .set 6 (.lst []),
  .for (.nm 7) (.rng1 (.var 2)) [
    .set 10 (.bin .add (.var 5) (.bin .mul (.var 1) (.bin .sub (.idx (.var 3) (.var 7)) (.cst (.int 1))))),
    .exp (.app (.var 6) (.tup [(.bin .add (.cst (.str "k")) (.blt .str [(.bin .add (.cst (.int 10)) (.var 7))])), (.cst (.str "n1")), (.cst (.str "n2")), (.var 10), (.var 10), (.tup [])]))],
  .set 8 (.tup [(.var 1), (.tup [(.tup [(.cst (.str "n1")), (.idx (.var 4) (.cst (.int 0)))]), (.tup [(.cst (.str "n2")), (.idx (.var 4) (.cst (.int 1)))])]), (.blt .tuple [(.var 6)])]),
  .for (.nm 9) (.rng1 (.cst (.int 3))) [
    .set 11 (.cst (.str "none")),
    .ifs (.cmp .le (.var 2) (.var 9)) [
      .set 11 (.cst (.str "endless"))] [
      .ifs (.cmp .eq (.var 2) (.bin .add (.var 9) (.cst (.int 1)))) [
        .set 11 (.bin .add (.var 5) (.bin .mul (.var 1) (.bin .sub (.var 2) (.cst (.int 2)))))] []],
    .ifs (.not (.tru (.call 48 [(.var 8), (.cst (.str "n1")), (.cst (.str "n2")), (.var 9), (.var 11)]))) [
      .ret (.cst (.bl false))] []],
  .ret (.cst (.bl true))]
/-- law -/
def b53 : List CS := [
  .set 1 (.call 32 [(.var 0)]),
  .set 2 (.bin .add (.cst (.int 2)) (.call 33 [(.var 1), (.cst (.int 4))])),
  .set 3 (.bin .add (.cst (.int 1)) (.call 33 [(.var 1), (.cst (.int 7))])),
  .ifs (.cmp .eq (.call 33 [(.var 1), (.cst (.int 13))]) (.cst (.int 8))) [
    .set 2 (.cst (.int 6)),
    .set 3 (.bin .add (.cst (.int 9)) (.call 33 [(.var 1), (.cst (.int 4))]))] [],
  .set 4 (.call 37 [(.var 1), (.var 2), (.var 3)]),
  .set 5 (.call 33 [(.var 1), (.var 2)]),
  .set 6 (.bin .mod (.bin .add (.bin .add (.var 5) (.cst (.int 1))) (.call 33 [(.var 1), (.bin .sub (.var 2) (.cst (.int 1)))])) (.var 2)),
  .ifs (.not (.tru (.call 50 [(.var 1), (.var 4), (.idx (.idx (.idx (.var 4) (.cst (.int 1))) (.var 5)) (.cst (.int 0))), (.idx (.idx (.idx (.var 4) (.cst (.int 1))) (.var 6)) (.cst (.int 0)))]))) [
    .ret (.cst (.bl false))] [],
  .ret (.and (.call 51 [(.var 1)]) (.call 52 [(.var 1)]))]
def cds : List CDef := [
  ⟨1, 3, b0⟩,
  ⟨1, 3, b1⟩,
  ⟨2, 2, b2⟩,
  ⟨1, 10, b3⟩,
  ⟨3, 4, b4⟩,
  ⟨2, 2, b5⟩,
  ⟨3, 3, b6⟩,
  ⟨1, 10, b7⟩,
  ⟨1, 6, b8⟩,
  ⟨2, 10, b9⟩,
  ⟨3, 8, b10⟩,
  ⟨2, 5, b11⟩,
  ⟨1, 1, b12⟩,
  ⟨1, 2, b13⟩,
  ⟨3, 10, b14⟩,
  ⟨3, 7, b15⟩,
  ⟨3, 3, b16⟩,
  ⟨2, 4, b17⟩,
  ⟨2, 4, b18⟩,
  ⟨2, 5, b19⟩,
  ⟨2, 5, b20⟩,
  ⟨2, 14, b21⟩,
  ⟨1, 1, b22⟩,
  ⟨4, 7, b23⟩,
  ⟨4, 9, b24⟩,
  ⟨4, 7, b25⟩,
  ⟨1, 1, b26⟩,
  ⟨2, 6, b27⟩,
  ⟨3, 3, b28⟩,
  ⟨1, 3, b29⟩,
  ⟨2, 8, b30⟩,
  ⟨4, 8, b31⟩,
  ⟨1, 6, b32⟩,
  ⟨2, 2, b33⟩,
  ⟨2, 5, b34⟩,
  ⟨3, 6, b35⟩,
  ⟨3, 6, b36⟩,
  ⟨3, 20, b37⟩,
  ⟨3, 7, b38⟩,
  ⟨2, 15, b39⟩,
  ⟨2, 14, b40⟩,
  ⟨2, 9, b41⟩,
  ⟨4, 12, b42⟩,
  ⟨1, 1, b43⟩,
  ⟨2, 12, b44⟩,
  ⟨2, 3, b45⟩,
  ⟨2, 2, b46⟩,
  ⟨2, 6, b47⟩,
  ⟨5, 10, b48⟩,
  ⟨2, 10, b49⟩,
  ⟨4, 15, b50⟩,
  ⟨1, 10, b51⟩,
  ⟨1, 12, b52⟩,
  ⟨1, 7, b53⟩]
end K76

namespace K76
open Mi
variable {w k : Nat}
theorem g0 : Gn cds w (k + 1) 0 = runD (Gn cds w k) w ⟨1, 3, b0⟩ := rfl
theorem g1 : Gn cds w (k + 1) 1 = runD (Gn cds w k) w ⟨1, 3, b1⟩ := rfl
theorem g2 : Gn cds w (k + 1) 2 = runD (Gn cds w k) w ⟨2, 2, b2⟩ := rfl
theorem g3 : Gn cds w (k + 1) 3 = runD (Gn cds w k) w ⟨1, 10, b3⟩ := rfl
theorem g4 : Gn cds w (k + 1) 4 = runD (Gn cds w k) w ⟨3, 4, b4⟩ := rfl
theorem g5 : Gn cds w (k + 1) 5 = runD (Gn cds w k) w ⟨2, 2, b5⟩ := rfl
theorem g6 : Gn cds w (k + 1) 6 = runD (Gn cds w k) w ⟨3, 3, b6⟩ := rfl
theorem g7 : Gn cds w (k + 1) 7 = runD (Gn cds w k) w ⟨1, 10, b7⟩ := rfl
theorem g8 : Gn cds w (k + 1) 8 = runD (Gn cds w k) w ⟨1, 6, b8⟩ := rfl
theorem g9 : Gn cds w (k + 1) 9 = runD (Gn cds w k) w ⟨2, 10, b9⟩ := rfl
theorem g10 : Gn cds w (k + 1) 10 = runD (Gn cds w k) w ⟨3, 8, b10⟩ := rfl
theorem g11 : Gn cds w (k + 1) 11 = runD (Gn cds w k) w ⟨2, 5, b11⟩ := rfl
theorem g12 : Gn cds w (k + 1) 12 = runD (Gn cds w k) w ⟨1, 1, b12⟩ := rfl
theorem g13 : Gn cds w (k + 1) 13 = runD (Gn cds w k) w ⟨1, 2, b13⟩ := rfl
theorem g14 : Gn cds w (k + 1) 14 = runD (Gn cds w k) w ⟨3, 10, b14⟩ := rfl
theorem g15 : Gn cds w (k + 1) 15 = runD (Gn cds w k) w ⟨3, 7, b15⟩ := rfl
theorem g16 : Gn cds w (k + 1) 16 = runD (Gn cds w k) w ⟨3, 3, b16⟩ := rfl
theorem g17 : Gn cds w (k + 1) 17 = runD (Gn cds w k) w ⟨2, 4, b17⟩ := rfl
theorem g18 : Gn cds w (k + 1) 18 = runD (Gn cds w k) w ⟨2, 4, b18⟩ := rfl
theorem g19 : Gn cds w (k + 1) 19 = runD (Gn cds w k) w ⟨2, 5, b19⟩ := rfl
theorem g20 : Gn cds w (k + 1) 20 = runD (Gn cds w k) w ⟨2, 5, b20⟩ := rfl
theorem g21 : Gn cds w (k + 1) 21 = runD (Gn cds w k) w ⟨2, 14, b21⟩ := rfl
theorem g22 : Gn cds w (k + 1) 22 = runD (Gn cds w k) w ⟨1, 1, b22⟩ := rfl
theorem g23 : Gn cds w (k + 1) 23 = runD (Gn cds w k) w ⟨4, 7, b23⟩ := rfl
theorem g24 : Gn cds w (k + 1) 24 = runD (Gn cds w k) w ⟨4, 9, b24⟩ := rfl
theorem g25 : Gn cds w (k + 1) 25 = runD (Gn cds w k) w ⟨4, 7, b25⟩ := rfl
theorem g26 : Gn cds w (k + 1) 26 = runD (Gn cds w k) w ⟨1, 1, b26⟩ := rfl
theorem g27 : Gn cds w (k + 1) 27 = runD (Gn cds w k) w ⟨2, 6, b27⟩ := rfl
theorem g28 : Gn cds w (k + 1) 28 = runD (Gn cds w k) w ⟨3, 3, b28⟩ := rfl
theorem g29 : Gn cds w (k + 1) 29 = runD (Gn cds w k) w ⟨1, 3, b29⟩ := rfl
theorem g30 : Gn cds w (k + 1) 30 = runD (Gn cds w k) w ⟨2, 8, b30⟩ := rfl
theorem g31 : Gn cds w (k + 1) 31 = runD (Gn cds w k) w ⟨4, 8, b31⟩ := rfl
theorem g32 : Gn cds w (k + 1) 32 = runD (Gn cds w k) w ⟨1, 6, b32⟩ := rfl
theorem g33 : Gn cds w (k + 1) 33 = runD (Gn cds w k) w ⟨2, 2, b33⟩ := rfl
theorem g34 : Gn cds w (k + 1) 34 = runD (Gn cds w k) w ⟨2, 5, b34⟩ := rfl
theorem g35 : Gn cds w (k + 1) 35 = runD (Gn cds w k) w ⟨3, 6, b35⟩ := rfl
theorem g36 : Gn cds w (k + 1) 36 = runD (Gn cds w k) w ⟨3, 6, b36⟩ := rfl
theorem g37 : Gn cds w (k + 1) 37 = runD (Gn cds w k) w ⟨3, 20, b37⟩ := rfl
theorem g38 : Gn cds w (k + 1) 38 = runD (Gn cds w k) w ⟨3, 7, b38⟩ := rfl
theorem g39 : Gn cds w (k + 1) 39 = runD (Gn cds w k) w ⟨2, 15, b39⟩ := rfl
theorem g40 : Gn cds w (k + 1) 40 = runD (Gn cds w k) w ⟨2, 14, b40⟩ := rfl
theorem g41 : Gn cds w (k + 1) 41 = runD (Gn cds w k) w ⟨2, 9, b41⟩ := rfl
theorem g42 : Gn cds w (k + 1) 42 = runD (Gn cds w k) w ⟨4, 12, b42⟩ := rfl
theorem g43 : Gn cds w (k + 1) 43 = runD (Gn cds w k) w ⟨1, 1, b43⟩ := rfl
theorem g44 : Gn cds w (k + 1) 44 = runD (Gn cds w k) w ⟨2, 12, b44⟩ := rfl
theorem g45 : Gn cds w (k + 1) 45 = runD (Gn cds w k) w ⟨2, 3, b45⟩ := rfl
theorem g46 : Gn cds w (k + 1) 46 = runD (Gn cds w k) w ⟨2, 2, b46⟩ := rfl
theorem g47 : Gn cds w (k + 1) 47 = runD (Gn cds w k) w ⟨2, 6, b47⟩ := rfl
theorem g48 : Gn cds w (k + 1) 48 = runD (Gn cds w k) w ⟨5, 10, b48⟩ := rfl
theorem g49 : Gn cds w (k + 1) 49 = runD (Gn cds w k) w ⟨2, 10, b49⟩ := rfl
theorem g50 : Gn cds w (k + 1) 50 = runD (Gn cds w k) w ⟨4, 15, b50⟩ := rfl
theorem g51 : Gn cds w (k + 1) 51 = runD (Gn cds w k) w ⟨1, 10, b51⟩ := rfl
theorem g52 : Gn cds w (k + 1) 52 = runD (Gn cds w k) w ⟨1, 12, b52⟩ := rfl
theorem g53 : Gn cds w (k + 1) 53 = runD (Gn cds w k) w ⟨1, 7, b53⟩ := rfl
end K76

set_option maxHeartbeats 1000000
/-! SP: legs with bounds: potentials, walks, going round by laps, tables. Plain things. -/
namespace SP
structure Lg where
  u : Nat
  v : Nat
  b : Int
inductive Wk (L : List Lg) : Nat → Nat → Int → Prop
  | nil (u : Nat) : Wk L u u 0
  | cons {l : Lg} {v : Nat} {c : Int} : l ∈ L → Wk L l.v v c → Wk L l.u v (l.b + c)
section
variable {L M : List Lg} {u v w : Nat} {b c : Int}
theorem Wk.trans (h : Wk L u v b) (k : Wk L v w c) : Wk L u w (b + c) := by
  induction h with
  | nil u => rw [Int.zero_add]; exact k
  | cons hl _ ih => rw [Int.add_assoc]; exact .cons hl (ih k)
theorem Wk.one {l : Lg} (h : l ∈ L) : Wk L l.u l.v l.b := by
  have := Wk.cons h (.nil l.v)
  rw [Int.add_zero] at this
  exact this
theorem Wk.snoc {l : Lg} (h : Wk L u l.u c) (hl : l ∈ L) : Wk L u l.v (c + l.b) := h.trans (.one hl)
theorem Wk.mono (s : ∀ l ∈ L, l ∈ M) (h : Wk L u v c) : Wk M u v c := by
  induction h with
  | nil u => exact .nil u
  | cons hl _ ih => exact .cons (s _ hl) ih
def Pot (L : List Lg) (p : Nat → Int) : Prop := ∀ l ∈ L, p l.v ≤ p l.u + l.b
theorem Pot.wk {p : Nat → Int} (P : Pot L p) (h : Wk L u v c) : p v ≤ p u + c := by
  induction h with
  | nil u => omega
  | cons hl _ ih =>
    have := P _ hl
    omega
def Neg (L : List Lg) : Prop := ∃ u c, Wk L u u c ∧ c < 0
theorem Pot.neg {p : Nat → Int} (P : Pot L p) : ¬ Neg L := fun ⟨u, c, h, hc⟩ => by
  have := P.wk h
  omega
end

/-! ### going round by laps -/
def up {α : Type} (f : Nat → α) (v : Nat) (x : α) : Nat → α := fun w => if w = v then x else f w
theorem up_same {α : Type} {f : Nat → α} {v : Nat} {x : α} : up f v x v = x := if_pos rfl
theorem up_ne {α : Type} {f : Nat → α} {v w : Nat} {x : α} (h : w ≠ v) : up f v x w = f w := if_neg h
structure St where
  d : Nat → Option Int
  bk : Nat → Option (Nat × Nat)
  fal : Option Nat
def Sat (d : Nat → Option Int) (l : Lg) : Prop := ∀ a, d l.u = some a → ∃ c, d l.v = some c ∧ c ≤ a + l.b
def better (d : Nat → Option Int) (l : Lg) : Bool := match d l.u with
  | none => false
  | some a => match d l.v with
    | none => true
    | some c => decide (a + l.b < c)
theorem not_better {d : Nat → Option Int} {l : Lg} (h : better d l = false) : Sat d l := fun a e => by
  unfold better at h
  rw [e] at h
  dsimp only at h
  split at h
  · cases h
  · rename_i c hc
    exact ⟨c, hc, by have := of_decide_eq_false h; omega⟩
theorem better_some {d : Nat → Option Int} {l : Lg} (h : better d l = true) : ∃ a, d l.u = some a ∧ ∀ c, d l.v = some c → a + l.b < c := by
  unfold better at h
  split at h
  · cases h
  · rename_i a ha
    refine ⟨a, ha, fun c hc => ?_⟩
    rw [hc] at h
    exact of_decide_eq_true h
def relax (i : Nat) (l : Lg) (s : St) : St := if better s.d l = true then ⟨up s.d l.v ((s.d l.u).map (· + l.b)), up s.bk l.v (some (l.u, i)), some l.v⟩ else s
def runL : Nat → List Lg → St → St
  | _, [], s => s
  | i, l :: r, s => runL (i + 1) r (relax i l s)
def lap (L : List Lg) (s : St) : St := runL 0 L ⟨s.d, s.bk, none⟩
def laps (L : List Lg) : Nat → St → St
  | 0, s => s
  | k + 1, s => if (lap L s).fal = none then lap L s else laps L k (lap L s)

structure Inv (L : List Lg) (d0 : Nat → Option Int) (k i : Nat) (s : St) (t : Nat → Nat) : Prop where
  bnd : ∀ v, t v ≤ k * L.length + i
  bk0 : ∀ v, s.bk v = none → t v = 0 ∧ s.d v = d0 v
  bk1 : ∀ v u j, s.bk v = some (u, j) → ∃ l, L[j]? = some l ∧ l.u = u ∧ l.v = v ∧ 1 ≤ t v ∧ t v ≤ t u + L.length ∧ ∃ a c, s.d u = some a ∧ s.d v = some c ∧ a + l.b ≤ c ∧ (t v ≤ t u → a + l.b < c)
  chk1 : ∀ j l, j < i → L[j]? = some l → t l.u ≤ k * L.length + j + 1 → Sat s.d l
  chk2 : ∀ j l, i ≤ j → 1 ≤ k → L[j]? = some l → t l.u + L.length ≤ k * L.length + j + 1 → Sat s.d l
  fal : ∀ f, s.fal = some f → k * L.length < t f
  fal0 : s.fal = none → ∀ j l, j < i → L[j]? = some l → Sat s.d l
section
variable {L : List Lg} {d0 : Nat → Option Int} {k i : Nat} {s : St} {t : Nat → Nat}
theorem Inv.start {s : St} (h1 : s.d = d0) (h2 : s.bk = fun _ => none) (h3 : s.fal = none) : Inv L d0 0 0 s (fun _ => 0) := by
  refine ⟨fun v => Nat.zero_le _, fun v _ => ⟨rfl, by rw [h1]⟩, fun v u j e => ?_, fun j l hj => absurd hj (Nat.not_lt_zero _), fun j l _ hk => absurd hk (by decide), fun f e => ?_, fun _ j l hj => absurd hj (Nat.not_lt_zero _)⟩
  · rw [h2] at e; cases e
  · rw [h3] at e; cases e
theorem Inv.step (I : Inv L d0 k i s t) {l : Lg} (hl : L[i]? = some l) (hne : l.u ≠ l.v) : ∃ t', Inv L d0 k (i + 1) (relax i l s) t' := by
  have hi : i < L.length := (List.getElem?_eq_some_iff.mp hl).1
  unfold relax
  cases hb : better s.d l with
  | false =>
    have hs := not_better hb
    rw [if_neg Bool.false_ne_true]
    refine ⟨t, fun v => by have := I.bnd v; omega, I.bk0, I.bk1, fun j l' hj e ht => ?_, fun j l' hj hk e ht => I.chk2 j l' (by omega) hk e ht, I.fal, fun hf j l' hj e => ?_⟩
    · by_cases z : j = i
      · subst z; rw [hl] at e; cases e; exact hs
      · exact I.chk1 j l' (by omega) e ht
    · by_cases z : j = i
      · subst z; rw [hl] at e; cases e; exact hs
      · exact I.fal0 hf j l' (by omega) e
  | true =>
    rw [if_pos rfl]
    obtain ⟨a, ha, hlt⟩ := better_some hb
    have hT : k * L.length + i + 1 ≤ t l.u + L.length := by
      by_cases hk : 1 ≤ k
      · apply Decidable.byContradiction
        intro z
        obtain ⟨c, hc, hle⟩ := I.chk2 i l (Nat.le_refl _) hk hl (by omega) a ha
        have := hlt c hc
        omega
      · have : k = 0 := by omega
        subst this
        rw [Nat.zero_mul]
        omega
    have da : ∀ {w : Nat} {c : Int}, s.d w = some c → ∃ c', (up s.d l.v ((s.d l.u).map (· + l.b))) w = some c' ∧ c' ≤ c := by
      intro w c hw
      by_cases z : w = l.v
      · subst z
        rw [up_same, ha]
        exact ⟨a + l.b, rfl, by have := hlt c hw; omega⟩
      · rw [up_ne z]
        exact ⟨c, hw, Int.le_refl _⟩
    have mono : ∀ l' : Lg, l'.u ≠ l.v → Sat s.d l' → Sat (up s.d l.v ((s.d l.u).map (· + l.b))) l' := fun l' hu hs b hb' => by
      rw [up_ne hu] at hb'
      obtain ⟨c, hc, hle⟩ := hs b hb'
      obtain ⟨c', hc', hle'⟩ := da hc
      exact ⟨c', hc', by omega⟩
    have self : Sat (up s.d l.v ((s.d l.u).map (· + l.b))) l := fun b hb' => by
      rw [up_ne hne, ha] at hb'
      cases hb'
      rw [up_same, ha]
      exact ⟨_, rfl, Int.le_refl _⟩
    refine ⟨up t l.v (k * L.length + i + 1), fun v => ?_, fun v hv => ?_, fun v u j hv => ?_, fun j l' hj e ht => ?_, fun j l' hj hk e ht => ?_, fun f hf => ?_, fun hf => (nomatch hf)⟩
    · by_cases z : v = l.v
      · subst z; rw [up_same]; omega
      · rw [up_ne z]; have := I.bnd v; omega
    · by_cases z : v = l.v
      · subst z
        dsimp only at hv
        rw [up_same] at hv
        cases hv
      · dsimp only at hv ⊢
        rw [up_ne z] at hv
        rw [up_ne z, up_ne z]
        exact I.bk0 v hv
    · dsimp only at hv ⊢
      by_cases z : v = l.v
      · subst z
        rw [up_same] at hv
        cases hv
        refine ⟨l, hl, rfl, rfl, by rw [up_same]; omega, by rw [up_same, up_ne hne]; omega, a, a + l.b, by rw [up_ne hne]; exact ha, by rw [up_same, ha]; rfl, Int.le_refl _, fun h => ?_⟩
        rw [up_same, up_ne hne] at h
        have := I.bnd l.u
        omega
      · rw [up_ne z] at hv
        obtain ⟨l', e1, e2, e3, e4, e5, a', c, h1, h2, h3, h4⟩ := I.bk1 v u j hv
        by_cases y : u = l.v
        · subst y
          have := hlt a' h1
          refine ⟨l', e1, e2, e3, by rw [up_ne z]; exact e4, by rw [up_ne z, up_same]; have := I.bnd l.v; omega, a + l.b, c, by rw [up_same, ha]; rfl, by rw [up_ne z]; exact h2, by omega, fun _ => by omega⟩
        · exact ⟨l', e1, e2, e3, by rw [up_ne z]; exact e4, by rw [up_ne z, up_ne y]; exact e5, a', c, by rw [up_ne y]; exact h1, by rw [up_ne z]; exact h2, h3, by rw [up_ne z, up_ne y]; exact h4⟩
    · dsimp only
      by_cases z : j = i
      · subst z; rw [hl] at e; cases e; exact self
      · by_cases y : l'.u = l.v
        · rw [y, up_same] at ht; omega
        · rw [up_ne y] at ht
          exact mono l' y (I.chk1 j l' (by omega) e ht)
    · dsimp only
      have hj2 : j < L.length := (List.getElem?_eq_some_iff.mp e).1
      by_cases y : l'.u = l.v
      · rw [y, up_same] at ht; omega
      · rw [up_ne y] at ht
        exact mono l' y (I.chk2 j l' (by omega) hk e ht)
    · cases hf
      rw [up_same]
      omega
theorem Inv.run (hne : ∀ l ∈ L, l.u ≠ l.v) : ∀ (r : List Lg) (j : Nat) (s2 : St) (t2 : Nat → Nat), j ≤ L.length → Inv L d0 k j s2 t2 → L.drop j = r → ∃ t', Inv L d0 k L.length (runL j r s2) t'
  | [], j, s2, t2, hj, I, e => by
    have h1 : j = L.length := by
      have := congrArg List.length e
      rw [List.length_drop, List.length_nil] at this
      omega
    subst h1
    exact ⟨t2, I⟩
  | l :: r, j, s2, t2, hj, I, e => by
    have hl : L[j]? = some l := by
      have := congrArg (fun x => x[0]?) e
      simpa using this
    obtain ⟨t', I'⟩ := I.step hl (hne l (List.mem_of_getElem? hl))
    refine Inv.run hne r (j + 1) _ t' (List.getElem?_eq_some_iff.mp hl).1 I' ?_
    rw [← List.drop_drop, e]
    rfl
theorem Inv.next (I : Inv L d0 k L.length s t) : Inv L d0 (k + 1) 0 ⟨s.d, s.bk, none⟩ t := by
  have hk : (k + 1) * L.length = k * L.length + L.length := Nat.succ_mul ..
  refine ⟨fun v => ?_, I.bk0, I.bk1, fun j l hj => absurd hj (Nat.not_lt_zero _), fun j l hj _ e ht => ?_, fun f hf => (nomatch hf), fun _ j l hj => absurd hj (Nat.not_lt_zero _)⟩
  · have := I.bnd v
    omega
  · exact I.chk1 j l (List.getElem?_eq_some_iff.mp e).1 e (by omega)
theorem Inv.lap (I : Inv L d0 k 0 ⟨s.d, s.bk, none⟩ t) (hne : ∀ l ∈ L, l.u ≠ l.v) : ∃ t', Inv L d0 k L.length (lap L s) t' := Inv.run hne L 0 _ t (Nat.zero_le _) I rfl
theorem laps_inv (hne : ∀ l ∈ L, l.u ≠ l.v) : ∀ (K k : Nat) (s : St) (t : Nat → Nat), Inv L d0 k 0 ⟨s.d, s.bk, none⟩ t → 0 < K → ∃ k' t', Inv L d0 k' L.length (laps L K s) t' ∧ ((laps L K s).fal = none ∨ k' + 1 = k + K)
  | 0, _, _, _, _, h => absurd h (Nat.lt_irrefl _)
  | K + 1, k, s, t, I, _ => by
    obtain ⟨t', I'⟩ := I.lap hne
    unfold laps
    split
    · rename_i hf
      exact ⟨k, t', I', .inl hf⟩
    · cases K with
      | zero => exact ⟨k, t', I', .inr rfl⟩
      | succ K =>
        obtain ⟨k', t2, I2, h2⟩ := laps_inv hne (K + 1) (k + 1) (SP.lap L s) t' I'.next (Nat.succ_pos _)
        exact ⟨k', t2, I2, h2.imp id fun h => by omega⟩

/-! ### a ring behind a fall -/
def par (s : St) (v : Nat) : Nat := match s.bk v with
  | some (u, _) => u
  | none => v
theorem par_of {s : St} {v u j : Nat} (e : s.bk v = some (u, j)) : par s v = u := by
  unfold par
  rw [e]
def it (f : Nat → Nat) : Nat → Nat → Nat
  | 0, x => x
  | m + 1, x => f (it f m x)
theorem it_add {f : Nat → Nat} {x : Nat} : ∀ (m n : Nat), it f (n + m) x = it f n (it f m x)
  | m, 0 => by rw [Nat.zero_add]; rfl
  | m, n + 1 => by rw [Nat.succ_add]; exact congrArg f (it_add m n)
/-- two of more things than there are numbers are the same -/
theorem pigeon : ∀ (n : Nat) (f : Nat → Nat), (∀ i, i ≤ n → f i < n) → ∃ i j, i < j ∧ j ≤ n ∧ f i = f j
  | 0, f, h => absurd (h 0 (Nat.le_refl _)) (Nat.not_lt_zero _)
  | n + 1, f, h => by
    by_cases z : ∃ i, i ≤ n ∧ f i = f (n + 1)
    · obtain ⟨i, hi, e⟩ := z
      exact ⟨i, n + 1, by omega, Nat.le_refl _, e⟩
    · -- the value of the last is moved
      let g : Nat → Nat := fun i => if f i = n then f (n + 1) else f i
      have hg : ∀ i, i ≤ n → g i < n := by
        intro i hi
        have h1 := h i (by omega)
        have h2 := h (n + 1) (Nat.le_refl _)
        show (if f i = n then f (n + 1) else f i) < n
        split
        · rename_i e
          have : f (n + 1) ≠ n := fun e2 => z ⟨i, hi, by omega⟩
          omega
        · omega
      obtain ⟨i, j, h1, h2, h3⟩ := pigeon n g hg
      refine ⟨i, j, h1, by omega, ?_⟩
      have h3 : (if f i = n then f (n + 1) else f i) = (if f j = n then f (n + 1) else f j) := h3
      by_cases a : f i = n
      · by_cases b : f j = n
        · omega
        · rw [if_pos a, if_neg b] at h3
          exact absurd ⟨j, h2, h3.symm⟩ z
      · by_cases b : f j = n
        · rw [if_neg a, if_pos b] at h3
          exact absurd ⟨i, by omega, h3⟩ z
        · rw [if_neg a, if_neg b] at h3
          exact h3
theorem Inv.t1 (I : Inv L d0 k i s t) {v : Nat} (h : 1 ≤ t v) : ∃ u j, s.bk v = some (u, j) := by
  cases e : s.bk v with
  | none =>
    have := (I.bk0 v e).1
    omega
  | some p => exact ⟨p.1, p.2, rfl⟩
theorem Inv.back (I : Inv L d0 k i s t) {f : Nat} (hf : k * L.length < t f) : ∀ m, m ≤ k → (k - m) * L.length < t (it (par s) m f)
  | 0, _ => hf
  | m + 1, hm => by
    have ih := I.back hf m (by omega)
    obtain ⟨u, j, e⟩ := I.t1 (show 1 ≤ t (it (par s) m f) by omega)
    obtain ⟨l, _, _, _, _, h, _⟩ := I.bk1 _ u j e
    have hp : it (par s) (m + 1) f = u := by
      exact par_of e
    rw [hp]
    have : (k - m) * L.length = (k - (m + 1)) * L.length + L.length := by
      rw [show k - m = (k - (m + 1)) + 1 by omega, Nat.succ_mul]
    omega
/-- a fall in the last of many laps: behind it lies a ring -/
structure RingAt (L : List Lg) (s : St) (x p : Nat) : Prop where
  pos : 0 < p
  per : it (par s) p x = x
  bk : ∀ m, ∃ u j l, s.bk (it (par s) m x) = some (u, j) ∧ L[j]? = some l ∧ l.u = u ∧ l.v = it (par s) m x
theorem Inv.ring (I : Inv L d0 k i s t) {f n : Nat} (hf : k * L.length < t f) (hn : n = k) (hu : ∀ l ∈ L, l.u < n ∧ l.v < n) : ∃ p, p ≤ n ∧ RingAt L s (it (par s) n f) p := by
  subst hn
  have ht : ∀ m, m ≤ n → 1 ≤ t (it (par s) m f) := fun m hm => by
    have := I.back hf m hm
    omega
  have hb : ∀ m, m ≤ n → ∃ u j l, s.bk (it (par s) m f) = some (u, j) ∧ L[j]? = some l ∧ l.u = u ∧ l.v = it (par s) m f := fun m hm => by
    obtain ⟨u, j, e⟩ := I.t1 (ht m hm)
    obtain ⟨l, e1, e2, e3, _⟩ := I.bk1 _ u j e
    exact ⟨u, j, l, e, e1, e2, e3⟩
  obtain ⟨a, b, h1, h2, h3⟩ := pigeon n (fun m => it (par s) m f) fun m hm => by
    obtain ⟨u, j, l, _, e1, _, e3⟩ := hb m hm
    have := (hu l (List.mem_of_getElem? e1)).2
    show it (par s) m f < n
    omega
  -- the stretch from a on comes again
  have per : ∀ m, a ≤ m → it (par s) (m + (b - a)) f = it (par s) m f := fun m hm => by
    have e1 : it (par s) (m + (b - a)) f = it (par s) (m - a) (it (par s) b f) := by
      rw [← it_add, show m - a + b = m + (b - a) by omega]
    rw [e1, ← h3, ← it_add, show m - a + a = m by omega]
  have low : ∀ m, ∃ m', m' ≤ n ∧ it (par s) m f = it (par s) m' f := by
    intro m
    induction m using Nat.strongRecOn with
    | _ m ih =>
      by_cases z : m ≤ n
      · exact ⟨m, z, rfl⟩
      · obtain ⟨m', q1, q2⟩ := ih (m - (b - a)) (by omega)
        refine ⟨m', q1, ?_⟩
        rw [← q2, ← per (m - (b - a)) (by omega), show m - (b - a) + (b - a) = m by omega]
  refine ⟨b - a, by omega, by omega, ?_, fun m => ?_⟩
  · rw [← it_add, Nat.add_comm]
    exact per n (by omega)
  · rw [← it_add]
    obtain ⟨m', q1, q2⟩ := low (m + n)
    rw [q2]
    exact hb m' q1
/-- the cost back round -/
def costB (L : List Lg) (s : St) (x : Nat) : Nat → Int
  | 0 => 0
  | m + 1 => ((s.bk (it (par s) m x)).bind fun p => (L[p.2]?).map (·.b)).getD 0 + costB L s x m
theorem RingAt.walk {x p : Nat} (R : RingAt L s x p) : ∀ m, Wk L (it (par s) m x) x (costB L s x m)
  | 0 => .nil x
  | m + 1 => by
    obtain ⟨u, j, l, e, e1, e2, e3⟩ := R.bk m
    have hp : it (par s) (m + 1) x = l.u := by
      rw [e2]
      exact par_of e
    unfold costB
    rw [hp, e]
    show Wk L l.u x ((L[j]?.map (·.b)).getD 0 + costB L s x m)
    rw [e1]
    have ih := R.walk m
    rw [← e3] at ih
    exact .cons (List.mem_of_getElem? e1) ih
theorem Inv.cost (I : Inv L d0 k i s t) {x p : Nat} (R : RingAt L s x p) : ∀ m, ∃ a c, s.d (it (par s) m x) = some a ∧ s.d x = some c ∧ costB L s x m ≤ c - a ∧ (0 < m → costB L s x m < c - a ∨ t (it (par s) m x) < t x)
  | 0 => by
    obtain ⟨u, j, l, e, e1, e2, e3⟩ := R.bk 0
    obtain ⟨l', _, _, _, _, _, a, c, h1, h2, _⟩ := I.bk1 _ u j e
    exact ⟨c, c, h2, h2, by show (0 : Int) ≤ _; omega, fun h => absurd h (Nat.lt_irrefl _)⟩
  | m + 1 => by
    obtain ⟨a, c, h1, h2, h3, h4⟩ := I.cost R m
    obtain ⟨u, j, l, e, e1, e2, e3⟩ := R.bk m
    obtain ⟨l', q1, q2, q3, q4, q5, a', c', r1, r2, r3, r4⟩ := I.bk1 _ u j e
    rw [e1] at q1
    cases q1
    rw [h1] at r2
    cases r2
    have hp : it (par s) (m + 1) x = u := by
      exact par_of e
    have hc : costB L s x (m + 1) = l.b + costB L s x m := by
      show ((s.bk (it (par s) m x)).bind fun p => (L[p.2]?).map (·.b)).getD 0 + costB L s x m = _
      rw [e]
      show ((L[j]?).map (·.b)).getD 0 + costB L s x m = _
      rw [e1]
      rfl
    refine ⟨a', c, by rw [hp]; exact r1, h2, by rw [hc]; omega, fun _ => ?_⟩
    rw [hp, hc]
    by_cases z : t (it (par s) m x) ≤ t u
    · have := r4 z
      exact .inl (by omega)
    · by_cases y : 0 < m
      · rcases h4 y with h4 | h4
        · exact .inl (by omega)
        · exact .inr (by omega)
      · have : m = 0 := by omega
        subst this
        refine .inr ?_
        show t u < t (it (par s) 0 x)
        omega
theorem Inv.ringNeg (I : Inv L d0 k i s t) {x p : Nat} (R : RingAt L s x p) {q : Nat} (hq : 0 < q) (hp : it (par s) q x = x) : costB L s x q < 0 := by
  obtain ⟨a, c, h1, h2, h3, h4⟩ := I.cost R q
  rw [hp] at h1 h4
  rw [h1] at h2
  cases h2
  rcases h4 hq with h4 | h4
  · omega
  · omega
theorem Inv.neg (I : Inv L d0 k i s t) {f n : Nat} (hf : k * L.length < t f) (hn : n = k) (hu : ∀ l ∈ L, l.u < n ∧ l.v < n) : Neg L := by
  obtain ⟨p, _, R⟩ := I.ring hf hn hu
  have h1 := I.ringNeg R R.pos R.per
  have h2 := R.walk p
  rw [R.per] at h2
  exact ⟨_, _, h2, h1⟩
end
end SP

set_option maxHeartbeats 1000000
/-! SP2: least sums from a place; tables of least sums. Plain things. -/
namespace SP
section
variable {L : List Lg} {s : St} {l : Lg} {i : Nat} {src : Nat}
theorem relax_wk (h : ∀ v c, s.d v = some c → Wk L src v c) (hl : l ∈ L) : ∀ v c, (relax i l s).d v = some c → Wk L src v c := by
  intro v c e
  unfold relax at e
  split at e
  · rename_i hb
    obtain ⟨a, ha, _⟩ := better_some hb
    dsimp only at e
    by_cases z : v = l.v
    · subst z
      rw [up_same, ha] at e
      cases e
      exact (h _ _ ha).snoc hl
    · rw [up_ne z] at e
      exact h v c e
  · exact h v c e
theorem relax_le {v : Nat} {c : Int} (h : s.d v = some c) : ∃ c', (relax i l s).d v = some c' ∧ c' ≤ c := by
  unfold relax
  split
  · rename_i hb
    obtain ⟨a, ha, hlt⟩ := better_some hb
    dsimp only
    by_cases z : v = l.v
    · subst z
      rw [up_same, ha]
      exact ⟨a + l.b, rfl, by have := hlt c h; omega⟩
    · rw [up_ne z]
      exact ⟨c, h, Int.le_refl _⟩
  · exact ⟨c, h, Int.le_refl _⟩
theorem runL_wk : ∀ (r : List Lg) (i : Nat) (s : St), (∀ l ∈ r, l ∈ L) → (∀ v c, s.d v = some c → Wk L src v c) → ∀ v c, (runL i r s).d v = some c → Wk L src v c
  | [], _, _, _, h => h
  | l :: r, i, s, hs, h => runL_wk r (i + 1) _ (fun l' hl => hs l' (List.mem_cons_of_mem _ hl)) (relax_wk h (hs l (List.mem_cons_self ..)))
theorem runL_le : ∀ (r : List Lg) (i : Nat) (s : St) {v : Nat} {c : Int}, s.d v = some c → ∃ c', (runL i r s).d v = some c' ∧ c' ≤ c
  | [], _, _, _, c, h => ⟨c, h, Int.le_refl _⟩
  | l :: r, i, s, v, c, h => by
    obtain ⟨c1, h1, l1⟩ := relax_le (i := i) (l := l) h
    obtain ⟨c2, h2, l2⟩ := runL_le r (i + 1) _ h1
    exact ⟨c2, h2, by omega⟩
/-- the least sum of a walk, none if there is none -/
def Dist (L : List Lg) (u v : Nat) (o : Option Int) : Prop := (∀ c, o = some c → Wk L u v c) ∧ ∀ c, Wk L u v c → ∃ e, o = some e ∧ e ≤ c
theorem Dist.uniq {u v : Nat} {o o' : Option Int} (a : Dist L u v o) (b : Dist L u v o') : o = o' := by
  cases o with
  | none =>
    cases o' with
    | none => rfl
    | some c =>
      obtain ⟨e, h, _⟩ := a.2 c (b.1 c rfl)
      cases h
  | some c =>
    obtain ⟨e, h, h1⟩ := b.2 c (a.1 c rfl)
    subst h
    obtain ⟨e', h', h2⟩ := a.2 e (b.1 e rfl)
    cases h'
    congr 1
    omega
theorem sat_wk {d : Nat → Option Int} (hs : ∀ l ∈ L, Sat d l) {u v : Nat} {c : Int} (w : Wk L u v c) : ∀ {a : Int}, d u = some a → ∃ e, d v = some e ∧ e ≤ a + c := by
  induction w with
  | nil u => exact fun {a} h => ⟨a, h, by omega⟩
  | cons hl _ ih =>
    intro a h
    obtain ⟨c1, h1, l1⟩ := hs _ hl a h
    obtain ⟨e, h2, l2⟩ := ih h1
    exact ⟨e, h2, by omega⟩
theorem sat_dist {d : Nat → Option Int} (h1 : ∀ v c, d v = some c → Wk L src v c) (h2 : ∃ e, d src = some e ∧ e ≤ 0) (h3 : ∀ l ∈ L, Sat d l) (v : Nat) : Dist L src v (d v) := by
  refine ⟨h1 v, fun c w => ?_⟩
  obtain ⟨e, he, hle⟩ := h2
  obtain ⟨e2, he2, hle2⟩ := sat_wk h3 w he
  exact ⟨e2, he2, by omega⟩
end

/-! ### tables -/
abbrev Mat := Nat → Nat → Option Int
def up2 (T : Mat) (i j : Nat) (x : Option Int) : Mat := fun a b => if a = i ∧ b = j then x else T a b
theorem up2_same {T : Mat} {i j : Nat} {x : Option Int} : up2 T i j x i j = x := if_pos ⟨rfl, rfl⟩
theorem up2_ne {T : Mat} {i j a b : Nat} {x : Option Int} (h : ¬ (a = i ∧ b = j)) : up2 T i j x a b = T a b := if_neg h
/-- a smaller sum is taken -/
def lowO (o : Option Int) (c : Int) : Option Int := match o with
  | none => some c
  | some e => if c < e then some c else some e
def low (T : Mat) (i j : Nat) (c : Int) : Mat := up2 T i j (lowO (T i j) c)
def stp (T : Mat) (k i j : Nat) : Mat := match T i k, T k j with
  | some a, some b => low T i j (a + b)
  | _, _ => T
theorem lowO_le {o : Option Int} {c : Int} : ∃ e, lowO o c = some e ∧ e ≤ c := by
  unfold lowO
  split
  · exact ⟨c, rfl, Int.le_refl _⟩
  · split
    · exact ⟨c, rfl, Int.le_refl _⟩
    · exact ⟨_, rfl, by omega⟩
theorem lowO_le2 {c e : Int} : ∃ e', lowO (some e) c = some e' ∧ e' ≤ e := by
  unfold lowO
  dsimp only
  split
  · exact ⟨c, rfl, by omega⟩
  · exact ⟨e, rfl, Int.le_refl _⟩
theorem lowO_or {o : Option Int} {c e : Int} (h : lowO o c = some e) : e = c ∨ o = some e := by
  unfold lowO at h
  split at h
  · cases h
    exact .inl rfl
  · split at h
    · cases h
      exact .inl rfl
    · exact .inr h
theorem stp_or (T : Mat) (k i j : Nat) : stp T k i j = T ∧ (T i k = none ∨ T k j = none) ∨ ∃ a b, T i k = some a ∧ T k j = some b ∧ stp T k i j = low T i j (a + b) := by
  unfold stp
  cases h1 : T i k with
  | none => exact .inl ⟨rfl, .inl rfl⟩
  | some a =>
    cases h2 : T k j with
    | none => exact .inl ⟨rfl, .inr rfl⟩
    | some b => exact .inr ⟨a, b, rfl, rfl, rfl⟩
def rowF (n k i : Nat) (T : Mat) : Mat := (List.range n).foldl (fun T j => stp T k i j) T
def midF (n k : Nat) (T : Mat) : Mat := (List.range n).foldl (fun T i => rowF n k i T) T
def WkM (L : List Lg) (T : Mat) : Prop := ∀ i j c, T i j = some c → Wk L i j c
def LeM (T T' : Mat) : Prop := ∀ i j c, T' i j = some c → ∃ e, T i j = some e ∧ e ≤ c
theorem LeM.refl {T : Mat} : LeM T T := fun i j c h => ⟨c, h, Int.le_refl _⟩
theorem LeM.trans {T T' T'' : Mat} (a : LeM T T') (b : LeM T' T'') : LeM T T'' := fun i j c h => by
  obtain ⟨e, h1, l1⟩ := b i j c h
  obtain ⟨e', h2, l2⟩ := a i j e h1
  exact ⟨e', h2, by omega⟩
section
variable {L : List Lg} {T T0 : Mat} {n k i j : Nat} {c : Int}
theorem low_wk (h : WkM L T) (w : Wk L i j c) : WkM L (low T i j c) := by
  intro a b e he
  unfold low at he
  by_cases z : a = i ∧ b = j
  · obtain ⟨rfl, rfl⟩ := z
    rw [up2_same] at he
    rcases lowO_or he with rfl | he
    · exact w
    · exact h a b e he
  · rw [up2_ne z] at he
    exact h a b e he
theorem low_le : LeM (low T i j c) T := by
  intro a b e he
  unfold low
  by_cases z : a = i ∧ b = j
  · obtain ⟨rfl, rfl⟩ := z
    rw [up2_same, he]
    exact lowO_le2
  · rw [up2_ne z]
    exact ⟨e, he, Int.le_refl _⟩
theorem low_at : ∃ e, low T i j c i j = some e ∧ e ≤ c := by
  unfold low
  rw [up2_same]
  exact lowO_le
theorem low_id {e : Int} (h : T i j = some e) (hc : ¬ c < e) : low T i j c = T := by
  funext a b
  unfold low
  by_cases z : a = i ∧ b = j
  · obtain ⟨rfl, rfl⟩ := z
    rw [up2_same, h]
    unfold lowO
    dsimp only
    rw [if_neg hc]
  · exact up2_ne z
theorem stp_wk (h : WkM L T) : WkM L (stp T k i j) := by
  rcases stp_or T k i j with ⟨e, _⟩ | ⟨a, b, h1, h2, e⟩
  · rw [e]; exact h
  · rw [e]; exact low_wk h ((h _ _ _ h1).trans (h _ _ _ h2))
theorem stp_le : LeM (stp T k i j) T := by
  rcases stp_or T k i j with ⟨e, _⟩ | ⟨a, b, h1, h2, e⟩
  · rw [e]; exact LeM.refl
  · rw [e]; exact low_le
theorem fold_wk {α : Type} {f : Mat → α → Mat} (hf : ∀ T x, WkM L T → WkM L (f T x)) : ∀ (xs : List α) (T : Mat), WkM L T → WkM L (xs.foldl f T)
  | [], _, h => h
  | x :: xs, T, h => fold_wk hf xs _ (hf T x h)
theorem fold_le {α : Type} {f : Mat → α → Mat} (hf : ∀ T x, LeM (f T x) T) : ∀ (xs : List α) (T : Mat), LeM (xs.foldl f T) T
  | [], _ => LeM.refl
  | x :: xs, T => (fold_le hf xs _).trans (hf T x)
theorem rowF_wk (h : WkM L T) : WkM L (rowF n k i T) := fold_wk (fun _ _ h => stp_wk h) _ _ h
theorem rowF_le : LeM (rowF n k i T) T := fold_le (fun _ _ => stp_le) _ _
theorem midF_wk (h : WkM L T) : WkM L (midF n k T) := fold_wk (fun _ _ h => rowF_wk h) _ _ h
theorem midF_le : LeM (midF n k T) T := fold_le (fun _ _ => rowF_le) _ _

/-- what a table becomes when all go by k -/
def mid (T0 : Mat) (k : Nat) : Mat := fun i j => match T0 i k, T0 k j with
  | some a, some b => lowO (T0 i j) (a + b)
  | _, _ => T0 i j
theorem mid_eq (T0 : Mat) (k i j : Nat) : mid T0 k i j = T0 i j ∧ (T0 i k = none ∨ T0 k j = none) ∨ ∃ a b, T0 i k = some a ∧ T0 k j = some b ∧ mid T0 k i j = lowO (T0 i j) (a + b) := by
  unfold mid
  cases h1 : T0 i k with
  | none => exact .inl ⟨rfl, .inl rfl⟩
  | some a =>
    cases h2 : T0 k j with
    | none => exact .inl ⟨rfl, .inr rfl⟩
    | some b => exact .inr ⟨a, b, rfl, rfl, rfl⟩
theorem mid_col (h : ∀ z, T0 k k = some z → 0 ≤ z) (i : Nat) : mid T0 k i k = T0 i k := by
  rcases mid_eq T0 k i k with ⟨e, _⟩ | ⟨a, b, h1, h2, e⟩
  · exact e
  · have := h b h2
    rw [e, h1]
    unfold lowO
    dsimp only
    rw [if_neg (by omega)]
theorem mid_row (h : ∀ z, T0 k k = some z → 0 ≤ z) (j : Nat) : mid T0 k k j = T0 k j := by
  rcases mid_eq T0 k k j with ⟨e, _⟩ | ⟨a, b, h1, h2, e⟩
  · exact e
  · have := h a h1
    rw [e, h2]
    unfold lowO
    dsimp only
    rw [if_neg (by omega)]
/-- how far it has come -/
def AtP (n k : Nat) (T0 : Mat) (i j : Nat) (T : Mat) : Prop := ∀ a b, T a b = if (a < i ∧ b < n) ∨ (a = i ∧ b < j) then mid T0 k a b else T0 a b
theorem AtP.step (hk : ∀ z, T0 k k = some z → 0 ≤ z) (h : AtP n k T0 i j T) (hj : j < n) : AtP n k T0 i (j + 1) (stp T k i j) := by
  have h1 : T i k = T0 i k := by
    rw [h i k]
    split
    · exact mid_col hk i
    · rfl
  have h2 : T k j = T0 k j := by
    rw [h k j]
    split
    · exact mid_row hk j
    · rfl
  have h3 : T i j = T0 i j := by
    rw [h i j, if_neg (by omega)]
  intro a b
  by_cases z : a = i ∧ b = j
  · obtain ⟨rfl, rfl⟩ := z
    rw [if_pos (by omega)]
    rcases stp_or T k a b with ⟨e, q⟩ | ⟨x, y, q1, q2, e⟩
    · rw [h1, h2] at q
      rcases mid_eq T0 k a b with ⟨e2, _⟩ | ⟨x, y, q1, q2, _⟩
      · rw [e, e2, h3]
      · rw [q1, q2] at q
        rcases q with q | q <;> cases q
    · rw [h1] at q1
      rw [h2] at q2
      rcases mid_eq T0 k a b with ⟨_, q⟩ | ⟨x', y', r1, r2, e2⟩
      · rw [q1, q2] at q
        rcases q with q | q <;> cases q
      · rw [q1] at r1
        rw [q2] at r2
        cases r1
        cases r2
        rw [e, e2]
        unfold low
        rw [up2_same, h3]
  · have e : stp T k i j a b = T a b := by
      rcases stp_or T k i j with ⟨e, _⟩ | ⟨x, y, _, _, e⟩
      · rw [e]
      · rw [e]
        exact up2_ne z
    rw [e, h a b]
    by_cases y : (a < i ∧ b < n) ∨ (a = i ∧ b < j)
    · rw [if_pos y, if_pos (by omega)]
    · rw [if_neg y, if_neg (by omega)]
theorem AtP.row (hk : ∀ z, T0 k k = some z → 0 ≤ z) (h : AtP n k T0 i 0 T) : AtP n k T0 (i + 1) 0 (rowF n k i T) := by
  have go : ∀ m, m ≤ n → AtP n k T0 i m ((List.range m).foldl (fun T j => stp T k i j) T) := by
    intro m
    induction m with
    | zero => exact fun _ => h
    | succ m ih =>
      intro hm
      rw [List.range_succ, List.foldl_append]
      exact (ih (by omega)).step hk (by omega)
  have := go n (Nat.le_refl _)
  intro a b
  rw [show rowF n k i T a b = _ from this a b]
  by_cases y : (a < i ∧ b < n) ∨ (a = i ∧ b < n)
  · rw [if_pos y, if_pos (by omega)]
  · rw [if_neg y, if_neg (by omega)]
theorem midF_eq (hk : ∀ z, T0 k k = some z → 0 ≤ z) {a b : Nat} (ha : a < n) (hb : b < n) : midF n k T0 a b = mid T0 k a b := by
  have go : ∀ m, m ≤ n → AtP n k T0 m 0 ((List.range m).foldl (fun T i => rowF n k i T) T0) := by
    intro m
    induction m with
    | zero => exact fun _ a b => by rw [if_neg (by omega)]; rfl
    | succ m ih =>
      intro hm
      rw [List.range_succ, List.foldl_append]
      exact (ih (by omega)).row hk
  rw [show midF n k T0 a b = _ from go n (Nat.le_refl _) a b, if_pos (by omega)]
/-- no way by one of the first k is smaller -/
def Tri (n k : Nat) (T : Mat) : Prop := ∀ m, m < k → ∀ i j, i < n → j < n → ∀ a b, T i m = some a → T m j = some b → ∃ c, T i j = some c ∧ c ≤ a + b
theorem mid_or {p : Int} (h : mid T0 k i j = some p) : T0 i j = some p ∨ ∃ x y, T0 i k = some x ∧ T0 k j = some y ∧ p = x + y := by
  rcases mid_eq T0 k i j with ⟨e, _⟩ | ⟨a, b, h1, h2, e⟩
  · exact .inl (e ▸ h)
  · rw [e] at h
    rcases lowO_or h with rfl | h
    · exact .inr ⟨a, b, h1, h2, rfl⟩
    · exact .inl h
theorem mid_le1 {c : Int} (h : T0 i j = some c) : ∃ p, mid T0 k i j = some p ∧ p ≤ c := by
  rcases mid_eq T0 k i j with ⟨e, _⟩ | ⟨a, b, h1, h2, e⟩
  · rw [e]; exact ⟨c, h, Int.le_refl _⟩
  · rw [e, h]; exact lowO_le2
theorem mid_le2 {x y : Int} (h1 : T0 i k = some x) (h2 : T0 k j = some y) : ∃ p, mid T0 k i j = some p ∧ p ≤ x + y := by
  rcases mid_eq T0 k i j with ⟨_, q⟩ | ⟨a, b, q1, q2, e⟩
  · rw [h1, h2] at q
    rcases q with q | q <;> cases q
  · rw [h1] at q1
    rw [h2] at q2
    cases q1
    cases q2
    rw [e]
    exact lowO_le
theorem Tri.mid (ht : Tri n k T0) (hkn : k < n) (hk : ∀ z, T0 k k = some z → 0 ≤ z) : Tri n (k + 1) (midF n k T0) := by
  intro m hm i j hi hj a b ha hb
  rw [midF_eq hk hi (by omega)] at ha
  rw [midF_eq hk (by omega) hj] at hb
  rw [midF_eq hk hi hj]
  by_cases z : m = k
  · subst z
    rw [mid_col hk] at ha
    rw [mid_row hk] at hb
    exact mid_le2 ha hb
  · have hm' : m < k := by omega
    rcases mid_or ha with ha | ⟨x, y, h1, h2, rfl⟩
    · rcases mid_or hb with hb | ⟨x2, y2, h3, h4, rfl⟩
      · obtain ⟨c, e, l⟩ := ht m hm' i j hi hj a b ha hb
        obtain ⟨p, e2, l2⟩ := mid_le1 (k := k) e
        exact ⟨p, e2, by omega⟩
      · obtain ⟨c, e, l⟩ := ht m hm' i k hi hkn a x2 ha h3
        obtain ⟨p, e2, l2⟩ := mid_le2 e h4
        exact ⟨p, e2, by omega⟩
    · rcases mid_or hb with hb | ⟨x2, y2, h3, h4, rfl⟩
      · obtain ⟨c, e, l⟩ := ht m hm' k j hkn hj y b h2 hb
        obtain ⟨p, e2, l2⟩ := mid_le2 h1 e
        exact ⟨p, e2, by omega⟩
      · obtain ⟨c, e, l⟩ := ht m hm' k k hkn hkn y x2 h2 h3
        have := hk c e
        obtain ⟨p, e2, l2⟩ := mid_le2 h1 h4
        exact ⟨p, e2, by omega⟩
/-- a table under way: sums of walks, at most the legs, no way by the first k smaller -/
structure Tab (L : List Lg) (n k : Nat) (T : Mat) : Prop where
  wk : WkM L T
  diag : ∀ i, i < n → ∃ e, T i i = some e ∧ e ≤ 0
  leg : ∀ l ∈ L, ∃ e, T l.u l.v = some e ∧ e ≤ l.b
  tri : Tri n k T
theorem Tab.mid (h : Tab L n k T) (hkn : k < n) (hk : ∀ z, T k k = some z → 0 ≤ z) : Tab L n (k + 1) (midF n k T) := by
  refine ⟨midF_wk h.wk, fun i hi => ?_, fun l hl => ?_, h.tri.mid hkn hk⟩
  · obtain ⟨e, h1, h2⟩ := h.diag i hi
    obtain ⟨e', h3, h4⟩ := midF_le i i e h1
    exact ⟨e', h3, by omega⟩
  · obtain ⟨e, h1, h2⟩ := h.leg l hl
    obtain ⟨e', h3, h4⟩ := midF_le _ _ e h1
    exact ⟨e', h3, by omega⟩
theorem Tab.neg (h : WkM L T) {z : Int} (e : T k k = some z) (hz : z < 0) : Neg L := ⟨k, z, h k k z e, hz⟩
theorem Tab.dist (h : Tab L n n T) (hu : ∀ l ∈ L, l.u < n ∧ l.v < n) {u v : Nat} (hu1 : u < n) (hv : v < n) : Dist L u v (T u v) := by
  refine ⟨h.wk u v, fun c w => ?_⟩
  induction w with
  | nil u => exact h.diag u hu1
  | cons hl _ ih =>
    obtain ⟨e, h1, l1⟩ := h.leg _ hl
    obtain ⟨e2, h2, l2⟩ := ih (hu _ hl).2 hv
    obtain ⟨c, h3, l3⟩ := h.tri _ (hu _ hl).2 _ _ hu1 hv e e2 h1 h2
    exact ⟨c, h3, by omega⟩
theorem wk_lt (hu : ∀ l ∈ L, l.u < n ∧ l.v < n) {u v : Nat} {c : Int} (w : Wk L u v c) (hc : c ≠ 0) : u < n := by
  cases w with
  | nil u => exact absurd rfl hc
  | cons hl _ => exact (hu _ hl).1
theorem Tab.free (h : Tab L n n T) (hu : ∀ l ∈ L, l.u < n ∧ l.v < n) (hd : ∀ i, i < n → ∀ z, T i i = some z → 0 ≤ z) : ¬ Neg L := fun ⟨u, c, w, hc⟩ => by
  have hun := wk_lt hu w (by omega)
  obtain ⟨e, h1, h2⟩ := (h.dist hu hun hun).2 c w
  have := hd u hun e h1
  omega
/-- the table to begin with -/
def tab0 : Mat := fun i j => if i = j then some 0 else none
def tabL (L : List Lg) (T : Mat) : Mat := L.foldl (fun T l => low T l.u l.v l.b) T
theorem tabL_ok : ∀ (r : List Lg) (T : Mat), (∀ l ∈ r, l ∈ L) → WkM L T → WkM L (tabL r T) ∧ LeM (tabL r T) T ∧ ∀ l ∈ r, ∃ e, tabL r T l.u l.v = some e ∧ e ≤ l.b
  | [], T, _, h => ⟨h, LeM.refl, fun l hl => nomatch hl⟩
  | l :: r, T, hs, h => by
    obtain ⟨h1, h2, h3⟩ := tabL_ok r (low T l.u l.v l.b) (fun l' hl => hs l' (List.mem_cons_of_mem _ hl)) (low_wk h (.one (hs l (List.mem_cons_self ..))))
    refine ⟨h1, h2.trans low_le, fun l' hl => ?_⟩
    rcases List.mem_cons.mp hl with rfl | hl
    · obtain ⟨e, e1, l1⟩ := low_at (T := T) (i := l'.u) (j := l'.v) (c := l'.b)
      obtain ⟨e', e2, l2⟩ := h2 _ _ e e1
      exact ⟨e', e2, by omega⟩
    · exact h3 l' hl
theorem tab_start : Tab L n 0 (tabL L tab0) := by
  have w0 : WkM L tab0 := fun i j c h => by
    unfold tab0 at h
    split at h
    · rename_i e
      subst e
      cases h
      exact .nil i
    · cases h
  obtain ⟨h1, h2, h3⟩ := tabL_ok (L := L) L tab0 (fun _ h => h) w0
  refine ⟨h1, fun i _ => ?_, h3, fun m hm => absurd hm (Nat.not_lt_zero _)⟩
  obtain ⟨e, e1, l1⟩ := h2 i i 0 (if_pos rfl)
  exact ⟨e, e1, l1⟩
end
end SP

set_option maxHeartbeats 1000000
/-! SP3: what laps from all zeros tell; differences held; turns. Plain things. -/
namespace SP
section
variable {L : List Lg} {d0 : Nat → Option Int} {k i : Nat} {s : St} {t : Nat → Nat}
theorem Inv.path (I : Inv L d0 k i s t) {f : Nat} (hf : k * L.length < t f) : ∀ m, m ≤ k → ∃ u j l, s.bk (it (par s) m f) = some (u, j) ∧ L[j]? = some l ∧ l.u = u ∧ l.v = it (par s) m f := fun m hm => by
  have h1 := I.back hf m hm
  obtain ⟨u, j, e⟩ := I.t1 (show 1 ≤ t (it (par s) m f) by omega)
  obtain ⟨l, e1, e2, e3, _⟩ := I.bk1 _ u j e
  exact ⟨u, j, l, e, e1, e2, e3⟩
/-- a fall in the last lap -/
structure Fallen (L : List Lg) (n : Nat) (s : St) (f : Nat) : Prop where
  path : ∀ m, m ≤ n → ∃ u j l, s.bk (it (par s) m f) = some (u, j) ∧ L[j]? = some l ∧ l.u = u ∧ l.v = it (par s) m f
  ring : ∃ p, p ≤ n ∧ RingAt L s (it (par s) n f) p
  cost : ∀ q, 0 < q → it (par s) q (it (par s) n f) = it (par s) n f → costB L s (it (par s) n f) q < 0
theorem Fallen.neg {n f : Nat} (F : Fallen L n s f) : Neg L := by
  obtain ⟨p, _, R⟩ := F.ring
  have h1 := F.cost p R.pos R.per
  have h2 := R.walk p
  rw [R.per] at h2
  exact ⟨_, _, h2, h1⟩
theorem laps_end (hne : ∀ l ∈ L, l.u ≠ l.v) {n : Nat} (hu : ∀ l ∈ L, l.u < n ∧ l.v < n) {s0 : St} (h0 : s0.bk = fun _ => none) :
    ((laps L (n + 1) s0).fal = none → ∀ l ∈ L, Sat (laps L (n + 1) s0).d l) ∧ ∀ f, (laps L (n + 1) s0).fal = some f → Fallen L n (laps L (n + 1) s0) f := by
  obtain ⟨k', t', I, h⟩ := laps_inv hne (n + 1) 0 s0 (fun _ => 0) (Inv.start (d0 := s0.d) rfl h0 rfl) (Nat.succ_pos _)
  refine ⟨fun hf l hl => ?_, fun f hf => ?_⟩
  · obtain ⟨j, hj⟩ := List.getElem?_of_mem hl
    exact I.fal0 hf j l (List.getElem?_eq_some_iff.mp hj).1 hj
  · rcases h with h | h
    · rw [h] at hf; cases hf
    · have hk : n = k' := by omega
      subst hk
      have ht := I.fal f hf
      obtain ⟨p, hp, R⟩ := I.ring ht rfl hu
      exact ⟨I.path ht, ⟨p, hp, R⟩, fun q hq e => I.ringNeg R hq e⟩
/-- the laps tell whether a ring bars -/
theorem laps_iff (hne : ∀ l ∈ L, l.u ≠ l.v) {n : Nat} (hu : ∀ l ∈ L, l.u < n ∧ l.v < n) : ((laps L (n + 1) ⟨fun _ => some 0, fun _ => none, none⟩).fal = none ↔ ¬ Neg L) := by
  obtain ⟨h1, h2⟩ := laps_end hne hu (s0 := ⟨fun _ => some 0, fun _ => none, none⟩) rfl
  constructor
  · intro hf
    have hs := h1 hf
    rintro ⟨u, c, w, hc⟩
    -- sums that all begin as told bear every walk
    have iso : ∀ v, ((laps L (n + 1) ⟨fun _ => some 0, fun _ => none, none⟩).d v).isSome = true := by
      have rl : ∀ {i : Nat} {l : Lg} {s : St}, (∀ v, (s.d v).isSome = true) → ∀ v, ((relax i l s).d v).isSome = true := by
        intro i l s hs v
        unfold relax
        split
        · dsimp only
          by_cases e : v = l.v
          · subst e
            rw [up_same]
            obtain ⟨a, ha⟩ := Option.isSome_iff_exists.mp (hs l.u)
            rw [ha]
            rfl
          · rw [up_ne e]
            exact hs v
        · exact hs v
      have rn : ∀ (r : List Lg) (i : Nat) (s : St), (∀ v, (s.d v).isSome = true) → ∀ v, ((runL i r s).d v).isSome = true := by
        intro r
        induction r with
        | nil => exact fun _ _ h => h
        | cons l r ih => exact fun i s h => ih (i + 1) _ (rl h)
      have rp : ∀ (K : Nat) (s : St), (∀ v, (s.d v).isSome = true) → ∀ v, ((laps L K s).d v).isSome = true := by
        intro K
        induction K with
        | zero => exact fun _ h => h
        | succ K ih =>
          intro s h
          unfold laps
          split
          · exact rn L 0 _ h
          · exact ih _ (rn L 0 _ h)
      exact rp _ _ fun _ => rfl
    obtain ⟨a, ha⟩ := Option.isSome_iff_exists.mp (iso u)
    obtain ⟨e, he, hle⟩ := sat_wk hs w ha
    rw [ha] at he
    cases he
    omega
  · intro hn
    cases e : (laps L (n + 1) ⟨fun _ => some 0, fun _ => none, none⟩).fal with
    | none => rfl
    | some f => exact absurd (h2 f e).neg hn
/-- told values that all legs keep -/
theorem pot_of {d : Nat → Option Int} (hs : ∀ l ∈ L, Sat d l) (hi : ∀ v, (d v).isSome = true) : Pot L fun v => (d v).getD 0 := fun l hl => by
  obtain ⟨a, ha⟩ := Option.isSome_iff_exists.mp (hi l.u)
  obtain ⟨c, hc, hle⟩ := hs l hl a ha
  dsimp only
  rw [ha, hc]
  exact hle
end

/-! ### a difference held -/
section
variable {L : List Lg}
theorem dist_of_pot {p : Nat → Int} (P : Pot L p) {u v : Nat} {c : Int} (w : Wk L u v c) (e : p v = p u + c) : Dist L u v (some c) :=
  ⟨fun c' h => by cases h; exact w, fun c' w' => ⟨c, rfl, by have := P.wk w'; omega⟩⟩
def held (L : List Lg) (f l : Nat) (x : Int) : List Lg := L ++ [⟨f, l, x⟩, ⟨l, f, -x⟩]
theorem pot_held {π : Nat → Int} (P : Pot L π) {f l : Nat} {x : Int} {D : Nat → Option Int} (hD : ∀ v, Dist L f v (D v)) (hx : D l = some x) : ∃ p, Pot (held L f l x) p := by
  have K : ∃ K : Int, -π f ≤ K ∧ x - π l ≤ K := ⟨max (-π f) (x - π l), Int.le_max_left .., Int.le_max_right ..⟩
  obtain ⟨K, k1, k2⟩ := K
  let p : Nat → Int := fun v => match D v with
    | none => π v + K
    | some c => min c (π v + K)
  have hp1 : ∀ v, p v ≤ π v + K := fun v => by
    show (match D v with | none => π v + K | some c => min c (π v + K)) ≤ _
    split
    · exact Int.le_refl _
    · exact Int.min_le_right ..
  have hp2 : ∀ v c, D v = some c → p v ≤ c ∧ p v = min c (π v + K) := fun v c h => by
    have e : p v = min c (π v + K) := by
      show (match D v with | none => π v + K | some c => min c (π v + K)) = _
      rw [h]
    exact ⟨by rw [e]; exact Int.min_le_left .., e⟩
  have hp0 : ∀ v, D v = none → p v = π v + K := fun v h => by
    show (match D v with | none => π v + K | some c => min c (π v + K)) = _
    rw [h]
  have hf : D f = some 0 := by
    obtain ⟨e, h1, h2⟩ := (hD f).2 0 (.nil f)
    have := P.wk ((hD f).1 e h1)
    rw [h1]
    congr 1
    omega
  have pf : p f = 0 := by
    have := (hp2 f 0 hf).2
    omega
  have pl : p l = x := by
    have := (hp2 l x hx).2
    omega
  refine ⟨p, fun g hg => ?_⟩
  unfold held at hg
  rcases List.mem_append.mp hg with hg | hg
  · have hP := P g hg
    cases hu : D g.u with
    | none =>
      rw [hp0 _ hu]
      have := hp1 g.v
      omega
    | some c =>
      obtain ⟨e, h1, h2⟩ := (hD g.v).2 (c + g.b) (((hD g.u).1 c hu).snoc hg)
      have q1 := (hp2 g.v e h1).1
      have q2 := (hp2 g.u c hu).2
      have q3 := hp1 g.v
      omega
  · simp only [List.mem_cons, List.not_mem_nil, or_false] at hg
    rcases hg with rfl | rfl
    · show p l ≤ p f + x
      omega
    · show p f ≤ p l + -x
      omega
end

/-! ### turns -/
section
variable {L : List Lg} {m : Int} {r : Nat → Int}
def turn (m : Int) (r : Nat → Int) (l : Lg) : Lg := ⟨l.u, l.v, (l.b - r l.v + r l.u) / m⟩
theorem turn_wk (hm : 0 < m) (hc : ∀ l ∈ L, (l.b - r l.v + r l.u) % m = 0) {u v : Nat} {c : Int} (w : Wk (L.map (turn m r)) u v c) : Wk L u v (m * c + r v - r u) := by
  induction w with
  | nil u => rw [show m * 0 + r u - r u = 0 by rw [Int.mul_zero]; omega]; exact .nil u
  | cons hl _ ih =>
    rename_i v c _
    obtain ⟨l, hl2, rfl⟩ := List.mem_map.mp hl
    have e := Int.mul_ediv_cancel' (Int.dvd_of_emod_eq_zero (hc l hl2))
    have w2 : Wk L l.u v (l.b + (m * c + r v - r l.v)) := Wk.cons hl2 ih
    have e2 : m * ((l.b - r l.v + r l.u) / m + c) + r v - r l.u = l.b + (m * c + r v - r l.v) := by
      rw [Int.mul_add, e]
      omega
    show Wk L l.u v (m * ((l.b - r l.v + r l.u) / m + c) + r v - r l.u)
    rw [e2]
    exact w2
theorem turn_neg (hm : 0 < m) (hc : ∀ l ∈ L, (l.b - r l.v + r l.u) % m = 0) (h : Neg (L.map (turn m r))) : Neg L := by
  obtain ⟨u, c, w, hlt⟩ := h
  refine ⟨u, _, turn_wk hm hc w, ?_⟩
  have := Int.mul_neg_of_pos_of_neg hm hlt
  omega
theorem turn_pot (hm : 0 < m) (hc : ∀ l ∈ L, (l.b - r l.v + r l.u) % m = 0) {q : Nat → Int} (P : Pot (L.map (turn m r)) q) : Pot L fun v => r v + m * q v := fun l hl => by
  have h1 := P (turn m r l) (List.mem_map.mpr ⟨l, hl, rfl⟩)
  have e := Int.mul_ediv_cancel' (Int.dvd_of_emod_eq_zero (hc l hl))
  have h2 := Int.mul_le_mul_of_nonneg_left h1 (Int.le_of_lt hm)
  rw [Int.mul_add] at h2
  have h3 : m * q l.v ≤ m * q l.u + m * ((l.b - r l.v + r l.u) / m) := h2
  rw [e] at h3
  show r l.v + m * q l.v ≤ r l.u + m * q l.u + l.b
  omega
end
end SP

set_option maxHeartbeats 2000000
/-! LA: charts, ends, bounds, differences. -/
namespace K76
open Mi
open PySem (Str PyData)
/-! ### plain things -/
def od : Option Int → D
  | none => .non
  | some i => .int i
structure Tie where
  nm : Str
  one : Str
  oth : Str
  lo : Option Int
  hi : Option Int
  pl : List (Int × Int × Int)
def pud (p : Int × Int × Int) : D := .tup [.int p.1, .int p.2.1, .int p.2.2]
def Tie.d (t : Tie) : D := .tup [.str t.nm, .str t.one, .str t.oth, od t.lo, od t.hi, .tup (t.pl.map pud)]
def pd (p : Str × Int) : D := .tup [.str p.1, .int p.2]
structure Ch where
  m : Int
  ps : List (Str × Int)
  ts : List Tie
def Ch.d (c : Ch) : D := .tup [.int c.m, .tup (c.ps.map pd), .tup (c.ts.map Tie.d)]
def Ch.names (c : Ch) : List Str := c.ps.map (·.1)
/-- a name's place -/
def Ch.ix (c : Ch) (n : Str) : Nat := c.names.idxOf n
/-- a name's reading -/
def Ch.rd (c : Ch) (n : Str) : Int := (c.ps[c.ix n]?.map (·.2)).getD 0
structure Ch.Ok (c : Ch) : Prop where
  m : 0 < c.m
  m2 : c.m ≤ 100000
  nd : c.names.Nodup
  str : ∀ n ∈ c.names, PyData.strOk n = true
  rdg : ∀ p ∈ c.ps, 0 ≤ p.2 ∧ p.2 < c.m
  ends : ∀ t ∈ c.ts, t.one ∈ c.names ∧ t.oth ∈ c.names
  ne : ∀ t ∈ c.ts, t.one ≠ t.oth
  lp : c.ps.length ≤ 900
  lt : c.ts.length ≤ 1000
theorem names_len (c : Ch) : c.names.length = c.ps.length := List.length_map ..
theorem Ch.Ok.ix_lt {c : Ch} {n : Str} (hn : n ∈ c.names) : c.ix n < c.ps.length := by
  rw [← names_len]
  exact List.idxOf_lt_length_of_mem hn
theorem ix_get {c : Ch} {n : Str} (hn : n ∈ c.names) : c.ps[c.ix n]? = some (n, c.rd n) := by
  have hl : c.ix n < c.ps.length := Ch.Ok.ix_lt hn
  have e : c.names[c.ix n]? = some n := by
    rw [List.getElem?_eq_getElem (by rw [names_len]; exact hl)]
    exact congrArg some (List.getElem_idxOf (by rw [names_len]; exact hl))
  unfold Ch.names at e
  rw [List.getElem?_map, Option.map_eq_some_iff] at e
  obtain ⟨p, e1, e2⟩ := e
  unfold Ch.rd
  rw [e1, ← e2]
  rfl
theorem ix_inj {c : Ch} {a b : Str} (ha : a ∈ c.names) (hb : b ∈ c.names) (e : c.ix a = c.ix b) : a = b := by
  have h1 := ix_get ha
  have h2 := ix_get hb
  rw [e, h2] at h1
  injection h1 with h1
  exact (congrArg Prod.fst h1).symm
/-- what a tie bounds, there (0) or back (1) -/
def Ch.bd (c : Ch) (t : Tie) (w : Int) : Option Int :=
  if w = 0 then t.hi.map fun b => b - (b - (c.rd t.oth - c.rd t.one)) % c.m
  else t.lo.map fun b => 0 - b - ((c.rd t.oth - c.rd t.one) - b) % c.m
/-! ### what a thing may be: objects alive, texts plain, no script -/
mutual
def Pl (n : Nat) : D → Prop
  | .obj m => m < n
  | .fl _ => False
  | .tup xs => Pls n xs
  | .str x => PyData.strOk x = true
  | .non => True
  | .bl _ => True
  | .int _ => True
def Pls (n : Nat) : List D → Prop
  | [] => True
  | x :: xs => Pl n x ∧ Pls n xs
end
theorem Pls.mem {n : Nat} : ∀ {xs : List D} {x : D}, Pls n xs → x ∈ xs → Pl n x
  | y :: ys, x, h, hm => by
    unfold Pls at h
    rcases List.mem_cons.mp hm with rfl | hm
    · exact h.1
    · exact Pls.mem h.2 hm
theorem Pls.of {n : Nat} : ∀ {xs : List D}, (∀ x ∈ xs, Pl n x) → Pls n xs
  | [], _ => by unfold Pls; trivial
  | y :: ys, h => by
    unfold Pls
    exact ⟨h y (List.mem_cons_self ..), Pls.of fun x hx => h x (List.mem_cons_of_mem _ hx)⟩
mutual
theorem Pl.mono {n n' : Nat} (hn : n ≤ n') : ∀ {d : D}, Pl n d → Pl n' d
  | .obj m, h => by unfold Pl at h ⊢; omega
  | .fl _, h => by unfold Pl at h; exact h.elim
  | .tup xs, h => by unfold Pl at h ⊢; exact Pls.mono hn h
  | .str x, h => by unfold Pl at h ⊢; exact h
  | .non, _ => by unfold Pl; trivial
  | .bl _, _ => by unfold Pl; trivial
  | .int _, _ => by unfold Pl; trivial
theorem Pls.mono {n n' : Nat} (hn : n ≤ n') : ∀ {xs : List D}, Pls n xs → Pls n' xs
  | [], _ => by unfold Pls; trivial
  | x :: xs, h => by
    unfold Pls at h ⊢
    exact ⟨Pl.mono hn h.1, Pls.mono hn h.2⟩
end
def isInt : D → Bool
  | .int _ => true
  | _ => false
def isTupD : D → Bool
  | .tup _ => true
  | _ => false
def isStr : D → Bool
  | .str _ => true
  | _ => false
variable {w k : Nat} {h : MH} {Q : D → MH → Prop} {c : Ch}
theorem isin_obj {t : Ty} {m : Nat} (hm : m < h.length) (h1 : t ≠ .list) (h2 : t ≠ .dict) : isinD t (.obj m) h = some false := by
  unfold isinD
  dsimp only
  rw [List.getElem?_eq_getElem hm]
  cases h[m] with
  | lst xs => cases t <;> first | rfl | exact absurd rfl h1 | exact absurd rfl h2
  | dic xs => cases t <;> first | rfl | exact absurd rfl h1 | exact absurd rfl h2
theorem isin_tup {d : D} (hp : Pl h.length d) : isinD .tuple d h = some (isTupD d) := by
  cases d with
  | obj m => exact isin_obj (by unfold Pl at hp; exact hp) (by decide) (by decide)
  | fl xs => unfold Pl at hp; exact hp.elim
  | _ => rfl
theorem isin_str {d : D} (hp : Pl h.length d) : isinD .str d h = some (isStr d) := by
  cases d with
  | obj m => exact isin_obj (by unfold Pl at hp; exact hp) (by decide) (by decide)
  | fl xs => unfold Pl at hp; exact hp.elim
  | _ => rfl
def isBl : D → Bool
  | .bl _ => true
  | _ => false
theorem isin_int {d : D} (hp : Pl h.length d) : isinD .int d h = some (isInt d || isBl d) := by
  cases d with
  | obj m => exact isin_obj (by unfold Pl at hp; exact hp) (by decide) (by decide)
  | fl xs => unfold Pl at hp; exact hp.elim
  | _ => rfl
theorem isin_bool {d : D} (hp : Pl h.length d) : isinD .bool d h = some (isBl d) := by
  cases d with
  | obj m => exact isin_obj (by unfold Pl at hp; exact hp) (by decide) (by decide)
  | fl xs => unfold Pl at hp; exact hp.elim
  | _ => rfl
theorem tru_bl {b : Bool} : truD h (.bl b) = some b := rfl
def Ch.nums (c : Ch) : List (Key × D) := c.ps.zipIdx.map fun p => (.inr p.1.1, .int (p.2 : Nat))
theorem c_it1 : (enumD (c.ps.map pd)) = c.ps.zipIdx.map fun p => .tup [.int (p.2 : Nat), pd p.1] := by
  unfold enumD
  rw [List.zipIdx_map, List.map_map]
  rfl
theorem kput_new {kvs : List (Key × D)} {kk : Key} {v : D} (hn : ∀ p ∈ kvs, p.1 ≠ kk) : kput kvs kk v = kvs ++ [(kk, v)] := by
  unfold kput
  rw [if_neg]
  intro z
  obtain ⟨p, hp, e⟩ := List.any_eq_true.mp z
  exact hn p hp (of_decide_eq_true e)
theorem zip_names {l : List (Str × Int)} {i : Nat} : (l.zipIdx i).map (fun p => p.1.1) = l.map (·.1) := by
  induction l generalizing i with
  | nil => rfl
  | cons p l ih => rw [List.zipIdx_cons, List.map_cons, List.map_cons, ih]
theorem p_place_numbers (ok : c.Ok) (q : ∀ h' n, Ex [] h h' → h'[n]? = some (.dic c.nums) → Q (.obj n) h') : wp (Gn cds w (k + 1) 0 [c.d]) h Q := by
  rw [g0, b0]
  unfold Ch.d
  simp only [rules, bindG, bindGs, wipeE, placed, Nat.reduceAdd, Nat.reduceSub, Nat.reduceLeDiff, Nat.reduceLT, reduceIte, Int.reduceSub, Int.reduceAdd, Int.reduceMul]
  rw [c_it1]
  refine wp_dcL (Inv := fun ds acc h' => ∃ done todo, c.ps.zipIdx = done ++ todo ∧ ds = todo.map (fun p => D.tup [.int (p.2 : Nat), pd p.1]) ∧ acc = done.map (fun p => (Sum.inr p.1.1, D.int (p.2 : Nat))) ∧ Ex [] h h' ∧ h'[h.length]? = some (.dic acc)) ?_ ?_ ⟨[], c.ps.zipIdx, rfl, rfl, rfl, Ex.app, by simp⟩
  · rintro d ds acc h1 ⟨done, todo, e1, e2, rfl, x, hn⟩
    cases todo with
    | nil => cases e2
    | cons p todo =>
      rw [List.map_cons, List.cons.injEq] at e2
      obtain ⟨rfl, rfl⟩ := e2
      have ll : done.length ≤ 1000 := by
        have l1 := congrArg List.length e1
        rw [List.length_zipIdx, List.length_append] at l1
        have := ok.lp
        omega
      have kn : kput (done.map fun p => (Sum.inr p.1.1, D.int (p.2 : Nat))) (.inr p.1.1) (.int (p.2 : Nat)) = (done ++ [p]).map fun p => (Sum.inr p.1.1, D.int (p.2 : Nat)) := by
        rw [kput_new, List.map_append]
        · rfl
        · intro r hr
          obtain ⟨s, hs, rfl⟩ := List.mem_map.mp hr
          intro z
          injection z with z
          have nd := ok.nd
          unfold Ch.names at nd
          rw [← zip_names (i := 0), e1, List.map_append, List.map_cons, List.nodup_append] at nd
          exact nd.2.2 s.1.1 (List.mem_map.mpr ⟨s, hs, rfl⟩) p.1.1 (List.mem_cons_self ..) z
      refine ⟨Ks.nil, _, rfl, ?_⟩
      unfold pd
      simp only [rules, bindG, bindGs, wipeE, placed, Nat.reduceAdd, Nat.reduceSub, Nat.reduceLeDiff, Nat.reduceLT, reduceIte, Int.reduceSub, Int.reduceAdd, Int.reduceMul]
      exact ⟨hn, line_gt (by rw [List.length_map]; omega), _, rfl, done ++ [p], todo, by simp [e1], rfl, kn, x.set (Nat.le_refl _), set_at hn⟩
  · rintro acc h1 ⟨done, todo, e1, e2, rfl, x, hn⟩
    cases todo with
    | cons p todo => cases e2
    | nil =>
      rw [List.append_nil] at e1
      subst e1
      exact ⟨Ks.nil, q h1 _ x hn⟩
theorem kget_nums0 {n : Str} : ∀ (l : List (Str × Int)) (i : Nat), n ∈ l.map (·.1) → kget ((l.zipIdx i).map fun p => (Sum.inr p.1.1, D.int (p.2 : Nat))) (.inr n) = some (.int ((i + (l.map (·.1)).idxOf n : Nat)))
  | [], _, hn => nomatch hn
  | p :: l, i, hn => by
    unfold kget
    rw [List.zipIdx_cons, List.map_cons, List.find?_cons, List.map_cons, List.idxOf_cons]
    by_cases e : p.1 = n
    · rw [show decide ((Sum.inr p.1 : Key) = Sum.inr n) = true from decide_eq_true (by rw [e])]
      rw [e]
      simp
    · rw [show decide ((Sum.inr p.1 : Key) = Sum.inr n) = false from decide_eq_false (by simp [e])]
      have hn2 : n ∈ l.map (·.1) := by
        rcases List.mem_cons.mp hn with z | z
        · exact absurd z.symm e
        · exact z
      have ih := kget_nums0 l (i + 1) hn2
      unfold kget at ih
      rw [ih]
      have e3 : (p.1 == n) = false := beq_eq_false_iff_ne.mpr e
      rw [e3]
      simp only [cond_false]
      congr 2
      omega
theorem kget_nums {n : Str} (hn : n ∈ c.names) : kget c.nums (.inr n) = some (.int (c.ix n)) := by
  have e := kget_nums0 c.ps 0 hn
  rw [Nat.zero_add] at e
  exact e
theorem ix_nums {n : Nat} {x : Str} (hn : x ∈ c.names) (e : h[n]? = some (.dic c.nums)) : idxD (.obj n) (.str x) h = some (.int (c.ix x)) := by
  rw [ix_dic e rfl, kget_nums hn]
/-- tie_ends -/
def Ch.endD (c : Ch) (t : Tie) : D := .tup [.int (c.ix t.one), .int (c.ix t.oth)]
theorem p_tie_ends (ok : c.Ok) (q : ∀ h' n, h.length ≤ n → Ex [] h h' → h'[n]? = some (.lst (c.ts.map c.endD)) → Q (.obj n) h') : wp (Gn cds w (k + 2) 1 [c.d]) h Q := by
  rw [g1, b1]
  simp only [rules, bindG, bindGs, wipeE, placed, Nat.reduceAdd, Nat.reduceSub, Nat.reduceLeDiff, Nat.reduceLT, reduceIte, Int.reduceSub, Int.reduceAdd, Int.reduceMul]
  refine p_place_numbers ok fun h1 n1 x1 e1 => ?_
  unfold Ch.d
  simp only [rules, bindG, bindGs, wipeE, placed, Nat.reduceAdd, Nat.reduceSub, Nat.reduceLeDiff, Nat.reduceLT, reduceIte, Int.reduceSub, Int.reduceAdd, Int.reduceMul]
  have lt := ok.lt
  refine wp_mapf (fun d => match d with | .tup [_, .str a, .str b, _, _, _] => .tup [.int (c.ix a), .int (c.ix b)] | _ => .non) h1 Ks.nil (by rw [List.length_map]; omega) ?_ ?_
  · intro d hd h2 x2
    obtain ⟨t, ht, rfl⟩ := List.mem_map.mp hd
    refine ⟨_, rfl, ?_⟩
    have en := ok.ends t ht
    unfold Tie.d
    simp only [rules, bindG, bindGs, wipeE, placed, Nat.reduceAdd, Nat.reduceSub, Nat.reduceLeDiff, Nat.reduceLT, reduceIte, Int.reduceSub, Int.reduceAdd, Int.reduceMul]
    simp only [ix_nums en.1 (x2.at0 e1), ix_nums en.2 (x2.at0 e1), rules, bindG, bindGs, wipeE, placed, Nat.reduceAdd, Nat.reduceSub, Nat.reduceLeDiff, Nat.reduceLT, reduceIte, Int.reduceSub, Int.reduceAdd, Int.reduceMul]
    exact Ex.refl
  · intro h2 x2 e2
    refine q h2 _ x1.1 (x1.trans x2) ?_
    rw [e2, List.map_map]
    rfl
/-- place_of -/
theorem p_place_of (ok : c.Ok) {n : Str} (hn : n ∈ c.names) (q : ∀ h', Ex [] h h' → Q (.int (c.ix n)) h') : wp (Gn cds w (k + 2) 2 [c.d, .str n]) h Q := by
  rw [g2, b2]
  simp only [rules, bindG, bindGs, wipeE, placed, Nat.reduceAdd, Nat.reduceSub, Nat.reduceLeDiff, Nat.reduceLT, reduceIte, Int.reduceSub, Int.reduceAdd, Int.reduceMul]
  refine p_place_numbers ok fun h1 n1 x1 e1 => ?_
  simp only [ix_nums hn e1, rules, bindG, bindGs, wipeE, placed, Nat.reduceAdd, Nat.reduceSub, Nat.reduceLeDiff, Nat.reduceLT, reduceIte, Int.reduceSub, Int.reduceAdd, Int.reduceMul]
  exact q h1 x1
/-- cut_down -/
theorem p_cut_down {b v m : Int} (hm : 0 < m) (q : Q (.int (b - (b - v) % m)) h) : wp (Gn cds w (k + 1) 6 [.int b, .int v, .int m]) h Q := by
  rw [g6, b6]
  simp only [rules, bindG, bindGs, wipeE, placed, Nat.reduceAdd, Nat.reduceSub, Nat.reduceLeDiff, Nat.reduceLT, reduceIte, Int.reduceSub, Int.reduceAdd, Int.reduceMul]
  exact o_mod.mpr ⟨hm, o_sub.mpr q⟩
/-- leg_bounds -/
def Ch.bdD (c : Ch) (t : Tie) : D := .tup [od (c.bd t 0), od (c.bd t 1)]
theorem zipD_map {α : Type} (f g : α → D) (l : List α) : zipD (l.map f) (l.map g) = l.map fun a => .tup [f a, g a] := by
  unfold zipD
  induction l with
  | nil => rfl
  | cons a l ih => rw [List.map_cons, List.map_cons, List.zip_cons_cons, List.map_cons, ih]; rfl
theorem at_ps {n : Str} (hn : n ∈ c.names) : atI (c.ps.map pd) ((c.ix n : Nat) : Int) = some (.tup [.str n, .int (c.rd n)]) := by
  rw [at_nat' (by rw [List.length_map]; exact Ch.Ok.ix_lt hn), List.getElem?_map, ix_get hn]
  rfl
theorem isN_od {o : Option Int} : nonD (od o) = o.isNone := by cases o <;> rfl
theorem tie1 {t : Tie} : idxD t.d (.int 1) h = some (.str t.one) := at1
theorem tie2 {t : Tie} : idxD t.d (.int 2) h = some (.str t.oth) := at2
theorem tie3 {t : Tie} : idxD t.d (.int 3) h = some (od t.lo) := at3
theorem tie4 {t : Tie} : idxD t.d (.int 4) h = some (od t.hi) := at4
theorem end0 {t : Tie} : idxD (c.endD t) (.int 0) h = some (.int (c.ix t.one)) := at0
theorem end1 {t : Tie} : idxD (c.endD t) (.int 1) h = some (.int (c.ix t.oth)) := at1
theorem bd0 {t : Tie} : c.bd t 0 = t.hi.map fun b => b - (b - (c.rd t.oth - c.rd t.one)) % c.m := if_pos rfl
theorem bd1 {t : Tie} : c.bd t 1 = t.lo.map fun b => 0 - b - ((c.rd t.oth - c.rd t.one) - b) % c.m := if_neg (by decide)
theorem bd1' {t : Tie} {b : Int} (e : t.lo = some b) : od (c.bd t 1) = .int (-b - (-b - -(c.rd t.oth - c.rd t.one)) % c.m) := by
  rw [bd1, e]
  show D.int (0 - b - ((c.rd t.oth - c.rd t.one) - b) % c.m) = _
  congr 1
  have : -b - -(c.rd t.oth - c.rd t.one) = c.rd t.oth - c.rd t.one - b := by omega
  rw [this]
  omega
def inv4 (c : Ch) (h : MH) (n1 : Nat) (ds : List D) (env : Env) (h' : MH) : Prop := ∃ done todo a5 a6 a7 a8 a9, c.ts = done ++ todo ∧ ds = todo.map (fun t => D.tup [t.d, c.endD t]) ∧
    env = [some c.d, some (.obj h.length), some (.int c.m), some (.tup (c.ps.map pd)), some (.tup (c.ts.map Tie.d)), a5, a6, a7, a8, a9] ∧
    Ex [] h h' ∧ h'[h.length]? = some (.lst (done.map c.bdD)) ∧ h'[n1]? = some (.lst (c.ts.map c.endD))
theorem p_leg_bounds (ok : c.Ok) (q : ∀ h' n, h.length ≤ n → Ex [] h h' → h'[n]? = some (.lst (c.ts.map c.bdD)) → Q (.obj n) h') : wp (Gn cds w (k + 3) 7 [c.d]) h Q := by
  rw [g7, b7]
  unfold Ch.d
  simp only [rules, bindG, bindGs, wipeE, placed, Nat.reduceAdd, Nat.reduceSub, Nat.reduceLeDiff, Nat.reduceLT, reduceIte, Int.reduceSub, Int.reduceAdd, Int.reduceMul]
  refine p_tie_ends ok fun h1 n1 l1 x1 e1 => ?_
  rw [wp_items_obj]
  refine ⟨_, lstAt_iff.mpr e1, ?_⟩
  rw [zipD_map]
  have l2 : h.length < n1 := by
    rw [List.length_append] at l1
    exact l1
  refine wp_for (Inv := inv4 c h n1) ?_ ?_ ⟨[], c.ts, _, _, _, _, _, rfl, rfl, rfl, Ex.app.trans x1, x1.at0 (by simp), e1⟩
  · rintro d ds env h2 ⟨done, todo, a5, a6, a7, a8, a9, f1, f2, rfl, x2, f3, f4⟩
    cases todo with
    | nil => cases f2
    | cons t todo =>
      rw [List.map_cons, List.cons.injEq] at f2
      obtain ⟨rfl, rfl⟩ := f2
      have en := ok.ends t (by rw [f1]; simp)
      have ll : done.length ≤ 1000 := by
        have l3 := congrArg List.length f1
        rw [List.length_append] at l3
        have := ok.lt
        omega
      refine ⟨Ks.one f4, _, rfl, ?_⟩
      simp only [rules, bindG, bindGs, wipeE, placed, Nat.reduceAdd, Nat.reduceSub, Nat.reduceLeDiff, Nat.reduceLT, reduceIte, Int.reduceSub, Int.reduceAdd, Int.reduceMul, tie3, tie4, end0, end1, at_ps en.1, at_ps en.2, isN_od]
      have fin : ∀ (v1 v2 : D), v1 = od (c.bd t 0) → v2 = od (c.bd t 1) → ∃ u, isLst h2 (.obj h.length) = some u ∧ wp (appD (.obj h.length) (.tup [v1, v2])) h2 fun _ h' => inv4 c h n1 (List.map (fun t => D.tup [t.d, c.endD t]) todo)
          [some c.d, some (D.obj h.length), some (D.int c.m), some (D.tup (c.ps.map pd)), some (D.tup (c.ts.map Tie.d)), some t.d, some (c.endD t), some (.int (c.rd t.oth - c.rd t.one)), some v1, some v2] h' := by
        rintro _ _ rfl rfl
        refine ⟨(), by unfold isLst; dsimp only; rw [lstAt_iff.mpr f3]; rfl, ?_⟩
        refine wp_appD f3 (line_gt (by rw [List.length_map]; omega)) ⟨done ++ [t], todo, _, _, _, _, _, by simp [f1], rfl, rfl, x2.set (Nat.le_refl _), ?_, ?_⟩
        · rw [set_at f3, List.map_append]
          rfl
        · rw [List.getElem?_set_ne (by omega)]
          exact f4
      cases e1 : t.hi with
      | none =>
        cases e2 : t.lo with
        | none =>
          simp only [od, Option.isNone, rules, bindG, bindGs, wipeE, placed, Nat.reduceAdd, Nat.reduceSub, Nat.reduceLeDiff, Nat.reduceLT, reduceIte, Int.reduceSub, Int.reduceAdd, Int.reduceMul]
          exact fin _ _ (by rw [bd0, e1]; rfl) (by rw [bd1, e2]; rfl)
        | some b =>
          simp only [od, Option.isNone, rules, bindG, bindGs, wipeE, placed, Nat.reduceAdd, Nat.reduceSub, Nat.reduceLeDiff, Nat.reduceLT, reduceIte, Int.reduceSub, Int.reduceAdd, Int.reduceMul]
          refine p_cut_down ok.m ?_
          exact fin _ _ (by rw [bd0, e1]; rfl) (bd1' e2).symm
      | some b =>
        cases e2 : t.lo with
        | none =>
          simp only [od, Option.isNone, rules, bindG, bindGs, wipeE, placed, Nat.reduceAdd, Nat.reduceSub, Nat.reduceLeDiff, Nat.reduceLT, reduceIte, Int.reduceSub, Int.reduceAdd, Int.reduceMul]
          refine p_cut_down ok.m ?_
          exact fin _ _ (by rw [bd0, e1]; rfl) (by rw [bd1, e2]; rfl)
        | some b2 =>
          simp only [od, Option.isNone, rules, bindG, bindGs, wipeE, placed, Nat.reduceAdd, Nat.reduceSub, Nat.reduceLeDiff, Nat.reduceLT, reduceIte, Int.reduceSub, Int.reduceAdd, Int.reduceMul]
          refine p_cut_down ok.m ?_
          refine p_cut_down ok.m ?_
          exact fin _ _ (by rw [bd0, e1]; rfl) (bd1' e2).symm
  · rintro env h2 ⟨done, todo, a5, a6, a7, a8, a9, f1, f2, rfl, x2, f3, f4⟩
    cases todo with
    | cons t todo => cases f2
    | nil =>
      rw [List.append_nil] at f1
      subst f1
      refine ⟨Ks.one f4, ?_⟩
      simp only [rules, bindG, bindGs, wipeE, placed, Nat.reduceAdd, Nat.reduceSub, Nat.reduceLeDiff, Nat.reduceLT, reduceIte, Int.reduceSub, Int.reduceAdd, Int.reduceMul]
      exact q h2 _ (Nat.le_refl _) x2 f3
/-- keeps -/
def keepsB (t : Tie) (v : Int) : Bool := (t.lo.all fun b => decide (b ≤ v)) && (t.hi.all fun b => decide (v ≤ b))
theorem p_keeps {t : Tie} {v : Int} (q : Q (.bl (keepsB t v)) h) : wp (Gn cds w (k + 1) 18 [t.d, .int v]) h Q := by
  rw [g18, b18]
  simp only [rules, bindG, bindGs, wipeE, placed, Nat.reduceAdd, Nat.reduceSub, Nat.reduceLeDiff, Nat.reduceLT, reduceIte, Int.reduceSub, Int.reduceAdd, Int.reduceMul, tie3, tie4, isN_od]
  unfold keepsB at q
  cases e1 : t.lo with
  | none =>
    rw [e1] at q
    cases e2 : t.hi with
    | none =>
      rw [e2] at q
      simp only [od, Option.isNone, rules, bindG, bindGs, wipeE, placed, Nat.reduceAdd, Nat.reduceSub, Nat.reduceLeDiff, Nat.reduceLT, reduceIte, Int.reduceSub, Int.reduceAdd, Int.reduceMul]
      exact q
    | some b =>
      rw [e2] at q
      simp only [od, Option.isNone, rules, bindG, bindGs, wipeE, placed, Nat.reduceAdd, Nat.reduceSub, Nat.reduceLeDiff, Nat.reduceLT, reduceIte, Int.reduceSub, Int.reduceAdd, Int.reduceMul]
      exact q
  | some b =>
    rw [e1] at q
    cases e2 : t.hi with
    | none =>
      rw [e2] at q
      simp only [od, Option.isNone, rules, bindG, bindGs, wipeE, placed, Nat.reduceAdd, Nat.reduceSub, Nat.reduceLeDiff, Nat.reduceLT, reduceIte, Int.reduceSub, Int.reduceAdd, Int.reduceMul]
      by_cases z : b ≤ v
      · simp only [decide_eq_true z, rules, bindG, bindGs, wipeE, placed, Nat.reduceAdd, Nat.reduceSub, Nat.reduceLeDiff, Nat.reduceLT, reduceIte, Int.reduceSub, Int.reduceAdd, Int.reduceMul]
        simp only [Option.all, decide_eq_true z] at q
        exact q
      · simp only [decide_eq_false z, rules, bindG, bindGs, wipeE, placed, Nat.reduceAdd, Nat.reduceSub, Nat.reduceLeDiff, Nat.reduceLT, reduceIte, Int.reduceSub, Int.reduceAdd, Int.reduceMul]
        simp only [Option.all, decide_eq_false z] at q
        exact q
    | some b2 =>
      rw [e2] at q
      simp only [od, Option.isNone, rules, bindG, bindGs, wipeE, placed, Nat.reduceAdd, Nat.reduceSub, Nat.reduceLeDiff, Nat.reduceLT, reduceIte, Int.reduceSub, Int.reduceAdd, Int.reduceMul]
      by_cases z : b ≤ v
      · simp only [decide_eq_true z, rules, bindG, bindGs, wipeE, placed, Nat.reduceAdd, Nat.reduceSub, Nat.reduceLeDiff, Nat.reduceLT, reduceIte, Int.reduceSub, Int.reduceAdd, Int.reduceMul]
        simp only [Option.all, decide_eq_true z, Bool.true_and] at q
        exact q
      · simp only [decide_eq_false z, rules, bindG, bindGs, wipeE, placed, Nat.reduceAdd, Nat.reduceSub, Nat.reduceLeDiff, Nat.reduceLT, reduceIte, Int.reduceSub, Int.reduceAdd, Int.reduceMul]
        simp only [Option.all, decide_eq_false z, Bool.false_and] at q
        exact q
/-- leg_ends -/
def dif (c : Ch) (is : List Int) (t : Tie) : Int := (is[c.ix t.oth]?).getD 0 - (is[c.ix t.one]?).getD 0
theorem at_land {is : List Int} {n : Nat} (hn : n < is.length) : atI (is.map D.int) (n : Int) = some (.int ((is[n]?).getD 0)) := by
  rw [at_nat' (by rw [List.length_map]; exact hn), List.getElem?_map, List.getElem?_eq_getElem hn]
  rfl
theorem p_differences_of (ok : c.Ok) {is : List Int} (hl : is.length = c.ps.length) (q : ∀ h' n, Ex [] h h' → h'[n]? = some (.lst (c.ts.map fun t => .int (dif c is t))) → Q (.obj n) h') : wp (Gn cds w (k + 3) 17 [c.d, .tup (is.map .int)]) h Q := by
  rw [g17, b17]
  simp only [rules, bindG, bindGs, wipeE, placed, Nat.reduceAdd, Nat.reduceSub, Nat.reduceLeDiff, Nat.reduceLT, reduceIte, Int.reduceSub, Int.reduceAdd, Int.reduceMul]
  refine p_tie_ends ok fun h1 n1 l1 x1 e1 => ?_
  rw [wp_items_obj]
  refine ⟨_, lstAt_iff.mpr e1, ?_⟩
  have lt := ok.lt
  refine wp_mapf (fun d => match d with | .tup [.int a, .int b] => .int ((is[b.toNat]?).getD 0 - (is[a.toNat]?).getD 0) | _ => .non) h1 (Ks.one e1) (by rw [List.length_map]; omega) ?_ ?_
  · intro d hd h2 x2
    obtain ⟨t, ht, rfl⟩ := List.mem_map.mp hd
    have en := ok.ends t ht
    refine ⟨_, rfl, ?_⟩
    unfold Ch.endD
    simp only [rules, bindG, bindGs, wipeE, placed, Nat.reduceAdd, Nat.reduceSub, Nat.reduceLeDiff, Nat.reduceLT, reduceIte, Int.reduceSub, Int.reduceAdd, Int.reduceMul]
    rw [at_land (by rw [hl]; exact Ch.Ok.ix_lt en.2), at_land (by rw [hl]; exact Ch.Ok.ix_lt en.1)]
    simp only [rules, bindG, bindGs, wipeE, placed, Nat.reduceAdd, Nat.reduceSub, Nat.reduceLeDiff, Nat.reduceLT, reduceIte, Int.reduceSub, Int.reduceAdd, Int.reduceMul]
    exact ⟨rfl, Ex.refl⟩
  · intro h2 x2 e2
    refine q h2 _ (x1.trans x2) ?_
    rw [e2, List.map_map]
    rfl
theorem ints_of : ∀ {xs : List D}, (∀ x ∈ xs, ∃ i, x = .int i) → ∃ js : List Int, xs = js.map .int
  | [], _ => ⟨[], rfl⟩
  | x :: xs, h => by
    obtain ⟨i, rfl⟩ := h x (List.mem_cons_self ..)
    obtain ⟨js, e⟩ := ints_of fun y hy => h y (List.mem_cons_of_mem _ hy)
    exact ⟨i :: js, by rw [e]; rfl⟩
def fitT (c : Ch) (is : List Int) : Bool := c.ts.all fun t => keepsB t (dif c is t)
end K76

set_option maxHeartbeats 2000000
/-! LB: legs with bounds. -/
namespace K76
open Mi
open PySem (Str PyData)
variable {w k : Nat} {h : MH} {Q : D → MH → Prop} {c : Ch}
theorem wp_forN {bnd : D → Env → Option Env} {body : Env → M (Out × Env)} {env : Env} {QS : Out × Env → MH → Prop} : wp (forL bnd body [] [] env) h QS ↔ QS (.nx, env) h := by
  unfold forL
  rw [wp_bnd, wp_keep, wp_ret]
  exact ⟨fun q => q.2, fun q => ⟨rfl, q⟩⟩
theorem wp_forC {bnd : D → Env → Option Env} {body : Env → M (Out × Env)} {env : Env} {d : D} {ds : List D} {QS : Out × Env → MH → Prop} : wp (forL bnd body [] (d :: ds) env) h QS ↔ ∃ env1, bnd d env = some env1 ∧ wp (body env1) h fun r h' => match r.1 with
    | .nx => wp (forL bnd body [] ds r.2) h' QS
    | .ct => wp (forL bnd body [] ds r.2) h' QS
    | .bk => QS (.nx, r.2) h'
    | .ret d => QS (.ret d, r.2) h' := by
  rw [forL, wp_bnd, wp_keep]
  constructor
  · rintro ⟨_, q⟩
    split at q
    · exact (wp_no.mp q).elim
    · rename_i env1 e
      refine ⟨env1, e, ?_⟩
      rw [wp_bnd] at q
      refine wp_mono q fun r h1 q => ?_
      obtain ⟨o, e2⟩ := r
      cases o with
      | nx => exact q
      | ct => exact q
      | bk => exact wp_ret.mp q
      | ret d => exact wp_ret.mp q
  · rintro ⟨env1, e, q⟩
    refine ⟨rfl, ?_⟩
    rw [e]
    dsimp only
    rw [wp_bnd]
    refine wp_mono q fun r h1 q => ?_
    obtain ⟨o, e2⟩ := r
    cases o with
    | nx => exact q
    | ct => exact q
    | bk => exact wp_ret.mpr q
    | ret d => exact wp_ret.mpr q
theorem isLst_ok {n : Nat} {xs : List D} (e : h[n]? = some (.lst xs)) : isLst h (.obj n) = some () := by
  unfold isLst
  dsimp only
  rw [lstAt_iff.mpr e]
  rfl
/-- the object at n is changed, no other -/
structure Upd (n : Nat) (h h' : MH) : Prop where
  len : h'.length = h.length
  at_ : ∀ m, m ≠ n → h'[m]? = h[m]?
theorem Upd.set {n : Nat} {o : MO} : Upd n h (h.set n o) := ⟨List.length_set .., fun m hm => List.getElem?_set_ne (fun z => hm z.symm)⟩
theorem Upd.ex {n : Nat} {S : List Nat} {h0 h h' : MH} (u : Upd n h h') (x : Ex S h0 h) (hn : h0.length ≤ n ∨ n ∈ S) : Ex S h0 h' := by
  refine ⟨by rw [u.len]; exact x.1, fun m hm hl => ?_⟩
  rw [u.at_ m]
  · exact x.2 m hm hl
  · rintro rfl
    rcases hn with hn | hn
    · omega
    · exact hm hn
theorem Upd.get {n m : Nat} {h h' : MH} {o : MO} (u : Upd n h h') (e : h[m]? = some o) (hm : m ≠ n) : h'[m]? = some o := by rw [u.at_ m hm]; exact e
theorem wp_app1 {n : Nat} {d : D} {xs : List D} {Qu : Unit → MH → Prop} (e : h[n]? = some (.lst xs)) (hl : xs.length < LINE) (q : ∀ h', Upd n h h' → h'[n]? = some (.lst (xs ++ [d])) → Qu () h') : wp (appD (.obj n) d) h Qu :=
  wp_appD e hl (q _ Upd.set (set_at e))
theorem wp_put1 {n j : Nat} {i : Int} {v : D} {xs : List D} {Qu : Unit → MH → Prop} (e : h[n]? = some (.lst xs)) (hj : ixN xs.length i = some j) (q : ∀ h', Upd n h h' → h'[n]? = some (.lst (xs.set j v)) → Qu () h') : wp (putD (.obj n) (.int i) v) h Qu :=
  wp_putL e hj (q _ Upd.set (set_at e))
def forB : CS → List CS
  | .for _ _ b => b
  | _ => []
def thnB : CS → List CS
  | .ifs _ a _ => a
  | _ => []
def elsB : CS → List CS
  | .ifs _ _ b => b
  | _ => []
def whlB : CS → List CS
  | .whl _ b => b
  | _ => []
def whlT : CS → CT
  | .whl t _ => t
  | _ => .tru (.cst .non)
/-- a leg as the program holds it -/
structure Leg where
  u : Nat
  v : Nat
  b : Int
  tag : D
def Leg.d (l : Leg) : D := .tup [.int (l.u : Nat), .int (l.v : Nat), .int l.b, l.tag]
def Leg.g (l : Leg) : SP.Lg := ⟨l.u, l.v, l.b⟩
def tagD (i w : Nat) : D := .tup [.int (i : Nat), .int (w : Nat)]
def Ch.legsOf (c : Ch) (i : Nat) (t : Tie) : List Leg :=
  (match c.bd t 0 with
    | some b => [⟨c.ix t.one, c.ix t.oth, b, tagD i 0⟩]
    | none => []) ++ (match c.bd t 1 with
    | some b => [⟨c.ix t.oth, c.ix t.one, b, tagD i 1⟩]
    | none => [])
def Ch.legs (c : Ch) : List Leg := c.ts.zipIdx.flatMap fun p => c.legsOf p.2 p.1
theorem legsOf_len {i : Nat} {t : Tie} : (c.legsOf i t).length ≤ 2 := by
  unfold Ch.legsOf
  rw [List.length_append]
  cases c.bd t 0 <;> cases c.bd t 1 <;> simp
theorem flat_len {α β : Type} {f : α → List β} {n : Nat} (hf : ∀ a, (f a).length ≤ n) : ∀ l : List α, (l.flatMap f).length ≤ n * l.length
  | [] => Nat.zero_le _
  | a :: l => by
    rw [List.flatMap_cons, List.length_append, List.length_cons]
    have h1 := hf a
    have h2 := flat_len hf l
    have : n * (l.length + 1) = n * l.length + n := rfl
    omega
theorem legs_len (ok : c.Ok) : c.legs.length ≤ 2000 := by
  have h1 : c.legs.length ≤ 2 * c.ts.zipIdx.length := flat_len (f := fun p : Tie × Nat => c.legsOf p.2 p.1) (fun p => legsOf_len) _
  rw [List.length_zipIdx] at h1
  have := ok.lt
  omega
def inv8 (c : Ch) (h : MH) (n1 n2 : Nat) (ds : List D) (env : Env) (h' : MH) : Prop := ∃ (done todo : List (Tie × Nat)) (a3 a4 a5 : Option D), c.ts.zipIdx = done ++ todo ∧ ds = todo.map (fun p => D.tup [.int (p.2 : Nat), c.endD p.1]) ∧
    env = [some c.d, some (.obj h.length), some (.obj n1), a3, a4, a5] ∧ Ex [] h h' ∧ h'[h.length]? = some (.lst ((done.flatMap fun p => c.legsOf p.2 p.1).map Leg.d)) ∧ h'[n1]? = some (.lst (c.ts.map c.bdD)) ∧ h'[n2]? = some (.lst (c.ts.map c.endD))
theorem bd_at {t : Tie} {i n : Nat} (ht : c.ts[i]? = some t) (e : h[n]? = some (.lst (c.ts.map c.bdD))) : idxD (.obj n) (.int (i : Nat)) h = some (.tup [od (c.bd t 0), od (c.bd t 1)]) := by
  rw [ix_lst e, at_nat' (by rw [List.length_map]; exact (List.getElem?_eq_some_iff.mp ht).1), List.getElem?_map, ht]
  rfl
theorem p_bounded_legs (ok : c.Ok) (q : ∀ h' n, h.length ≤ n → Ex [] h h' → h'[n]? = some (.lst (c.legs.map Leg.d)) → Q (.obj n) h') : wp (Gn cds w (k + 4) 8 [c.d]) h Q := by
  rw [g8, w_run]
  refine ⟨rfl, ?_⟩
  rw [show b8 = CS.set _ _ :: CS.set _ _ :: CS.for _ _ (forB (b8.getD 2 .pass)) :: b8.drop 3 from rfl, s_cons]
  simp only [rules, bindG, bindGs, wipeE, placed, Nat.reduceAdd, Nat.reduceSub, Nat.reduceLeDiff, Nat.reduceLT, reduceIte, Int.reduceSub, Int.reduceAdd, Int.reduceMul]
  refine p_leg_bounds ok fun h1 n1 l1 x1 e1 => ?_
  try simp only [rules, bindG, bindGs, wipeE, placed, Nat.reduceAdd, Nat.reduceSub, Nat.reduceLeDiff, Nat.reduceLT, reduceIte, Int.reduceSub, Int.reduceAdd, Int.reduceMul]
  refine p_tie_ends ok fun h2 n2 l2 x2 e2 => ?_
  rw [wp_items_obj]
  refine ⟨_, lstAt_iff.mpr e2, ?_⟩
  have items : enumD (c.ts.map c.endD) = c.ts.zipIdx.map fun p => D.tup [.int (p.2 : Nat), c.endD p.1] := by
    unfold enumD
    rw [List.zipIdx_map, List.map_map]
    rfl
  dsimp only
  rw [items]
  have l3 := x1.1
  rw [List.length_append, List.length_singleton] at l1 l3
  have h0 : (h ++ [MO.lst []])[h.length]? = some (.lst []) := by rw [List.getElem?_concat_length]
  have e0 : h2[h.length]? = some (.lst []) := x2.at0 (x1.at0 h0)
  refine wp_for (Inv := inv8 c h n1 n2) ?_ ?_ ⟨[], c.ts.zipIdx, _, _, _, rfl, rfl, rfl, (Ex.app.trans x1).trans x2, e0, x2.at0 e1, e2⟩
  · rintro d ds env h3 ⟨done, todo, a3, a4, a5, f1, f2, rfl, x3, f3, f4, f5⟩
    cases todo with
    | nil => cases f2
    | cons p todo =>
      obtain ⟨t, i⟩ := p
      rw [List.map_cons, List.cons.injEq] at f2
      obtain ⟨rfl, rfl⟩ := f2
      have hm : (t, i) ∈ c.ts.zipIdx := by rw [f1]; simp
      have ht := List.mk_mem_zipIdx_iff_getElem?.mp hm
      have ll : (done.flatMap fun p => c.legsOf p.2 p.1).length ≤ 2 * done.length := flat_len (f := fun p : Tie × Nat => c.legsOf p.2 p.1) (fun p => legsOf_len) _
      have dl : done.length ≤ 1000 := by
        have := congrArg List.length f1
        rw [List.length_zipIdx, List.length_append] at this
        have := ok.lt
        omega
      refine ⟨Ks.one f5, _, rfl, ?_⟩
      rw [show forB (b8.getD 2 .pass) = [CS.for _ _ (forB ((forB (b8.getD 2 .pass)).getD 0 .pass))] from rfl, s_cons]
      have k0 : ∀ h' : MH, h'[n1]? = some (.lst (c.ts.map c.bdD)) → idxD (.obj n1) (.int (i : Nat)) h' = some (.tup [od (c.bd t 0), od (c.bd t 1)]) := fun h' e => bd_at ht e
      simp only [rules, bindG, bindGs, wipeE, placed, Nat.reduceAdd, Nat.reduceSub, Nat.reduceLeDiff, Nat.reduceLT, reduceIte, Int.reduceSub, Int.reduceAdd, Int.reduceMul, wp_forC, wp_forN]
      rw [show forB ((forB (b8.getD 2 .pass)).getD 0 .pass) = [CS.ifs _ _ _] from rfl]
      simp only [rules, bindG, bindGs, wipeE, placed, Nat.reduceAdd, Nat.reduceSub, Nat.reduceLeDiff, Nat.reduceLT, reduceIte, Int.reduceSub, Int.reduceAdd, Int.reduceMul, k0 _ f4, isN_od, end0, end1, ex_some]
      have fin : ∀ (h4 : MH) (ls : List Leg) (b5 : Option D), Ex [] h h4 → h4[h.length]? = some (.lst ((done.flatMap fun p => c.legsOf p.2 p.1).map Leg.d ++ ls.map Leg.d)) → h4[n1]? = some (.lst (c.ts.map c.bdD)) → h4[n2]? = some (.lst (c.ts.map c.endD)) → c.legsOf i t = ls →
          inv8 c h n1 n2 (todo.map (fun p => D.tup [.int (p.2 : Nat), c.endD p.1])) [some c.d, some (.obj h.length), some (.obj n1), some (.int (i : Nat)), some (c.endD t), b5] h4 := fun h4 ls b5 y1 y2 y3 y4 y5 =>
        ⟨done ++ [(t, i)], todo, _, _, _, by rw [f1]; simp, rfl, rfl, y1, by rw [y2, List.flatMap_append, List.map_append]; simp [y5], y3, y4⟩
      have lb : ∀ ls : List Leg, ls.length ≤ 2 → ((done.flatMap fun p => c.legsOf p.2 p.1).map Leg.d ++ ls.map Leg.d).length < LINE := fun ls hl => line_gt (by rw [List.length_append, List.length_map, List.length_map]; omega)
      cases e0 : c.bd t 0 with
      | none =>
        simp only [Option.isNone, rules, bindG, bindGs, wipeE, placed, Nat.reduceAdd, Nat.reduceSub, Nat.reduceLeDiff, Nat.reduceLT, reduceIte, Int.reduceSub, Int.reduceAdd, Int.reduceMul]
        cases e1 : c.bd t 1 with
        | none =>
          simp only [Option.isNone, rules, bindG, bindGs, wipeE, placed, Nat.reduceAdd, Nat.reduceSub, Nat.reduceLeDiff, Nat.reduceLT, reduceIte, Int.reduceSub, Int.reduceAdd, Int.reduceMul]
          exact fin _ [] _ x3 (by rw [f3]; simp) f4 f5 (by unfold Ch.legsOf; rw [e0, e1]; rfl)
        | some b =>
          simp only [Option.isNone, rules, bindG, bindGs, wipeE, placed, Nat.reduceAdd, Nat.reduceSub, Nat.reduceLeDiff, Nat.reduceLT, reduceIte, Int.reduceSub, Int.reduceAdd, Int.reduceMul, end0, ex_some, isLst_ok f3]
          refine ⟨(), ?_⟩
          refine wp_appD f3 (by have := lb [] (by decide); simpa using this) ?_
          exact fin _ [⟨c.ix t.oth, c.ix t.one, b, tagD i 1⟩] _ (x3.set (Nat.le_refl _)) (set_at f3) (by rw [List.getElem?_set_ne (by omega)]; exact f4) (by rw [List.getElem?_set_ne (by omega)]; exact f5) (by unfold Ch.legsOf; rw [e0, e1]; rfl)
      | some b =>
        simp only [Option.isNone, rules, bindG, bindGs, wipeE, placed, Nat.reduceAdd, Nat.reduceSub, Nat.reduceLeDiff, Nat.reduceLT, reduceIte, Int.reduceSub, Int.reduceAdd, Int.reduceMul, end1, ex_some, isLst_ok f3]
        refine ⟨(), wp_app1 f3 (by have := lb [] (by decide); simpa using this) fun h4 u4 g3 => ?_⟩
        have g4 := u4.get f4 (by omega)
        have g5 := u4.get f5 (by omega)
        have y3 := u4.ex x3 (.inl (Nat.le_refl _))
        simp only [k0 _ g4, rules, bindG, bindGs, wipeE, placed, Nat.reduceAdd, Nat.reduceSub, Nat.reduceLeDiff, Nat.reduceLT, reduceIte, Int.reduceSub, Int.reduceAdd, Int.reduceMul, ex_some, isN_od]
        cases e1 : c.bd t 1 with
        | none =>
          simp only [Option.isNone, rules, bindG, bindGs, wipeE, placed, Nat.reduceAdd, Nat.reduceSub, Nat.reduceLeDiff, Nat.reduceLT, reduceIte, Int.reduceSub, Int.reduceAdd, Int.reduceMul]
          exact fin _ [⟨c.ix t.one, c.ix t.oth, b, tagD i 0⟩] _ y3 g3 g4 g5 (by unfold Ch.legsOf; rw [e0, e1]; rfl)
        | some b2 =>
          simp only [Option.isNone, rules, bindG, bindGs, wipeE, placed, Nat.reduceAdd, Nat.reduceSub, Nat.reduceLeDiff, Nat.reduceLT, reduceIte, Int.reduceSub, Int.reduceAdd, Int.reduceMul, end0, ex_some, isLst_ok g3]
          refine ⟨(), ?_⟩
          refine wp_appD g3 (by exact lb [⟨c.ix t.one, c.ix t.oth, b, tagD i 0⟩] (by show 1 ≤ 2; omega)) ?_
          exact fin _ [⟨c.ix t.one, c.ix t.oth, b, tagD i 0⟩, ⟨c.ix t.oth, c.ix t.one, b2, tagD i 1⟩] _ (y3.set (Nat.le_refl _)) (by rw [set_at g3, List.append_assoc]; rfl) (by rw [List.getElem?_set_ne (by omega)]; exact g4) (by rw [List.getElem?_set_ne (by omega)]; exact g5) (by unfold Ch.legsOf; rw [e0, e1]; rfl)
  · rintro env h3 ⟨done, todo, a3, a4, a5, f1, f2, rfl, x3, f3, f4, f5⟩
    cases todo with
    | cons t todo => cases f2
    | nil =>
      rw [List.append_nil] at f1
      refine ⟨Ks.one f5, ?_⟩
      rw [show b8.drop 3 = [CS.ret _] from rfl]
      simp only [rules, bindG, bindGs, wipeE, placed, Nat.reduceAdd, Nat.reduceSub, Nat.reduceLeDiff, Nat.reduceLT, reduceIte, Int.reduceSub, Int.reduceAdd, Int.reduceMul]
      rw [← f1] at f3
      exact q h3 _ (Nat.le_refl _) x3 f3
end K76

set_option maxHeartbeats 2000000
/-! LC: going round the legs by laps. -/
namespace K76
open Mi
open PySem (Str PyData)
variable {w k : Nat} {h : MH} {Q : D → MH → Prop} {c : Ch}
/-! ### rows by number -/
def rowD (n : Nat) (f : Nat → D) : List D := (List.range n).map f
theorem rowD_len {n : Nat} {f : Nat → D} : (rowD n f).length = n := by unfold rowD; rw [List.length_map, List.length_range]
theorem rowD_get {n v : Nat} {f : Nat → D} (hv : v < n) : (rowD n f)[v]? = some (f v) := by
  unfold rowD
  rw [List.getElem?_map, List.getElem?_range hv]
  rfl
theorem rowD_at {n v : Nat} {f : Nat → D} (hv : v < n) : atI (rowD n f) (v : Int) = some (f v) := by rw [at_nat' (by rw [rowD_len]; exact hv), rowD_get hv]
theorem rowD_set {n v : Nat} {f : Nat → D} {x : D} : (rowD n f).set v x = rowD n (SP.up f v x) := by
  refine List.ext_getElem? fun i => ?_
  by_cases hi : i < n
  · rw [rowD_get hi]
    by_cases e : i = v
    · subst e
      rw [List.getElem?_set_self (by rw [rowD_len]; exact hi), SP.up_same]
    · rw [List.getElem?_set_ne (Ne.symm e), rowD_get hi, SP.up_ne e]
  · rw [List.getElem?_eq_none (by rw [List.length_set, rowD_len]; omega), List.getElem?_eq_none (by rw [rowD_len]; omega)]
theorem rowD_rep {n : Nat} {x : D} : (List.replicate n [x]).flatten = rowD n fun _ => x := by
  have e : (List.replicate n [x]).flatten = List.replicate n x := by
    induction n with
    | zero => rfl
    | succ n ih => rw [List.replicate_succ, List.flatten_cons, ih]; rfl
  rw [e]
  unfold rowD
  rw [List.map_const', List.length_range]
theorem rowD_congr {n : Nat} {f g : Nat → D} (e : ∀ v, v < n → f v = g v) : rowD n f = rowD n g := List.map_congr_left fun v hv => e v (List.mem_range.mp hv)
theorem up_map {α : Type} {f : Nat → α} {g : α → D} {v : Nat} {x : α} : SP.up (fun u => g (f u)) v (g x) = fun u => g (SP.up f v x u) := by
  funext u
  by_cases e : u = v
  · subst e; rw [SP.up_same, SP.up_same]
  · rw [SP.up_ne e, SP.up_ne e]
theorem o_repL {n m : Nat} {xs : List D} (e : h[n]? = some (.lst xs)) (hm : m ≤ 1000) (hl : xs.length ≤ 1000) (q : Q (.obj h.length) (h ++ [.lst (List.replicate m xs).flatten])) : wp (binD .mul (.obj n) (.int (m : Nat))) h Q := by
  unfold binD
  dsimp only
  rw [wp_bnd, wp_rd]
  refine ⟨xs, lstAt_iff.mpr e, ?_⟩
  rw [if_pos]
  · rw [Int.toNat_natCast]
    exact wp_new.mpr q
  · simp only [Bool.and_eq_true, decide_eq_true_eq]
    refine ⟨⟨by omega, by omega⟩, line_ge ?_⟩
    rw [Int.toNat_natCast]
    have := Nat.mul_le_mul hl hm
    omega
theorem w62 {i : Int} (h0 : -1000000000 ≤ i) (h1 : i ≤ 1000000000) : within62 i = true := by
  unfold within62
  simp only [Bool.and_eq_true, decide_eq_true_eq]
  omega
theorem rngL_succ {lo : Int} {n : Nat} : rngL lo (n + 1) = .int lo :: rngL (lo + 1) n := by
  unfold rngL
  rw [List.range_succ_eq_map, List.map_cons, List.map_map]
  congr 1
  · simp
  · apply List.map_congr_left
    intro i _
    simp only [Function.comp]
    congr 1
    omega
theorem rngL_len {lo : Int} {n : Nat} : (rngL lo n).length = n := by
  unfold rngL
  rw [List.length_map, List.length_range]
theorem w_rng1' {G : Ga} {env : Env} {b : CE} {QI : List D × Kp → MH → Prop} : wp (evI G (.rng1 b) env) h QI ↔ wp (evE G b env) h fun y h => ∃ j, y = .int j ∧ within62 j = true ∧ QI (rngL 0 j.toNat, []) h := w_rng1
theorem nonD_int {i : Int} : nonD (.int i) = false := rfl
theorem nonD_tup {xs : List D} : nonD (.tup xs) = false := rfl
theorem nonD_obj {n : Nat} : nonD (.obj n) = false := rfl
theorem nonD_non : nonD .non = true := rfl

/-! ### the state of laps -/
def bkD (ls : List Leg) : Option (Nat × Nat) → D
  | none => .non
  | some (u, j) => .tup [.int (u : Nat), (ls[j]?.map Leg.tag).getD .non]
def natO : Option Nat → D
  | none => .non
  | some n => .int (n : Nat)
def gs (ls : List Leg) : List SP.Lg := ls.map Leg.g
def st0 : SP.St := ⟨fun _ => some 0, fun _ => none, none⟩
theorem relax_isSome {i : Nat} {l : SP.Lg} {s : SP.St} (hs : ∀ v, (s.d v).isSome = true) : ∀ v, ((SP.relax i l s).d v).isSome = true := by
  intro v
  unfold SP.relax
  split
  · dsimp only
    by_cases e : v = l.v
    · subst e
      rw [SP.up_same]
      obtain ⟨a, ha⟩ := Option.isSome_iff_exists.mp (hs l.u)
      rw [ha]
      rfl
    · rw [SP.up_ne e]
      exact hs v
  · exact hs v
theorem runL_isSome : ∀ (r : List SP.Lg) (i : Nat) (s : SP.St), (∀ v, (s.d v).isSome = true) → ∀ v, ((SP.runL i r s).d v).isSome = true
  | [], _, _, h => h
  | l :: r, i, s, h => runL_isSome r (i + 1) _ (relax_isSome h)
/-- the heap holds the state -/
structure StH (ls : List Leg) (n tn bn : Nat) (s : SP.St) (h : MH) : Prop where
  ne : tn ≠ bn
  told : h[tn]? = some (.lst (rowD n fun v => od (s.d v)))
  back : h[bn]? = some (.lst (rowD n fun v => bkD ls (s.bk v)))
def invBi (ls : List Leg) (n ln tn bn : Nat) (h0 : MH) (e1 e5 : Option D) (F : SP.St) (ds : List D) (env : Env) (h' : MH) : Prop :=
  ∃ (i : Nat) (todo : List Leg) (s : SP.St) (a6 a7 a8 a9 : Option D), ds = todo.map Leg.d ∧ ls.drop i = todo ∧ SP.runL i (gs todo) s = F ∧ (∀ v, (s.d v).isSome = true) ∧
  env = [some (.obj ln), e1, some (.obj tn), some (.obj bn), some (natO s.fal), e5, a6, a7, a8, a9] ∧ StH ls n tn bn s h' ∧ Ex [tn, bn] h0 h'
def invBo (ls : List Leg) (n ln tn bn : Nat) (h0 : MH) (e1 : Option D) (F : SP.St) (ds : List D) (env : Env) (h' : MH) : Prop :=
  ∃ (r : Nat) (s : SP.St) (a5 a6 a7 a8 a9 : Option D), ds.length = r ∧ SP.laps (gs ls) r s = F ∧ (∀ v, (s.d v).isSome = true) ∧
  env = [some (.obj ln), e1, some (.obj tn), some (.obj bn), some (natO s.fal), a5, a6, a7, a8, a9] ∧ StH ls n tn bn s h' ∧ Ex [tn, bn] h0 h'
theorem p_back_legs {ln n : Nat} {ls : List Leg} (hl : h[ln]? = some (.lst (ls.map Leg.d))) (hn : n ≤ 900) (hu : ∀ l ∈ ls, l.u < n ∧ l.v < n)
    (q : ∀ h' tn bn s, s = SP.laps (gs ls) (n + 1) st0 → (∀ v, (s.d v).isSome = true) → h.length ≤ tn → h.length ≤ bn → Ex [] h h' → StH ls n tn bn s h' → Q (.tup [.obj tn, .obj bn, natO s.fal]) h') :
    wp (Gn cds w (k + 1) 9 [.obj ln, .int (n : Nat)]) h Q := by
  have lnl : ln < h.length := (List.getElem?_eq_some_iff.mp hl).1
  rw [g9, w_run]
  refine ⟨rfl, ?_⟩
  rw [show b9 = CS.set _ _ :: CS.set _ _ :: CS.set _ _ :: CS.for _ _ (forB (b9.getD 3 .pass)) :: b9.drop 4 from rfl, s_cons]
  simp only [rules, bindG, bindGs, wipeE, placed, Nat.reduceAdd, Nat.reduceSub, Nat.reduceLeDiff, Nat.reduceLT, reduceIte, Int.reduceSub, Int.reduceAdd, Int.reduceMul]
  refine o_repL (by rw [List.getElem?_concat_length]) (by omega) (by decide) ?_
  rw [rowD_rep]
  try simp only [rules, bindG, bindGs, wipeE, placed, Nat.reduceAdd, Nat.reduceSub, Nat.reduceLeDiff, Nat.reduceLT, reduceIte, Int.reduceSub, Int.reduceAdd, Int.reduceMul]
  refine o_repL (by rw [List.getElem?_concat_length]) (by omega) (by decide) ?_
  rw [rowD_rep, w_rng1']
  try simp only [rules, bindG, bindGs, wipeE, placed, Nat.reduceAdd, Nat.reduceSub, Nat.reduceLeDiff, Nat.reduceLT, reduceIte, Int.reduceSub, Int.reduceAdd, Int.reduceMul]
  refine ⟨_, rfl, w62 (by omega) (by omega), ?_⟩
  rw [show ((n : Int) + 1).toNat = n + 1 by omega]
  have gl1 : (h ++ [MO.lst [D.int 0]]).length = h.length + 1 := by rw [List.length_append]; rfl
  have gl2 : (h ++ [MO.lst [D.int 0]] ++ [MO.lst (rowD n fun _ => D.int 0)] ++ [MO.lst [D.non]]).length = h.length + 3 := by rw [List.length_append, List.length_append, List.length_append]; rfl
  have S0 : StH ls n (h.length + 1) (h.length + 3) st0 (h ++ [MO.lst [D.int 0]] ++ [MO.lst (rowD n fun _ => D.int 0)] ++ [MO.lst [D.non]] ++ [MO.lst (rowD n fun _ => D.non)]) := by
    refine ⟨by omega, ?_, ?_⟩
    · rw [List.append_assoc, List.append_assoc, List.append_assoc, List.getElem?_append_right (by omega), show h.length + 1 - h.length = 1 by omega]
      rfl
    · rw [← gl2, List.getElem?_concat_length]
      rfl
  have X0 : Ex [] h (h ++ [MO.lst [D.int 0]] ++ [MO.lst (rowD n fun _ => D.int 0)] ++ [MO.lst [D.non]] ++ [MO.lst (rowD n fun _ => D.non)]) := by
    rw [List.append_assoc, List.append_assoc, List.append_assoc]
    exact Ex.app
  rw [gl1, gl2]
  generalize (h ++ [MO.lst [D.int 0]] ++ [MO.lst (rowD n fun _ => D.int 0)] ++ [MO.lst [D.non]] ++ [MO.lst (rowD n fun _ => D.non)]) = h2 at S0 X0 ⊢
  have fin : ∀ (h' : MH) (s : SP.St), s = SP.laps (gs ls) (n + 1) st0 → (∀ v, (s.d v).isSome = true) → StH ls n (h.length + 1) (h.length + 3) s h' → Ex [h.length + 1, h.length + 3] h2 h' → Q (.tup [.obj (h.length + 1), .obj (h.length + 3), natO s.fal]) h' := fun h' s e1 e2 e3 e4 =>
    q h' _ _ s e1 e2 (by omega) (by omega) ⟨Nat.le_trans X0.1 e4.1, fun m _ hm => by
      rw [e4.2 m (by simp only [List.mem_cons, List.not_mem_nil, or_false]; omega) (Nat.lt_of_lt_of_le hm X0.1)]
      exact X0.2 m List.not_mem_nil hm⟩ e3
  generalize hF : SP.laps (gs ls) (n + 1) st0 = F at fin
  refine wp_for (Inv := invBo ls n ln (h.length + 1) (h.length + 3) h2 (some (.int (n : Nat))) F) ?_ ?_ ⟨n + 1, st0, _, _, _, _, _, by rw [rngL_len], hF, fun _ => rfl, rfl, S0, Ex.refl⟩
  · rintro d ds env h3 ⟨r, s, a5, a6, a7, a8, a9, i1, i2, i3, rfl, i5, i6⟩
    refine ⟨Ks.nil, _, rfl, ?_⟩
    cases r with
    | zero => cases i1
    | succ r =>
    rw [show forB (b9.getD 3 .pass) = CS.set _ _ :: CS.for _ _ (forB ((forB (b9.getD 3 .pass)).getD 1 .pass)) :: (forB (b9.getD 3 .pass)).drop 2 from rfl, s_cons]
    simp only [rules, bindG, bindGs, wipeE, placed, Nat.reduceAdd, Nat.reduceSub, Nat.reduceLeDiff, Nat.reduceLT, reduceIte, Int.reduceSub, Int.reduceAdd, Int.reduceMul]
    have hl3 : h3[ln]? = some (.lst (ls.map Leg.d)) := i6.at (by simp only [List.mem_cons, List.not_mem_nil, or_false]; omega) (X0.at0 hl)
    rw [wp_items_obj]
    refine ⟨_, lstAt_iff.mpr hl3, ?_⟩
    dsimp only
    refine wp_for (Inv := invBi ls n ln (h.length + 1) (h.length + 3) h2 (some (.int (n : Nat))) (some d) (SP.lap (gs ls) s)) ?_ ?_ ⟨0, ls, ⟨s.d, s.bk, none⟩, _, _, _, _, rfl, rfl, rfl, i3, rfl, ⟨i5.ne, i5.told, i5.back⟩, i6⟩
    · rintro d2 ds2 env2 h4 ⟨i, todo, s2, a6, a7, a8, a9, j1, j2, j3, j4, rfl, j5, j6⟩
      cases todo with
      | nil => cases j1
      | cons l todo =>
      rw [List.map_cons, List.cons.injEq] at j1
      obtain ⟨rfl, rfl⟩ := j1
      have hlm : ls[i]? = some l := by
        have := congrArg (fun x => x[0]?) j2
        simpa using this
      obtain ⟨hu1, hu2⟩ := hu l (List.mem_of_getElem? hlm)
      have hl4 : h4[ln]? = some (.lst (ls.map Leg.d)) := j6.at (by simp only [List.mem_cons, List.not_mem_nil, or_false]; omega) (X0.at0 hl)
      refine ⟨Ks.one hl4, _, rfl, ?_⟩
      obtain ⟨a, ha⟩ := Option.isSome_iff_exists.mp (j4 l.u)
      obtain ⟨cc, hc⟩ := Option.isSome_iff_exists.mp (j4 l.v)
      have nx : ls.drop (i + 1) = todo := by
        rw [← List.drop_drop, j2]
        rfl
      have at1' : ∀ {hh : MH} {v : Nat} {f : Nat → D}, hh[h.length + 1]? = some (.lst (rowD n f)) → v < n → idxD (.obj (h.length + 1)) (.int (v : Nat)) hh = some (f v) := fun e hv => by rw [ix_lst e, rowD_at hv]
      rw [show forB ((forB (b9.getD 3 .pass)).getD 1 .pass) = [CS.ifs _ (CS.put _ _ _ :: CS.put _ _ _ :: [CS.set _ _]) _] from rfl]
      simp only [rules, bindG, bindGs, wipeE, placed, Nat.reduceAdd, Nat.reduceSub, Nat.reduceLeDiff, Nat.reduceLT, reduceIte, Int.reduceSub, Int.reduceAdd, Int.reduceMul, at1' j5.told hu1, at1' j5.told hu2, ha, hc, od, ex_some]
      by_cases z : a + l.b < cc
      · rw [if_pos (decide_eq_true z)]
        refine wp_put1 j5.told (j := l.v) (by rw [rowD_len, ixN_nat (by omega) (by omega)]; rfl) fun h5 u5 g5 => ?_
        rw [rowD_set] at g5
        refine wp_put1 (u5.get j5.back (Ne.symm j5.ne)) (j := l.v) (by rw [rowD_len, ixN_nat (by omega) (by omega)]; rfl) fun h6 u6 g6 => ?_
        rw [rowD_set] at g6
        have hb : SP.better s2.d l.g = true := by
          unfold SP.better
          rw [show s2.d l.g.u = some a from ha]
          dsimp only
          rw [show s2.d l.g.v = some cc from hc]
          exact decide_eq_true z
        have er : SP.relax i l.g s2 = ⟨SP.up s2.d l.v (some (a + l.b)), SP.up s2.bk l.v (some (l.u, i)), some l.v⟩ := by
          unfold SP.relax
          rw [if_pos hb, show s2.d l.g.u = some a from ha]
          rfl
        refine ⟨i + 1, todo, SP.relax i l.g s2, _, _, _, _, rfl, nx, j3, relax_isSome j4, by rw [er]; rfl, ⟨j5.ne, ?_, ?_⟩, u6.ex (u5.ex j6 (.inr (by simp))) (.inr (by simp))⟩
        · rw [er, u6.get g5 j5.ne]
          congr 2
          exact congrArg _ (up_map (f := s2.d) (g := od) (x := some (a + l.b)))
        · rw [er, g6]
          congr 2
          have e2 : D.tup [D.int (l.u : Nat), l.tag] = bkD ls (some (l.u, i)) := by
            show _ = D.tup [_, (ls[i]?.map Leg.tag).getD .non]
            rw [hlm]
            rfl
          rw [e2]
          exact congrArg _ (up_map (f := s2.bk) (g := bkD ls) (x := some (l.u, i)))
      · rw [if_neg (by rw [decide_eq_false z]; exact Bool.false_ne_true)]
        have hb : ¬ SP.better s2.d l.g = true := by
          unfold SP.better
          rw [show s2.d l.g.u = some a from ha]
          dsimp only
          rw [show s2.d l.g.v = some cc from hc]
          exact fun e => z (of_decide_eq_true e)
        have er : SP.relax i l.g s2 = s2 := by
          unfold SP.relax
          rw [if_neg hb]
        refine ⟨i + 1, todo, s2, _, _, _, _, rfl, nx, ?_, j4, rfl, j5, j6⟩
        rw [← er]
        exact j3
    · rintro env2 h4 ⟨i, todo, s2, a6, a7, a8, a9, j1, j2, j3, j4, rfl, j5, j6⟩
      cases todo with
      | cons l todo => cases j1
      | nil =>
      have hl4 : h4[ln]? = some (.lst (ls.map Leg.d)) := j6.at (by simp only [List.mem_cons, List.not_mem_nil, or_false]; omega) (X0.at0 hl)
      refine ⟨Ks.one hl4, ?_⟩
      replace j3 : s2 = SP.lap (gs ls) s := j3
      rw [show (forB (b9.getD 3 .pass)).drop 2 = [CS.ifs _ _ _] from rfl]
      simp only [rules, bindG, bindGs, wipeE, placed, Nat.reduceAdd, Nat.reduceSub, Nat.reduceLeDiff, Nat.reduceLT, reduceIte, Int.reduceSub, Int.reduceAdd, Int.reduceMul]
      unfold SP.laps at i2
      rw [← j3] at i2
      cases hf : s2.fal with
      | none =>
        rw [hf, if_pos rfl] at i2
        simp only [natO, nonD, rules, bindG, bindGs, wipeE, placed, Nat.reduceAdd, Nat.reduceSub, Nat.reduceLeDiff, Nat.reduceLT, reduceIte, Int.reduceSub, Int.reduceAdd, Int.reduceMul]
        rw [show b9.drop 4 = [CS.ret _] from rfl]
        simp only [rules, bindG, bindGs, wipeE, placed, Nat.reduceAdd, Nat.reduceSub, Nat.reduceLeDiff, Nat.reduceLT, reduceIte, Int.reduceSub, Int.reduceAdd, Int.reduceMul]
        have q2 := fin h4 s2 i2 j4 j5 j6
        rw [hf] at q2
        exact q2
      | some f =>
        rw [hf, if_neg (by simp)] at i2
        simp only [natO, nonD, rules, bindG, bindGs, wipeE, placed, Nat.reduceAdd, Nat.reduceSub, Nat.reduceLeDiff, Nat.reduceLT, reduceIte, Int.reduceSub, Int.reduceAdd, Int.reduceMul]
        refine ⟨r, s2, some d, a6, a7, a8, a9, Nat.succ.inj i1, i2, j4, ?_, j5, j6⟩
        rw [hf]
        rfl
  · rintro env h3 ⟨r, s, a5, a6, a7, a8, a9, i1, i2, i3, rfl, i5, i6⟩
    refine ⟨Ks.nil, ?_⟩
    rw [← i1] at i2
    rw [show b9.drop 4 = [CS.ret _] from rfl]
    simp only [rules, bindG, bindGs, wipeE, placed, Nat.reduceAdd, Nat.reduceSub, Nat.reduceLeDiff, Nat.reduceLT, reduceIte, Int.reduceSub, Int.reduceAdd, Int.reduceMul]
    exact fin h3 s i2 i3 i5 i6
end K76

set_option maxHeartbeats 2000000
/-! LD: the ring behind a fall; what bars. -/
namespace K76
open Mi
open PySem (Str PyData)
variable {w k : Nat} {h : MH} {Q : D → MH → Prop} {c : Ch}
theorem m_insert0 {n : Nat} {xs : List D} {y : D} (e : h[n]? = some (.lst xs)) (hl : xs.length < LINE) (q : ∀ h', Upd n h h' → h'[n]? = some (.lst (y :: xs)) → Q .non h') : wp (metD .insert (.obj n) [.int 0, y]) h Q := by
  unfold metD
  dsimp only
  rw [wp_bnd, wp_rd]
  refine ⟨xs, lstAt_iff.mpr e, ?_⟩
  rw [if_pos (by simp only [Bool.and_eq_true, decide_eq_true_eq]; omega), wp_bnd]
  refine ⟨(), _, rfl, wp_ret.mpr (q _ Upd.set ?_)⟩
  rw [set_at e]
  rfl
def tagB (ls : List Leg) (s : SP.St) (v : Nat) : D := match s.bk v with
  | some (_, j) => (ls[j]?.map Leg.tag).getD .non
  | none => .non
def ringTags (ls : List Leg) (s : SP.St) (x : Nat) : Nat → List D
  | 0 => []
  | q + 1 => tagB ls s (SP.it (SP.par s) q x) :: ringTags ls s x q
theorem ringTags_len {ls : List Leg} {s : SP.St} {x : Nat} : ∀ q, (ringTags ls s x q).length = q
  | 0 => rfl
  | q + 1 => by rw [ringTags, List.length_cons, ringTags_len q]
theorem bkD_of {ls : List Leg} {s : SP.St} {v u j : Nat} (e : s.bk v = some (u, j)) : bkD ls (s.bk v) = .tup [.int (SP.par s v : Nat), tagB ls s v] := by
  rw [SP.par_of e]
  unfold tagB
  rw [e]
  rfl
def invRf (f n bn : Nat) (ls : List Leg) (s : SP.St) (h0 : MH) (ds : List D) (env : Env) (h' : MH) : Prop :=
  ∃ (m : Nat) (a4 a5 a6 a7 : Option D), m + ds.length = n ∧ env = [some (.obj bn), some (.int (f : Nat)), some (.int (n : Nat)), some (.int (SP.it (SP.par s) m f : Nat)), a4, a5, a6, a7] ∧ h' = h0
def invRw (f n bn x p ln : Nat) (ls : List Leg) (s : SP.St) (h0 : MH) (e4 : Option D) (m : Nat) (env : Env) (h' : MH) : Prop :=
  ∃ (q : Nat) (a7 : Option D), m + q = p ∧ q ≤ p ∧ env = [some (.obj bn), some (.int (f : Nat)), some (.int (n : Nat)), some (.int (SP.it (SP.par s) q x : Nat)), e4, some (.int (x : Nat)), some (.obj ln), a7] ∧
    Ex [] h0 h' ∧ h'[ln]? = some (.lst (ringTags ls s x q))
theorem p_ring_back (hw : 2000 ≤ w) {bn n f : Nat} {ls : List Leg} {s : SP.St} (hb : h[bn]? = some (.lst (rowD n fun v => bkD ls (s.bk v)))) (hn : n ≤ 900) (hu : ∀ l ∈ ls, l.u < n ∧ l.v < n) (F : SP.Fallen (gs ls) n s f)
    (q : ∀ h' m, 0 < m → m ≤ n → SP.it (SP.par s) m (SP.it (SP.par s) n f) = SP.it (SP.par s) n f → Ex [] h h' → Q (.tup (ringTags ls s (SP.it (SP.par s) n f) m)) h') :
    wp (Gn cds w (k + 1) 10 [.obj bn, .int (f : Nat), .int (n : Nat)]) h Q := by
  have lt : ∀ {u j : Nat} {l : SP.Lg}, (gs ls)[j]? = some l → l.v < n := fun e => by
    obtain ⟨g, hg, rfl⟩ := List.mem_map.mp (List.mem_of_getElem? e)
    exact (hu g hg).2
  rw [g10, w_run]
  refine ⟨rfl, ?_⟩
  rw [show b10 = CS.set _ _ :: CS.for _ _ (forB (b10.getD 1 .pass)) :: b10.drop 2 from rfl, s_cons]
  simp only [rules, bindG, bindGs, wipeE, placed, Nat.reduceAdd, Nat.reduceSub, Nat.reduceLeDiff, Nat.reduceLT, reduceIte, Int.reduceSub, Int.reduceAdd, Int.reduceMul]
  rw [w_rng1']
  simp only [rules, bindG, bindGs, wipeE, placed, Nat.reduceAdd, Nat.reduceSub, Nat.reduceLeDiff, Nat.reduceLT, reduceIte, Int.reduceSub, Int.reduceAdd, Int.reduceMul]
  refine ⟨_, rfl, w62 (by omega) (by omega), ?_⟩
  rw [Int.toNat_natCast]
  refine wp_for (Inv := invRf f n bn ls s h) ?_ ?_ ⟨0, _, _, _, _, by rw [rngL_len]; exact Nat.zero_add _, rfl, rfl⟩
  · rintro d ds env h2 ⟨m, a4, a5, a6, a7, i1, rfl, rfl⟩
    refine ⟨Ks.nil, _, rfl, ?_⟩
    rw [List.length_cons] at i1
    obtain ⟨u, j, l, e, e1, e2, e3⟩ := F.path m (by omega)
    have hx : SP.it (SP.par s) m f < n := by
      rw [← e3]
      exact lt e1 (u := u) (j := j)
    rw [show forB (b10.getD 1 .pass) = [CS.set _ _] from rfl]
    have e0 : idxD (.obj bn) (.int (SP.it (SP.par s) m f : Nat)) h2 = some (.tup [.int (SP.par s (SP.it (SP.par s) m f) : Nat), tagB ls s (SP.it (SP.par s) m f)]) := by
      rw [ix_lst hb, rowD_at hx, bkD_of e]
    simp only [rules, bindG, bindGs, wipeE, placed, Nat.reduceAdd, Nat.reduceSub, Nat.reduceLeDiff, Nat.reduceLT, reduceIte, Int.reduceSub, Int.reduceAdd, Int.reduceMul, e0, ex_some]
    exact ⟨m + 1, _, _, _, _, by omega, rfl, rfl⟩
  · rintro env h2 ⟨m, a4, a5, a6, a7, i1, rfl, rfl⟩
    refine ⟨Ks.nil, ?_⟩
    have hm : m = n := by simpa using i1
    subst hm
    obtain ⟨p, hp, R⟩ := F.ring
    generalize hx : SP.it (SP.par s) m f = x at R q ⊢
    rw [show b10.drop 2 = CS.set _ _ :: CS.set _ _ :: CS.whl (whlT (b10.getD 4 .pass)) (whlB (b10.getD 4 .pass)) :: b10.drop 5 from rfl, s_cons]
    simp only [rules, bindG, bindGs, wipeE, placed, Nat.reduceAdd, Nat.reduceSub, Nat.reduceLeDiff, Nat.reduceLT, reduceIte, Int.reduceSub, Int.reduceAdd, Int.reduceMul]
    refine wp_whl (Inv := invRw f m bn x p h2.length ls s h2 a4) ?_ (m := p) (show p < w by omega) ⟨0, a7, by omega, by omega, rfl, Ex.app, List.getElem?_concat_length ..⟩
    rintro r env h3 ⟨qq, a7, j1, j2, rfl, j4, j5⟩
    rw [show whlT (b10.getD 4 .pass) = CT.or (.not (.tru (.var 6))) (.cmp .ne (.var 3) (.var 5)) from rfl]
    simp only [rules, bindG, bindGs, wipeE, placed, Nat.reduceAdd, Nat.reduceSub, Nat.reduceLeDiff, Nat.reduceLT, reduceIte, Int.reduceSub, Int.reduceAdd, Int.reduceMul, t_lst j5, ex_some]
    have lin : h2.length ≤ h2.length := Nat.le_refl _
    have step : qq < p → wp (evSs (Gn cds w k) w (whlB (b10.getD 4 .pass)) [some (.obj bn), some (.int (f : Nat)), some (.int (m : Nat)), some (.int (SP.it (SP.par s) qq x : Nat)), a4, some (.int (x : Nat)), some (.obj h2.length), a7]) h3 fun r' h' => match r'.1 with
        | .nx => ∃ m', m' < r ∧ invRw f m bn x p h2.length ls s h2 a4 m' r'.2 h'
        | .ct => ∃ m', m' < r ∧ invRw f m bn x p h2.length ls s h2 a4 m' r'.2 h'
        | .bk => wp (evSs (Gn cds w k) w (List.drop 5 b10) r'.2) h' fun r h => match r.1 with | .nx => Q .non h | .ret x => Q x h | _ => False
        | .ret d => Q d h' := by
      intro hq
      obtain ⟨u, j, l, e, e1, e2, e3⟩ := R.bk qq
      have hxl : SP.it (SP.par s) qq x < m := by
        rw [← e3]
        exact lt e1 (u := u) (j := j)
      have e0 : idxD (.obj bn) (.int (SP.it (SP.par s) qq x : Nat)) h3 = some (.tup [.int (SP.par s (SP.it (SP.par s) qq x) : Nat), tagB ls s (SP.it (SP.par s) qq x)]) := by
        rw [ix_lst (j4.at0 hb), rowD_at hxl, bkD_of e]
      rw [show whlB (b10.getD 4 .pass) = [CS.asg _ _, CS.exp _] from rfl]
      simp only [rules, bindG, bindGs, wipeE, placed, Nat.reduceAdd, Nat.reduceSub, Nat.reduceLeDiff, Nat.reduceLT, reduceIte, Int.reduceSub, Int.reduceAdd, Int.reduceMul, e0, ex_some, isLst_ok j5]
      refine ⟨(), m_insert0 j5 (line_gt (by rw [ringTags_len]; omega)) fun h4 u4 g4 => ?_⟩
      exact ⟨p - (qq + 1), by omega, qq + 1, _, by omega, by omega, rfl, u4.ex j4 (.inl lin), g4⟩
    cases qq with
    | zero =>
      simp only [ringTags, List.isEmpty_nil, rules, bindG, bindGs, wipeE, placed, Nat.reduceAdd, Nat.reduceSub, Nat.reduceLeDiff, Nat.reduceLT, reduceIte, Int.reduceSub, Int.reduceAdd, Int.reduceMul]
      exact wp_mono (step R.pos) fun r' h' z => z
    | succ qq =>
      simp only [ringTags, List.isEmpty_cons, rules, bindG, bindGs, wipeE, placed, Nat.reduceAdd, Nat.reduceSub, Nat.reduceLeDiff, Nat.reduceLT, reduceIte, Int.reduceSub, Int.reduceAdd, Int.reduceMul]
      by_cases z : SP.it (SP.par s) (qq + 1) x = x
      · rw [show decide (((SP.it (SP.par s) (qq + 1) x : Nat) : Int) = (x : Nat)) = true from decide_eq_true (by rw [z])]
        simp only [rules, bindG, bindGs, wipeE, placed, Nat.reduceAdd, Nat.reduceSub, Nat.reduceLeDiff, Nat.reduceLT, reduceIte, Int.reduceSub, Int.reduceAdd, Int.reduceMul]
        rw [show b10.drop 5 = [CS.ret _] from rfl]
        simp only [rules, bindG, bindGs, wipeE, placed, Nat.reduceAdd, Nat.reduceSub, Nat.reduceLeDiff, Nat.reduceLT, reduceIte, Int.reduceSub, Int.reduceAdd, Int.reduceMul]
        refine o_tupL j5 ?_
        exact q h3 (qq + 1) (by omega) (by omega) z j4
      · rw [show decide (((SP.it (SP.par s) (qq + 1) x : Nat) : Int) = (x : Nat)) = false from decide_eq_false (by omega)]
        simp only [rules, bindG, bindGs, wipeE, placed, Nat.reduceAdd, Nat.reduceSub, Nat.reduceLeDiff, Nat.reduceLT, reduceIte, Int.reduceSub, Int.reduceAdd, Int.reduceMul]
        refine step ?_
        apply Decidable.byContradiction
        intro y
        have : qq + 1 = p := by omega
        rw [this] at z
        exact z R.per
theorem p_ring_of_legs (hw : 2000 ≤ w) {ln n : Nat} {ls : List Leg} (hl : h[ln]? = some (.lst (ls.map Leg.d))) (hn : n ≤ 900) (hu : ∀ l ∈ ls, l.u < n ∧ l.v < n) (hne : ∀ l ∈ ls, l.u ≠ l.v)
    (q0 : ∀ h', ¬ SP.Neg (gs ls) → Ex [] h h' → Q .non h')
    (q1 : ∀ h' s f m, SP.Fallen (gs ls) n s f → 0 < m → m ≤ n → SP.it (SP.par s) m (SP.it (SP.par s) n f) = SP.it (SP.par s) n f → Ex [] h h' → Q (.tup (ringTags ls s (SP.it (SP.par s) n f) m)) h') :
    wp (Gn cds w (k + 2) 11 [.obj ln, .int (n : Nat)]) h Q := by
  have hu' : ∀ l ∈ gs ls, l.u < n ∧ l.v < n := fun l hl => by
    obtain ⟨g, hg, rfl⟩ := List.mem_map.mp hl
    exact hu g hg
  have hne' : ∀ l ∈ gs ls, l.u ≠ l.v := fun l hl => by
    obtain ⟨g, hg, rfl⟩ := List.mem_map.mp hl
    exact hne g hg
  rw [g11, b11]
  simp only [rules, bindG, bindGs, wipeE, placed, Nat.reduceAdd, Nat.reduceSub, Nat.reduceLeDiff, Nat.reduceLT, reduceIte, Int.reduceSub, Int.reduceAdd, Int.reduceMul]
  refine p_back_legs hl hn hu fun h1 tn bn s es iso t1 t2 x1 S => ?_
  obtain ⟨e1, e2⟩ := SP.laps_end hne' hu' (s0 := st0) rfl
  have e3 := SP.laps_iff hne' hu'
  rw [← es] at e1 e2
  replace e3 : s.fal = none ↔ ¬ SP.Neg (gs ls) := by rw [es]; exact e3
  cases hf : s.fal with
  | none =>
    simp only [natO, nonD, rules, bindG, bindGs, wipeE, placed, Nat.reduceAdd, Nat.reduceSub, Nat.reduceLeDiff, Nat.reduceLT, reduceIte, Int.reduceSub, Int.reduceAdd, Int.reduceMul]
    exact q0 h1 (e3.mp hf) x1
  | some f =>
    simp only [natO, nonD, rules, bindG, bindGs, wipeE, placed, Nat.reduceAdd, Nat.reduceSub, Nat.reduceLeDiff, Nat.reduceLT, reduceIte, Int.reduceSub, Int.reduceAdd, Int.reduceMul]
    exact p_ring_back hw S.back hn hu (e2 f hf) fun h2 m m1 m2 m3 x2 => q1 h2 s f m (e2 f hf) m1 m2 m3 (x1.trans x2)
theorem legs_mem (ok : c.Ok) : ∀ l ∈ c.legs, l.u < c.ps.length ∧ l.v < c.ps.length ∧ l.u ≠ l.v := by
  intro l hl
  unfold Ch.legs at hl
  obtain ⟨⟨t, i⟩, hm, hl⟩ := List.mem_flatMap.mp hl
  have ht := List.mem_of_getElem? (List.mk_mem_zipIdx_iff_getElem?.mp hm)
  have en := ok.ends t ht
  have i1 := Ch.Ok.ix_lt en.1
  have i2 := Ch.Ok.ix_lt en.2
  have i3 : c.ix t.one ≠ c.ix t.oth := fun z => ok.ne t ht (ix_inj en.1 en.2 z)
  unfold Ch.legsOf at hl
  rcases List.mem_append.mp hl with hl | hl
  · cases e : c.bd t 0 with
    | none => rw [e] at hl; cases hl
    | some b =>
      rw [e] at hl
      rw [List.mem_singleton.mp hl]
      exact ⟨i1, i2, i3⟩
  · cases e : c.bd t 1 with
    | none => rw [e] at hl; cases hl
    | some b =>
      rw [e] at hl
      rw [List.mem_singleton.mp hl]
      exact ⟨i2, i1, i3.symm⟩
/-- no ring bars the chart -/
def Ch.Free (c : Ch) : Prop := ¬ SP.Neg (gs c.legs)
theorem ps_len {c : Ch} : idxD c.d (.int 1) h = some (.tup (c.ps.map pd)) := at1
theorem p_barring_ring (hw : 2000 ≤ w) (ok : c.Ok) (q0 : ∀ h', c.Free → Ex [] h h' → Q .non h')
    (q1 : ∀ h' s f m, SP.Fallen (gs c.legs) c.ps.length s f → 0 < m → m ≤ c.ps.length → SP.it (SP.par s) m (SP.it (SP.par s) c.ps.length f) = SP.it (SP.par s) c.ps.length f → Ex [] h h' → Q (.tup (ringTags c.legs s (SP.it (SP.par s) c.ps.length f) m)) h') :
    wp (Gn cds w (k + 5) 12 [c.d]) h Q := by
  rw [g12, b12]
  simp only [rules, bindG, bindGs, wipeE, placed, Nat.reduceAdd, Nat.reduceSub, Nat.reduceLeDiff, Nat.reduceLT, reduceIte, Int.reduceSub, Int.reduceAdd, Int.reduceMul]
  refine p_bounded_legs ok fun h1 n1 l1 x1 e1 => ?_
  simp only [ps_len, rules, bindG, bindGs, wipeE, placed, Nat.reduceAdd, Nat.reduceSub, Nat.reduceLeDiff, Nat.reduceLT, reduceIte, Int.reduceSub, Int.reduceAdd, Int.reduceMul]
  rw [List.length_map]
  exact p_ring_of_legs hw e1 ok.lp (fun l hl => ⟨(legs_mem ok l hl).1, (legs_mem ok l hl).2.1⟩) (fun l hl => (legs_mem ok l hl).2.2) (fun h2 hf x2 => q0 h2 hf (x1.trans x2)) fun h2 s f m F m1 m2 m3 x2 => q1 h2 s f m F m1 m2 m3 (x1.trans x2)
end K76

set_option maxHeartbeats 2000000
/-! LE: least sums from a place; greatest differences. -/
namespace K76
open Mi
open PySem (Str PyData)
variable {w k : Nat} {h : MH} {Q : D → MH → Prop} {c : Ch}
def dF (f : Nat) : Nat → Option Int := SP.up (fun _ => none) f (some 0)
def sF (f : Nat) : SP.St := ⟨dF f, fun _ => none, none⟩
structure StR (n tn bn : Nat) (ls : List Leg) (s : SP.St) (h : MH) : Prop where
  ne : tn ≠ bn
  told : h[tn]? = some (.lst (rowD n fun v => od (s.d v)))
  back : h[bn]? = some (.lst (rowD n fun v => bkD ls (s.bk v)))
/-- sums of walks from the place, at most 0 at it -/
structure WkF (ls : List Leg) (f : Nat) (s : SP.St) : Prop where
  wk : ∀ v c, s.d v = some c → SP.Wk (gs ls) f v c
  src : ∃ e, s.d f = some e ∧ e ≤ 0
theorem WkF.relax {ls : List Leg} {f i : Nat} {s : SP.St} {l : SP.Lg} (W : WkF ls f s) (hl : l ∈ gs ls) : WkF ls f (SP.relax i l s) := by
  refine ⟨SP.relax_wk W.wk hl, ?_⟩
  obtain ⟨e, h1, h2⟩ := W.src
  obtain ⟨e', h3, h4⟩ := SP.relax_le (i := i) (l := l) h1
  exact ⟨e', h3, by omega⟩
def invFi (ls : List Leg) (n ln tn bn f : Nat) (h0 : MH) (F : SP.St) (ds : List D) (env : Env) (h' : MH) : Prop :=
  ∃ (i : Nat) (todo : List Leg) (s : SP.St) (a6 a7 a8 a9 : Option D), ds = todo.map Leg.d ∧ ls.drop i = todo ∧ SP.runL i (gs todo) s = F ∧ WkF ls f s ∧
  env = [some (.obj ln), some (.int (n : Nat)), some (.int (f : Nat)), some (.obj tn), some (.obj bn), some (.bl s.fal.isSome), a6, a7, a8, a9] ∧ StR n tn bn ls s h' ∧ Ex [tn, bn] h0 h'
def invFo (ls : List Leg) (n ln tn bn f : Nat) (h0 : MH) (m : Nat) (env : Env) (h' : MH) : Prop :=
  ∃ (s : SP.St) (mv : Bool) (a6 a7 a8 a9 : Option D), WkF ls f s ∧
  env = [some (.obj ln), some (.int (n : Nat)), some (.int (f : Nat)), some (.obj tn), some (.obj bn), some (.bl mv), a6, a7, a8, a9] ∧ StR n tn bn ls s h' ∧ Ex [tn, bn] h0 h' ∧
  (mv = false ∧ (∀ l ∈ gs ls, SP.Sat s.d l) ∨ mv = true ∧ ∃ k t, m + k = n + 1 ∧ k ≤ n ∧ SP.Inv (gs ls) (dF f) k 0 ⟨s.d, s.bk, none⟩ t)
theorem p_reach_from (hw : 2000 ≤ w) {ln n f : Nat} {ls : List Leg} (hl : h[ln]? = some (.lst (ls.map Leg.d))) (hn : n ≤ 900) (hu : ∀ l ∈ ls, l.u < n ∧ l.v < n) (hne : ∀ l ∈ ls, l.u ≠ l.v) (hfr : ¬ SP.Neg (gs ls)) (hf : f < n)
    (q : ∀ h' tn bn (dd : Nat → Option Int), (∀ v, SP.Dist (gs ls) f v (dd v)) → Ex [] h h' → h.length ≤ tn → h'[tn]? = some (.lst (rowD n fun v => od (dd v))) → Q (.tup [.obj tn, .obj bn]) h') :
    wp (Gn cds w (k + 1) 14 [.obj ln, .int (n : Nat), .int (f : Nat)]) h Q := by
  have lnl : ln < h.length := (List.getElem?_eq_some_iff.mp hl).1
  have hu' : ∀ l ∈ gs ls, l.u < n ∧ l.v < n := fun l hl => by
    obtain ⟨g, hg, rfl⟩ := List.mem_map.mp hl
    exact hu g hg
  have hne' : ∀ l ∈ gs ls, l.u ≠ l.v := fun l hl => by
    obtain ⟨g, hg, rfl⟩ := List.mem_map.mp hl
    exact hne g hg
  rw [g14, w_run]
  refine ⟨rfl, ?_⟩
  rw [show b14 = CS.set _ _ :: CS.set _ _ :: CS.put _ _ _ :: CS.set _ _ :: CS.whl (whlT (b14.getD 4 .pass)) (whlB (b14.getD 4 .pass)) :: b14.drop 5 from rfl, s_cons]
  simp only [rules, bindG, bindGs, wipeE, placed, Nat.reduceAdd, Nat.reduceSub, Nat.reduceLeDiff, Nat.reduceLT, reduceIte, Int.reduceSub, Int.reduceAdd, Int.reduceMul]
  refine o_repL (by rw [List.getElem?_concat_length]) (by omega) (by decide) ?_
  rw [rowD_rep]
  try simp only [rules, bindG, bindGs, wipeE, placed, Nat.reduceAdd, Nat.reduceSub, Nat.reduceLeDiff, Nat.reduceLT, reduceIte, Int.reduceSub, Int.reduceAdd, Int.reduceMul]
  refine o_repL (by rw [List.getElem?_concat_length]) (by omega) (by decide) ?_
  rw [rowD_rep]
  try simp only [rules, bindG, bindGs, wipeE, placed, Nat.reduceAdd, Nat.reduceSub, Nat.reduceLeDiff, Nat.reduceLT, reduceIte, Int.reduceSub, Int.reduceAdd, Int.reduceMul]
  have gl1 : (h ++ [MO.lst [D.non]]).length = h.length + 1 := by rw [List.length_append]; rfl
  have gl2 : (h ++ [MO.lst [D.non]] ++ [MO.lst (rowD n fun _ => D.non)] ++ [MO.lst [D.non]]).length = h.length + 3 := by rw [List.length_append, List.length_append, List.length_append]; rfl
  have T0 : (h ++ [MO.lst [D.non]] ++ [MO.lst (rowD n fun _ => D.non)] ++ [MO.lst [D.non]] ++ [MO.lst (rowD n fun _ => D.non)])[h.length + 1]? = some (.lst (rowD n fun _ => D.non)) := by
    rw [List.append_assoc, List.append_assoc, List.append_assoc, List.getElem?_append_right (by omega), show h.length + 1 - h.length = 1 by omega]
    rfl
  have B0 : (h ++ [MO.lst [D.non]] ++ [MO.lst (rowD n fun _ => D.non)] ++ [MO.lst [D.non]] ++ [MO.lst (rowD n fun _ => D.non)])[h.length + 3]? = some (.lst (rowD n fun _ => D.non)) := by
    rw [← gl2, List.getElem?_concat_length]
  have X0 : Ex [] h (h ++ [MO.lst [D.non]] ++ [MO.lst (rowD n fun _ => D.non)] ++ [MO.lst [D.non]] ++ [MO.lst (rowD n fun _ => D.non)]) := by
    rw [List.append_assoc, List.append_assoc, List.append_assoc]
    exact Ex.app
  rw [gl1, gl2]
  have LL : (h ++ [MO.lst [D.non]] ++ [MO.lst (rowD n fun _ => D.non)] ++ [MO.lst [D.non]] ++ [MO.lst (rowD n fun _ => D.non)]).length = h.length + 4 := by rw [List.length_append, gl2]; rfl
  generalize (h ++ [MO.lst [D.non]] ++ [MO.lst (rowD n fun _ => D.non)] ++ [MO.lst [D.non]] ++ [MO.lst (rowD n fun _ => D.non)]) = h1 at T0 B0 X0 LL ⊢
  refine wp_put1 T0 (j := f) (by rw [rowD_len, ixN_nat (by omega) (by omega)]; rfl) fun h2 u2 g2 => ?_
  rw [rowD_set] at g2
  have X2 : Ex [] h h2 := u2.ex X0 (.inl (by omega))
  have hl2 : h2[ln]? = some (.lst (ls.map Leg.d)) := X2.at0 hl
  have S0 : StR n (h.length + 1) (h.length + 3) ls (sF f) h2 := by
    refine ⟨by omega, ?_, u2.get B0 (by omega)⟩
    rw [g2]
    congr 2
    exact congrArg _ (up_map (f := fun _ => none) (g := od) (x := some 0))
  have W0 : WkF ls f (sF f) := by
    refine ⟨fun v cc e => ?_, 0, (SP.up_same : dF f f = some 0), Int.le_refl _⟩
    by_cases z : v = f
    · subst z
      have e : SP.up (fun _ => none) v (some 0) v = some cc := e
      rw [SP.up_same] at e
      cases e
      exact .nil v
    · have e : SP.up (fun _ => none) f (some 0) v = some cc := e
      rw [SP.up_ne z] at e
      cases e
  refine wp_whl (Inv := invFo ls n ln (h.length + 1) (h.length + 3) f h2) ?_ (show n + 1 < w by omega) ⟨(sF f), true, _, _, _, _, W0, rfl, S0, Ex.refl, .inr ⟨rfl, 0, fun _ => 0, by omega, by omega, SP.Inv.start rfl rfl rfl⟩⟩
  rintro m env h3 ⟨s, mv, a6, a7, a8, a9, W, rfl, S, X3, hc⟩
  rw [show whlT (b14.getD 4 .pass) = CT.tru (.var 5) from rfl]
  simp only [rules, bindG, bindGs, wipeE, placed, Nat.reduceAdd, Nat.reduceSub, Nat.reduceLeDiff, Nat.reduceLT, reduceIte, Int.reduceSub, Int.reduceAdd, Int.reduceMul, ex_some]
  have hl3 : h3[ln]? = some (.lst (ls.map Leg.d)) := X3.at (by simp only [List.mem_cons, List.not_mem_nil, or_false]; omega) hl2
  rcases hc with ⟨rfl, hs⟩ | ⟨rfl, kk, t, hm, hk, I⟩
  · simp only [rules, bindG, bindGs, wipeE, placed, Nat.reduceAdd, Nat.reduceSub, Nat.reduceLeDiff, Nat.reduceLT, reduceIte, Int.reduceSub, Int.reduceAdd, Int.reduceMul]
    rw [show b14.drop 5 = [CS.ret _] from rfl]
    simp only [rules, bindG, bindGs, wipeE, placed, Nat.reduceAdd, Nat.reduceSub, Nat.reduceLeDiff, Nat.reduceLT, reduceIte, Int.reduceSub, Int.reduceAdd, Int.reduceMul]
    refine q h3 _ _ s.d (fun v => SP.sat_dist W.wk W.src hs v) ⟨Nat.le_trans X2.1 X3.1, fun m _ hm => ?_⟩ (by omega) S.told
    rw [X3.2 m (by simp only [List.mem_cons, List.not_mem_nil, or_false]; omega) (Nat.lt_of_lt_of_le hm X2.1)]
    exact X2.2 m List.not_mem_nil hm
  · simp only [rules, bindG, bindGs, wipeE, placed, Nat.reduceAdd, Nat.reduceSub, Nat.reduceLeDiff, Nat.reduceLT, reduceIte, Int.reduceSub, Int.reduceAdd, Int.reduceMul]
    rw [show whlB (b14.getD 4 .pass) = CS.set _ _ :: CS.for _ _ (forB ((whlB (b14.getD 4 .pass)).getD 1 .pass)) :: [] from rfl, s_cons]
    simp only [rules, bindG, bindGs, wipeE, placed, Nat.reduceAdd, Nat.reduceSub, Nat.reduceLeDiff, Nat.reduceLT, reduceIte, Int.reduceSub, Int.reduceAdd, Int.reduceMul]
    rw [wp_items_obj]
    refine ⟨_, lstAt_iff.mpr hl3, ?_⟩
    dsimp only
    have W1 : WkF ls f ⟨s.d, s.bk, none⟩ := ⟨W.wk, W.src⟩
    obtain ⟨t', I'⟩ := I.lap hne'
    refine wp_for (Inv := invFi ls n ln (h.length + 1) (h.length + 3) f h2 (SP.lap (gs ls) s)) ?_ ?_ ⟨0, ls, ⟨s.d, s.bk, none⟩, _, _, _, _, rfl, rfl, rfl, W1, rfl, ⟨S.ne, S.told, S.back⟩, X3⟩
    · rintro d2 ds2 env2 h4 ⟨i, todo, s2, a6, a7, a8, a9, j1, j2, j3, j4, rfl, j5, j6⟩
      cases todo with
      | nil => cases j1
      | cons l todo =>
      rw [List.map_cons, List.cons.injEq] at j1
      obtain ⟨rfl, rfl⟩ := j1
      have hlm : ls[i]? = some l := by
        have := congrArg (fun x => x[0]?) j2
        simpa using this
      obtain ⟨hu1, hu2⟩ := hu l (List.mem_of_getElem? hlm)
      have hl4 : h4[ln]? = some (.lst (ls.map Leg.d)) := j6.at (by simp only [List.mem_cons, List.not_mem_nil, or_false]; omega) hl2
      refine ⟨Ks.one hl4, _, rfl, ?_⟩
      have nx : ls.drop (i + 1) = todo := by
        rw [← List.drop_drop, j2]
        rfl
      have hg : l.g ∈ gs ls := List.mem_map.mpr ⟨l, List.mem_of_getElem? hlm, rfl⟩
      have at1' : ∀ {hh : MH} {v : Nat} {f : Nat → D}, hh[h.length + 1]? = some (.lst (rowD n f)) → v < n → idxD (.obj (h.length + 1)) (.int (v : Nat)) hh = some (f v) := fun e hv => by rw [ix_lst e, rowD_at hv]
      -- the leg is taken
      have take : ∀ a, s2.d l.u = some a → (∀ cc, s2.d l.v = some cc → a + l.b < cc) →
          wp (evSs (Gn cds w k) w [.put (.var 3) (.var 7) (.bin .add (.idx (.var 3) (.var 6)) (.var 8)), .put (.var 4) (.var 7) (.tup [(.var 6), (.var 9)]), .set 5 (.cst (.bl true))]
            [some (.obj ln), some (.int (n : Nat)), some (.int (f : Nat)), some (.obj (h.length + 1)), some (.obj (h.length + 3)), some (.bl s2.fal.isSome), some (.int (l.u : Nat)), some (.int (l.v : Nat)), some (.int l.b), some l.tag]) h4 fun r h' => r.1 = .nx ∧ invFi ls n ln (h.length + 1) (h.length + 3) f h2 (SP.lap (gs ls) s) (todo.map Leg.d) r.2 h' := by
        intro a ha hlt
        simp only [rules, bindG, bindGs, wipeE, placed, Nat.reduceAdd, Nat.reduceSub, Nat.reduceLeDiff, Nat.reduceLT, reduceIte, Int.reduceSub, Int.reduceAdd, Int.reduceMul, at1' j5.told hu1, ha, od, ex_some]
        refine wp_put1 j5.told (j := l.v) (by rw [rowD_len, ixN_nat (by omega) (by omega)]; rfl) fun h5 u5 g5 => ?_
        rw [rowD_set] at g5
        refine wp_put1 (u5.get j5.back (Ne.symm j5.ne)) (j := l.v) (by rw [rowD_len, ixN_nat (by omega) (by omega)]; rfl) fun h6 u6 g6 => ?_
        rw [rowD_set] at g6
        have hb : SP.better s2.d l.g = true := by
          unfold SP.better
          rw [show s2.d l.g.u = some a from ha]
          dsimp only
          split
          · rfl
          · rename_i cc hcc
            exact decide_eq_true (hlt cc hcc)
        have er : SP.relax i l.g s2 = ⟨SP.up s2.d l.v (some (a + l.b)), SP.up s2.bk l.v (some (l.u, i)), some l.v⟩ := by
          unfold SP.relax
          rw [if_pos hb, show s2.d l.g.u = some a from ha]
          rfl
        refine ⟨i + 1, todo, SP.relax i l.g s2, _, _, _, _, rfl, nx, j3, j4.relax hg, by rw [er]; rfl, ⟨j5.ne, ?_, ?_⟩, u6.ex (u5.ex j6 (.inr (by simp))) (.inr (by simp))⟩
        · rw [er, u6.get g5 j5.ne]
          congr 2
          exact congrArg _ (up_map (f := s2.d) (g := od) (x := some (a + l.b)))
        · rw [er, g6]
          congr 2
          have e2 : D.tup [D.int (l.u : Nat), l.tag] = bkD ls (some (l.u, i)) := by
            show _ = D.tup [_, (ls[i]?.map Leg.tag).getD .non]
            rw [hlm]
            rfl
          rw [e2]
          exact congrArg _ (up_map (f := s2.bk) (g := bkD ls) (x := some (l.u, i)))
      have skip : SP.better s2.d l.g = false → invFi ls n ln (h.length + 1) (h.length + 3) f h2 (SP.lap (gs ls) s) (todo.map Leg.d) [some (.obj ln), some (.int (n : Nat)), some (.int (f : Nat)), some (.obj (h.length + 1)), some (.obj (h.length + 3)), some (.bl s2.fal.isSome), some (.int (l.u : Nat)), some (.int (l.v : Nat)), some (.int l.b), some l.tag] h4 := fun hb => by
        have er : SP.relax i l.g s2 = s2 := by
          unfold SP.relax
          rw [hb, if_neg Bool.false_ne_true]
        refine ⟨i + 1, todo, s2, _, _, _, _, rfl, nx, ?_, j4, rfl, j5, j6⟩
        rw [← er]
        exact j3
      rw [show forB ((whlB (b14.getD 4 .pass)).getD 1 .pass) = [CS.ifs (CT.and (.cmp .notN (.idx (.var 3) (.var 6)) (.cst .non)) (.or (.cmp .isN (.idx (.var 3) (.var 7)) (.cst .non)) (.cmp .lt (.bin .add (.idx (.var 3) (.var 6)) (.var 8)) (.idx (.var 3) (.var 7))))) [.put (.var 3) (.var 7) (.bin .add (.idx (.var 3) (.var 6)) (.var 8)), .put (.var 4) (.var 7) (.tup [(.var 6), (.var 9)]), .set 5 (.cst (.bl true))] []] from rfl, s_cons, s_ifs]
      generalize hbody : [CS.put (.var 3) (.var 7) (.bin .add (.idx (.var 3) (.var 6)) (.var 8)), .put (.var 4) (.var 7) (.tup [(.var 6), (.var 9)]), .set 5 (.cst (.bl true))] = body at take ⊢
      simp only [rules, bindG, bindGs, wipeE, placed, Nat.reduceAdd, Nat.reduceSub, Nat.reduceLeDiff, Nat.reduceLT, reduceIte, Int.reduceSub, Int.reduceAdd, Int.reduceMul, at1' j5.told hu1, at1' j5.told hu2, ex_some, isN_od]
      cases ha : s2.d l.u with
      | none =>
        simp only [Option.isNone, rules, bindG, bindGs, wipeE, placed, Nat.reduceAdd, Nat.reduceSub, Nat.reduceLeDiff, Nat.reduceLT, reduceIte, Int.reduceSub, Int.reduceAdd, Int.reduceMul]
        exact skip (by unfold SP.better; rw [show s2.d l.g.u = none from ha])
      | some a =>
        simp only [Option.isNone, od, rules, bindG, bindGs, wipeE, placed, Nat.reduceAdd, Nat.reduceSub, Nat.reduceLeDiff, Nat.reduceLT, reduceIte, Int.reduceSub, Int.reduceAdd, Int.reduceMul]
        cases hcv : s2.d l.v with
        | none =>
          simp only [Option.isNone, rules, bindG, bindGs, wipeE, placed, Nat.reduceAdd, Nat.reduceSub, Nat.reduceLeDiff, Nat.reduceLT, reduceIte, Int.reduceSub, Int.reduceAdd, Int.reduceMul]
          refine wp_mono (take a ha fun cc e => by rw [hcv] at e; cases e) fun r h' z => ?_
          obtain ⟨o, e⟩ := r
          obtain ⟨z1, z2⟩ := z
          dsimp only at z1
          subst z1
          exact z2
        | some cc =>
          simp only [Option.isNone, od, rules, bindG, bindGs, wipeE, placed, Nat.reduceAdd, Nat.reduceSub, Nat.reduceLeDiff, Nat.reduceLT, reduceIte, Int.reduceSub, Int.reduceAdd, Int.reduceMul, at1' j5.told hu2, hcv, ex_some]
          by_cases z : a + l.b < cc
          · rw [if_pos (decide_eq_true z)]
            refine wp_mono (take a ha fun c2 e => by rw [hcv] at e; cases e; exact z) fun r h' z => ?_
            obtain ⟨o, e⟩ := r
            obtain ⟨z1, z2⟩ := z
            dsimp only at z1
            subst z1
            exact z2
          · rw [if_neg (by rw [decide_eq_false z]; exact Bool.false_ne_true)]
            exact skip (by unfold SP.better; rw [show s2.d l.g.u = some a from ha]; dsimp only; rw [show s2.d l.g.v = some cc from hcv]; exact decide_eq_false z)
    · rintro env2 h4 ⟨i, todo, s2, a6, a7, a8, a9, j1, j2, j3, j4, rfl, j5, j6⟩
      cases todo with
      | cons l todo => cases j1
      | nil =>
      have hl4 : h4[ln]? = some (.lst (ls.map Leg.d)) := j6.at (by simp only [List.mem_cons, List.not_mem_nil, or_false]; omega) hl2
      refine ⟨Ks.one hl4, ?_⟩
      replace j3 : s2 = SP.lap (gs ls) s := j3
      subst j3
      simp only [rules, bindG, bindGs, wipeE, placed, Nat.reduceAdd, Nat.reduceSub, Nat.reduceLeDiff, Nat.reduceLT, reduceIte, Int.reduceSub, Int.reduceAdd, Int.reduceMul]
      cases hf2 : (SP.lap (gs ls) s).fal with
      | none =>
        refine ⟨0, by omega, SP.lap (gs ls) s, false, _, _, _, _, j4, rfl, j5, j6, .inl ⟨rfl, fun l hl => ?_⟩⟩
        obtain ⟨j, hj⟩ := List.getElem?_of_mem hl
        exact I'.fal0 hf2 j l (List.getElem?_eq_some_iff.mp hj).1 hj
      | some ff =>
        have ht := I'.fal ff hf2
        have hlt : kk < n := by
          apply Decidable.byContradiction
          intro z
          have : n = kk := by omega
          exact hfr (I'.neg ht this hu')
        exact ⟨n - kk, by omega, SP.lap (gs ls) s, true, _, _, _, _, j4, rfl, j5, j6, .inr ⟨rfl, kk + 1, t', by omega, by omega, I'.next⟩⟩
end K76

set_option maxHeartbeats 2000000
/-! LF: greatest differences; parts. -/
namespace K76
open Mi
open PySem (Str PyData)
variable {w k : Nat} {h : MH} {Q : D → MH → Prop} {c : Ch}
theorem c_eqS {a b : Str} (ha : PyData.strOk a = true) (hb : PyData.strOk b = true) : cmpD .eq (.str a) (.str b) h = some (decide (a = b)) := by
  show eqD h _ _ = _
  exact eq_str ha hb
theorem c_neS {a b : Str} (ha : PyData.strOk a = true) (hb : PyData.strOk b = true) : cmpD .ne (.str a) (.str b) h = some (!decide (a = b)) := by
  show (eqD h _ _).map _ = _
  rw [eq_str ha hb]
  rfl
theorem p_unlike_places {a b : Str} (ha : PyData.strOk a = true) (hb : PyData.strOk b = true) (hne : a ≠ b) (q : Q .non h) : wp (Gn cds w (k + 1) 5 [.str a, .str b]) h Q := by
  rw [g5, b5]
  simp only [rules, bindG, bindGs, wipeE, placed, Nat.reduceAdd, Nat.reduceSub, Nat.reduceLeDiff, Nat.reduceLT, reduceIte, Int.reduceSub, Int.reduceAdd, Int.reduceMul, c_eqS ha hb, decide_eq_false hne, ex_some]
  exact q
theorem p_not_barred (hw : 2000 ≤ w) (ok : c.Ok) (hf : c.Free) (q : ∀ h', Ex [] h h' → Q .non h') : wp (Gn cds w (k + 6) 13 [c.d]) h Q := by
  rw [g13, b13]
  simp only [rules, bindG, bindGs, wipeE, placed, Nat.reduceAdd, Nat.reduceSub, Nat.reduceLeDiff, Nat.reduceLT, reduceIte, Int.reduceSub, Int.reduceAdd, Int.reduceMul]
  refine p_barring_ring hw ok (fun h1 _ x1 => ?_) fun h1 s f m F _ _ _ x1 => absurd F.neg hf
  simp only [nonD_non, rules, bindG, bindGs, wipeE, placed, Nat.reduceAdd, Nat.reduceSub, Nat.reduceLeDiff, Nat.reduceLT, reduceIte, Int.reduceSub, Int.reduceAdd, Int.reduceMul]
  exact q h1 x1
theorem legs_u (ok : c.Ok) : ∀ l ∈ c.legs, l.u < c.ps.length ∧ l.v < c.ps.length := fun l hl => ⟨(legs_mem ok l hl).1, (legs_mem ok l hl).2.1⟩
theorem p_reach_between (hw : 2000 ≤ w) (ok : c.Ok) (hf : c.Free) {one oth : Str} (h1 : one ∈ c.names) (h2 : oth ∈ c.names)
    (q : ∀ h' o b, SP.Dist (gs c.legs) (c.ix one) (c.ix oth) o → Ex [] h h' → Q (.tup [od o, b, .int (c.ix oth : Nat)]) h') : wp (Gn cds w (k + 5) 15 [c.d, .str one, .str oth]) h Q := by
  rw [g15, b15]
  simp only [rules, bindG, bindGs, wipeE, placed, Nat.reduceAdd, Nat.reduceSub, Nat.reduceLeDiff, Nat.reduceLT, reduceIte, Int.reduceSub, Int.reduceAdd, Int.reduceMul]
  refine p_place_of ok h1 fun h3 x3 => ?_
  try simp only [rules, bindG, bindGs, wipeE, placed, Nat.reduceAdd, Nat.reduceSub, Nat.reduceLeDiff, Nat.reduceLT, reduceIte, Int.reduceSub, Int.reduceAdd, Int.reduceMul]
  refine p_place_of ok h2 fun h4 x4 => ?_
  try simp only [rules, bindG, bindGs, wipeE, placed, Nat.reduceAdd, Nat.reduceSub, Nat.reduceLeDiff, Nat.reduceLT, reduceIte, Int.reduceSub, Int.reduceAdd, Int.reduceMul]
  refine p_bounded_legs ok fun h5 n5 l5 x5 e5 => ?_
  simp only [ps_len, rules, bindG, bindGs, wipeE, placed, Nat.reduceAdd, Nat.reduceSub, Nat.reduceLeDiff, Nat.reduceLT, reduceIte, Int.reduceSub, Int.reduceAdd, Int.reduceMul]
  rw [List.length_map]
  have i1 := Ch.Ok.ix_lt h1
  have i2 := Ch.Ok.ix_lt h2
  refine p_reach_from hw e5 ok.lp (legs_u ok) (fun l hl => (legs_mem ok l hl).2.2) hf i1 fun h6 tn bn dd hd x6 t6 e6 => ?_
  have e7 : idxD (.obj tn) (.int (c.ix oth : Nat)) h6 = some (od (dd (c.ix oth))) := by rw [ix_lst e6, rowD_at i2]
  simp only [rules, bindG, bindGs, wipeE, placed, Nat.reduceAdd, Nat.reduceSub, Nat.reduceLeDiff, Nat.reduceLT, reduceIte, Int.reduceSub, Int.reduceAdd, Int.reduceMul, e7, ex_some]
  exact q h6 _ _ (hd _) ((x3.trans x4).trans (x5.trans x6))
theorem p_greatest (hw : 2000 ≤ w) (ok : c.Ok) (hf : c.Free) {one oth : Str} (h1 : one ∈ c.names) (h2 : oth ∈ c.names) (hne : one ≠ oth)
    (q : ∀ h' o, SP.Dist (gs c.legs) (c.ix one) (c.ix oth) o → Ex [] h h' → Q (od o) h') : wp (Gn cds w (k + 7) 16 [c.d, .str one, .str oth]) h Q := by
  rw [g16, b16]
  simp only [rules, bindG, bindGs, wipeE, placed, Nat.reduceAdd, Nat.reduceSub, Nat.reduceLeDiff, Nat.reduceLT, reduceIte, Int.reduceSub, Int.reduceAdd, Int.reduceMul]
  refine p_unlike_places (ok.str _ h1) (ok.str _ h2) hne ?_
  try simp only [rules, bindG, bindGs, wipeE, placed, Nat.reduceAdd, Nat.reduceSub, Nat.reduceLeDiff, Nat.reduceLT, reduceIte, Int.reduceSub, Int.reduceAdd, Int.reduceMul]
  refine p_not_barred hw ok hf fun h3 x3 => ?_
  try simp only [rules, bindG, bindGs, wipeE, placed, Nat.reduceAdd, Nat.reduceSub, Nat.reduceLeDiff, Nat.reduceLT, reduceIte, Int.reduceSub, Int.reduceAdd, Int.reduceMul]
  refine p_reach_between hw ok hf h1 h2 fun h4 o b hd x4 => ?_
  simp only [rules, bindG, bindGs, wipeE, placed, Nat.reduceAdd, Nat.reduceSub, Nat.reduceLeDiff, Nat.reduceLT, reduceIte, Int.reduceSub, Int.reduceAdd, Int.reduceMul, ex_some]
  exact q h4 o hd (x3.trans x4)

/-! ### parts -/
/-- a sum over the first numbers -/
def sumN (n : Nat) (f : Nat → Nat) : Nat := ((List.range n).map f).sum
theorem sumN_up {n v x : Nat} {f : Nat → Nat} (hv : v < n) : sumN n (SP.up f v x) + f v = sumN n f + x := by
  unfold sumN
  induction n with
  | zero => omega
  | succ n ih =>
    rw [List.range_succ, List.map_append, List.map_append, List.sum_append, List.sum_append]
    simp only [List.map_cons, List.map_nil, List.sum_cons, List.sum_nil, Nat.add_zero]
    by_cases e : v = n
    · subst e
      have : (List.range v).map (SP.up f v x) = (List.range v).map f := List.map_congr_left fun u hu => SP.up_ne (by have := List.mem_range.mp hu; omega)
      rw [this, SP.up_same]
      omega
    · have := ih (by omega)
      rw [SP.up_ne (Ne.symm e)]
      omega
theorem sumN_le {n : Nat} {f g : Nat → Nat} (h : ∀ v, f v ≤ g v) : sumN n f ≤ sumN n g := by
  unfold sumN
  induction n with
  | zero => exact Nat.le_refl _
  | succ n ih =>
    rw [List.range_succ, List.map_append, List.map_append, List.sum_append, List.sum_append]
    simp only [List.map_cons, List.map_nil, List.sum_cons, List.sum_nil, Nat.add_zero]
    have := h n
    omega
def nats (l : List Nat) : List D := l.map fun i => .int (i : Nat)
/-- lists of neighbours -/
structure Bes (n : Nat) (rs : List Nat) (B : Nat → List Nat) (h : MH) : Prop where
  len : rs.length = n
  nd : rs.Nodup
  at_ : ∀ (i a : Nat), rs[i]? = some a → h[a]? = some (.lst (nats (B i)))
theorem Bes.upd {n i a v : Nat} {rs : List Nat} {B : Nat → List Nat} {h h' : MH} {xs : List Nat} (b : Bes n rs B h) (hi : rs[i]? = some a) (u : Upd a h h') (e : h'[a]? = some (.lst (nats xs))) : Bes n rs (SP.up B i xs) h' := by
  refine ⟨b.len, b.nd, fun j a' hj => ?_⟩
  by_cases z : j = i
  · subst z
    rw [hi] at hj
    cases hj
    rw [SP.up_same]
    exact e
  · rw [SP.up_ne z]
    refine u.get (b.at_ j a' hj) fun y => z ?_
    subst y
    obtain ⟨l1, e1⟩ := List.getElem?_eq_some_iff.mp hi
    obtain ⟨l2, e2⟩ := List.getElem?_eq_some_iff.mp hj
    exact (List.getElem_inj b.nd).mp (e2.trans e1.symm)
theorem Bes.get {n i : Nat} {rs : List Nat} {B : Nat → List Nat} {h : MH} (b : Bes n rs B h) (hi : i < n) : ∃ a, rs[i]? = some a ∧ h[a]? = some (.lst (nats (B i))) := by
  have hl : i < rs.length := by rw [b.len]; exact hi
  exact ⟨rs[i], List.getElem?_eq_getElem hl, b.at_ i _ (List.getElem?_eq_getElem hl)⟩
theorem Bes.frame {n : Nat} {rs : List Nat} {B : Nat → List Nat} {h h' : MH} {S : List Nat} (b : Bes n rs B h) (x : Ex S h h') (hs : ∀ a ∈ rs, a ∉ S) : Bes n rs B h' :=
  ⟨b.len, b.nd, fun i a hi => x.at (hs a (List.mem_of_getElem? hi)) (b.at_ i a hi)⟩
/-- the neighbours that ties make -/
def besF (c : Ch) : List Tie → (Nat → List Nat) → Nat → List Nat
  | [], B => B
  | t :: r, B => besF c r (SP.up (SP.up B (c.ix t.one) (B (c.ix t.one) ++ [c.ix t.oth])) (c.ix t.oth) ((SP.up B (c.ix t.one) (B (c.ix t.one) ++ [c.ix t.oth])) (c.ix t.oth) ++ [c.ix t.one]))
structure BesOk (c : Ch) (done : List Tie) (B : Nat → List Nat) : Prop where
  lt : ∀ v, ∀ y ∈ B v, y < c.ps.length
  sym : ∀ v y, y ∈ B v → v ∈ B y
  has : ∀ t ∈ done, c.ix t.oth ∈ B (c.ix t.one)
  sum : sumN c.ps.length (fun v => (B v).length) = 2 * done.length
theorem BesOk.step (ok : c.Ok) {done : List Tie} {B : Nat → List Nat} {t : Tie} (b : BesOk c done B) (ht : t ∈ c.ts) : BesOk c (done ++ [t]) (SP.up (SP.up B (c.ix t.one) (B (c.ix t.one) ++ [c.ix t.oth])) (c.ix t.oth) ((SP.up B (c.ix t.one) (B (c.ix t.one) ++ [c.ix t.oth])) (c.ix t.oth) ++ [c.ix t.one])) := by
  have en := ok.ends t ht
  have i1 := Ch.Ok.ix_lt en.1
  have i2 := Ch.Ok.ix_lt en.2
  have hne : c.ix t.one ≠ c.ix t.oth := fun z => ok.ne t ht (ix_inj en.1 en.2 z)
  generalize hu : c.ix t.one = u at i1 hne ⊢
  generalize hv : c.ix t.oth = v at i2 hne ⊢
  rw [SP.up_ne hne.symm]
  have e1 : (SP.up (SP.up B u (B u ++ [v])) v (B v ++ [u])) u = B u ++ [v] := by rw [SP.up_ne hne, SP.up_same]
  have e2 : (SP.up (SP.up B u (B u ++ [v])) v (B v ++ [u])) v = B v ++ [u] := SP.up_same
  have e3 : ∀ x, x ≠ u → x ≠ v → (SP.up (SP.up B u (B u ++ [v])) v (B v ++ [u])) x = B x := fun x h1 h2 => by rw [SP.up_ne h2, SP.up_ne h1]
  have mono : ∀ x y, y ∈ B x → y ∈ (SP.up (SP.up B u (B u ++ [v])) v (B v ++ [u])) x := fun x y hy => by
    by_cases a : x = u
    · subst a; rw [e1]; exact List.mem_append_left _ hy
    · by_cases b : x = v
      · subst b; rw [e2]; exact List.mem_append_left _ hy
      · rw [e3 x a b]; exact hy
  refine ⟨fun x y hy => ?_, fun x y hy => ?_, fun t' ht' => ?_, ?_⟩
  · by_cases a : x = u
    · subst a; rw [e1] at hy
      rcases List.mem_append.mp hy with hy | hy
      · exact b.lt _ y hy
      · rw [List.mem_singleton.mp hy]; exact i2
    · by_cases b' : x = v
      · subst b'; rw [e2] at hy
        rcases List.mem_append.mp hy with hy | hy
        · exact b.lt _ y hy
        · rw [List.mem_singleton.mp hy]; exact i1
      · rw [e3 x a b'] at hy; exact b.lt _ y hy
  · by_cases a : x = u
    · subst a; rw [e1] at hy
      rcases List.mem_append.mp hy with hy | hy
      · exact mono _ _ (b.sym _ _ hy)
      · rw [List.mem_singleton.mp hy, e2]; exact List.mem_append_right _ (List.mem_singleton.mpr rfl)
    · by_cases b' : x = v
      · subst b'; rw [e2] at hy
        rcases List.mem_append.mp hy with hy | hy
        · exact mono _ _ (b.sym _ _ hy)
        · rw [List.mem_singleton.mp hy, e1]; exact List.mem_append_right _ (List.mem_singleton.mpr rfl)
      · rw [e3 x a b'] at hy; exact mono _ _ (b.sym _ _ hy)
  · rcases List.mem_append.mp ht' with ht' | ht'
    · exact mono _ _ (b.has t' ht')
    · rw [List.mem_singleton.mp ht', hv, hu, e1]
      exact List.mem_append_right _ (List.mem_singleton.mpr rfl)
  · have s1 := sumN_up (n := c.ps.length) (v := u) (x := (B u).length + 1) (f := fun v => (B v).length) i1
    have s2 := sumN_up (n := c.ps.length) (v := v) (x := (B v).length + 1) (f := SP.up (fun v => (B v).length) u ((B u).length + 1)) i2
    rw [SP.up_ne hne.symm] at s2
    have e4 : (fun x => ((SP.up (SP.up B u (B u ++ [v])) v (B v ++ [u])) x).length) = SP.up (SP.up (fun v => (B v).length) u ((B u).length + 1)) v ((B v).length + 1) := by
      funext x
      by_cases b' : x = v
      · subst b'; rw [e2, SP.up_same, List.length_append]; rfl
      · rw [SP.up_ne (f := SP.up (fun v => (B v).length) u ((B u).length + 1)) b']
        by_cases a : x = u
        · subst a; rw [e1, SP.up_same, List.length_append]; rfl
        · rw [SP.up_ne (f := fun v => (B v).length) a, e3 x a b']
    rw [e4, List.length_append, List.length_singleton]
    have := b.sum
    omega
end K76

set_option maxHeartbeats 2000000
/-! LG: parts. -/
namespace K76
open Mi
open PySem (Str PyData)
variable {w k : Nat} {h : MH} {Q : D → MH → Prop} {c : Ch}
theorem m_pop {n : Nat} {xs : List D} {y : D} (e : h[n]? = some (.lst (xs ++ [y]))) (q : ∀ h', Upd n h h' → h'[n]? = some (.lst xs) → Q y h') : wp (metD .pop (.obj n) []) h Q := by
  unfold metD
  dsimp only
  rw [wp_bnd, wp_rd]
  refine ⟨_, lstAt_iff.mpr e, ?_⟩
  rw [show (xs ++ [y])[(xs ++ [y]).length - 1]? = some y from by rw [List.length_append, List.length_singleton, Nat.add_sub_cancel, List.getElem?_concat_length], wp_bnd]
  refine ⟨y, _, rfl, ?_⟩
  dsimp only
  rw [wp_bnd]
  refine ⟨(), _, rfl, wp_ret.mpr (q _ Upd.set ?_)⟩
  rw [set_at e, List.dropLast_concat]
theorem m_extend {n m : Nat} {xs ys : List D} (e : h[n]? = some (.lst xs)) (e2 : h[m]? = some (.lst ys)) (hl : xs.length + ys.length ≤ LINE) (q : ∀ h', Upd n h h' → h'[n]? = some (.lst (xs ++ ys)) → Q .non h') : wp (metD .extend (.obj n) [.obj m]) h Q := by
  unfold metD
  dsimp only
  rw [wp_bnd, wp_rd]
  refine ⟨xs, lstAt_iff.mpr e, ?_⟩
  rw [wp_bnd, wp_rd]
  refine ⟨ys, lstAt_iff.mpr e2, ?_⟩
  rw [if_pos hl, wp_bnd]
  exact ⟨(), _, rfl, wp_ret.mpr (q _ Upd.set (set_at e))⟩
theorem isEmpty_snoc {α : Type} {xs : List α} {y : α} : (xs ++ [y]).isEmpty = false := by cases xs <;> rfl
theorem w_lst0 {G : Ga} {env : Env} : wp (evE G (.lst []) env) h Q ↔ Q (.obj h.length) (h ++ [.lst []]) := by
  simp only [rules, bindG, bindGs, wipeE, placed, Nat.reduceAdd, Nat.reduceSub, Nat.reduceLeDiff, Nat.reduceLT, reduceIte, Int.reduceSub, Int.reduceAdd, Int.reduceMul]
def invPl (n : Nat) (h0 : MH) (todo acc : List D) (h' : MH) : Prop := ∃ rs : List Nat, acc = rs.map .obj ∧ rs.length + todo.length = n ∧ rs.Nodup ∧ (∀ a ∈ rs, h0.length < a ∧ a < h'.length ∧ h'[a]? = some (.lst [])) ∧ h'[h0.length]? = some (.lst acc) ∧ Ex [] h0 h'
def invPt (c : Ch) (h0 : MH) (n1 bl : Nat) (rs : List Nat) (ds : List D) (env : Env) (h' : MH) : Prop := ∃ (done todo : List Tie) (B : Nat → List Nat) (a5 a6 : Option D), c.ts = done ++ todo ∧ ds = todo.map c.endD ∧ Bes c.ps.length rs B h' ∧ BesOk c done B ∧
  env = [some c.d, some (.obj n1), some (.obj bl), none, none, a5, a6, none, none, none] ∧ h'[n1]? = some (.lst (c.ts.map c.endD)) ∧ h'[bl]? = some (.lst (rs.map .obj)) ∧ Ex [] h0 h'
structure MkW (n f : Nat) (B : Nat → List Nat) (M : Nat → Option Nat) (todo : List Nat) : Prop where
  lt : ∀ v x, M v = some x → x < n
  tl : ∀ y ∈ todo, y < n
  cl : ∀ v x y, M v = some x → y ∈ B v → M y = some x ∨ (x = f ∧ y ∈ todo)
  fs : M f ≠ none ∨ f ∈ todo
  dn : ∀ v, v < f → M v ≠ none
def invPw (c : Ch) (f : Nat) (h0 : MH) (n1 bl mn tn : Nat) (rs : List Nat) (B : Nat → List Nat) (e5 e6 : Option D) (m : Nat) (env : Env) (h' : MH) : Prop := ∃ (M : Nat → Option Nat) (todo : List Nat) (a9 : Option D),
  m ≤ 3000 ∧ m = todo.length + sumN c.ps.length (fun v => if M v = none then (B v).length else 0) ∧ MkW c.ps.length f B M todo ∧ Bes c.ps.length rs B h' ∧
  env = [some c.d, some (.obj n1), some (.obj bl), some (.obj mn), some (.int (f : Nat)), e5, e6, some (.obj tn), none, a9] ∧ h'[bl]? = some (.lst (rs.map .obj)) ∧ h'[mn]? = some (.lst (rowD c.ps.length fun v => natO (M v))) ∧ h'[tn]? = some (.lst (nats todo)) ∧ Ex [] h0 h'
def invPo (c : Ch) (h0 : MH) (n1 bl mn : Nat) (rs : List Nat) (B : Nat → List Nat) (e5 e6 : Option D) (ds : List D) (env : Env) (h' : MH) : Prop := ∃ (f : Nat) (M : Nat → Option Nat) (a4 a7 a9 : Option D),
  f + ds.length = c.ps.length ∧ ds = rngL (f : Nat) (c.ps.length - f) ∧ (∀ v x, M v = some x → x < c.ps.length) ∧ (∀ v x y, M v = some x → y ∈ B v → M y = some x) ∧ (∀ v, v < f → M v ≠ none) ∧ Bes c.ps.length rs B h' ∧
  env = [some c.d, some (.obj n1), some (.obj bl), some (.obj mn), a4, e5, e6, a7, none, a9] ∧ h'[bl]? = some (.lst (rs.map .obj)) ∧ h'[mn]? = some (.lst (rowD c.ps.length fun v => natO (M v))) ∧ Ex [] h0 h'
theorem rs_at {n i a : Nat} {rs : List Nat} (e : h[n]? = some (.lst (rs.map .obj))) (hi : rs[i]? = some a) : idxD (.obj n) (.int (i : Nat)) h = some (.obj a) := by
  rw [ix_lst e, at_nat' (by rw [List.length_map]; exact (List.getElem?_eq_some_iff.mp hi).1), List.getElem?_map, hi]
  rfl
theorem nats_len {l : List Nat} : (nats l).length = l.length := List.length_map ..
theorem MkW.pop {n f here : Nat} {B : Nat → List Nat} {M : Nat → Option Nat} {todo : List Nat} (W : MkW n f B M (todo ++ [here])) (sym : ∀ v y, y ∈ B v → v ∈ B y) {x : Nat} (hx : M here = some x) : MkW n f B M todo := by
  refine ⟨W.lt, fun y hy => W.tl y (List.mem_append_left _ hy), fun v x' y hv hy => ?_, ?_, W.dn⟩
  · rcases W.cl v x' y hv hy with z | ⟨z1, z2⟩
    · exact .inl z
    · rcases List.mem_append.mp z2 with z2 | z2
      · exact .inr ⟨z1, z2⟩
      · have e := List.mem_singleton.mp z2
        subst e
        refine .inl ?_
        rcases W.cl y x v hx (sym _ _ hy) with q | ⟨q, _⟩
        · rw [hv] at q
          cases q
          exact hx
        · rw [hx, q, z1]
  · rcases W.fs with z | z
    · exact .inl z
    · rcases List.mem_append.mp z with z | z
      · exact .inr z
      · rw [List.mem_singleton.mp z, hx]
        exact .inl (by simp)
theorem MkW.mark {n f here : Nat} {B : Nat → List Nat} {M : Nat → Option Nat} {todo : List Nat} (W : MkW n f B M (todo ++ [here])) (hf : f < n) (lt : ∀ v, ∀ y ∈ B v, y < n) (hx : M here = none) : MkW n f B (SP.up M here (some f)) (todo ++ B here) := by
  refine ⟨fun v x hv => ?_, fun y hy => ?_, fun v x y hv hy => ?_, ?_, fun v hv => ?_⟩
  · by_cases e : v = here
    · subst e; rw [SP.up_same] at hv; cases hv; exact hf
    · rw [SP.up_ne e] at hv; exact W.lt v x hv
  · rcases List.mem_append.mp hy with hy | hy
    · exact W.tl y (List.mem_append_left _ hy)
    · exact lt _ y hy
  · by_cases e : v = here
    · subst e
      rw [SP.up_same] at hv
      cases hv
      exact .inr ⟨rfl, List.mem_append_right _ hy⟩
    · rw [SP.up_ne e] at hv
      rcases W.cl v x y hv hy with z | ⟨z1, z2⟩
      · refine .inl ?_
        have : y ≠ here := fun q => by rw [q, hx] at z; cases z
        rw [SP.up_ne this]
        exact z
      · rcases List.mem_append.mp z2 with z2 | z2
        · exact .inr ⟨z1, List.mem_append_left _ z2⟩
        · rw [List.mem_singleton.mp z2, SP.up_same, z1]
          exact .inl rfl
  · by_cases e : f = here
    · rw [e, SP.up_same]; exact .inl (by simp)
    · rw [SP.up_ne e]
      rcases W.fs with z | z
      · exact .inl z
      · rcases List.mem_append.mp z with z | z
        · exact .inr (List.mem_append_left _ z)
        · exact absurd (List.mem_singleton.mp z) e
  · by_cases e : v = here
    · rw [e, SP.up_same]; simp
    · rw [SP.up_ne e]; exact W.dn v hv
theorem p_part_marks (hw : 4000 ≤ w) (ok : c.Ok)
    (q : ∀ h' mn (M : Nat → Nat), (∀ v, v < c.ps.length → M v < c.ps.length) → (∀ t ∈ c.ts, M (c.ix t.one) = M (c.ix t.oth)) → Ex [] h h' → h'[mn]? = some (.lst (rowD c.ps.length fun v => .int (M v : Nat))) → Q (.obj mn) h') :
    wp (Gn cds w (k + 3) 3 [c.d]) h Q := by
  have lp := ok.lp
  have lt := ok.lt
  rw [g3, w_run]
  refine ⟨rfl, ?_⟩
  rw [show b3 = CS.set _ _ :: CS.set _ _ :: CS.for _ _ (forB (b3.getD 2 .pass)) :: CS.set _ _ :: CS.for _ _ (forB (b3.getD 4 .pass)) :: b3.drop 5 from rfl, s_cons]
  simp only [rules, bindG, bindGs, wipeE, placed, Nat.reduceAdd, Nat.reduceSub, Nat.reduceLeDiff, Nat.reduceLT, reduceIte, Int.reduceSub, Int.reduceAdd, Int.reduceMul]
  refine p_tie_ends ok fun h1 n1 l1 x1 e1 => ?_
  simp only [ps_len, rules, bindG, bindGs, wipeE, placed, Nat.reduceAdd, Nat.reduceSub, Nat.reduceLeDiff, Nat.reduceLT, reduceIte, Int.reduceSub, Int.reduceAdd, Int.reduceMul]
  refine wp_lcL (Inv := invPl c.ps.length h1) ?_ ?_ (acc := []) ⟨[], rfl, by simp, List.nodup_nil, fun a ha => (nomatch ha), List.getElem?_concat_length .., Ex.app⟩
  · rintro d ds acc h2 ⟨rs, rfl, r2, r3, r4, r5, r6⟩
    refine ⟨Ks.nil, _, rfl, ?_⟩
    rw [w_otnone, if_pos rfl, w_lst0]
    have hl2 : h1.length < h2.length := (List.getElem?_eq_some_iff.mp r5).1
    have e2 : (h2 ++ [MO.lst []])[h1.length]? = some (.lst (rs.map .obj)) := by rw [List.getElem?_append_left hl2]; exact r5
    refine ⟨e2, line_gt (by rw [List.length_map]; rw [List.length_cons] at r2; omega), rs ++ [h2.length], by simp, by rw [List.length_append, List.length_singleton]; rw [List.length_cons] at r2; omega, ?_, ?_, set_at e2, (r6.trans Ex.app).set (Nat.le_refl _)⟩
    · rw [List.nodup_append]
      refine ⟨r3, by simp, fun a ha b hb => ?_⟩
      rw [List.mem_singleton.mp hb]
      have := (r4 a ha).2.1
      omega
    · intro a ha
      rw [List.length_set, List.length_append, List.length_singleton]
      rcases List.mem_append.mp ha with ha | ha
      · obtain ⟨q1, q2, q3⟩ := r4 a ha
        refine ⟨q1, by omega, ?_⟩
        rw [List.getElem?_set_ne (by omega), List.getElem?_append_left q2]
        exact q3
      · rw [List.mem_singleton.mp ha]
        refine ⟨hl2, by omega, ?_⟩
        rw [List.getElem?_set_ne (by omega), List.getElem?_concat_length]
  rintro acc h2 ⟨rs, rfl, r2, r3, r4, r5, r6⟩
  refine ⟨Ks.nil, ?_⟩
  try simp only [rules, bindG, bindGs, wipeE, placed, Nat.reduceAdd, Nat.reduceSub, Nat.reduceLeDiff, Nat.reduceLT, reduceIte, Int.reduceSub, Int.reduceAdd, Int.reduceMul]
  rw [wp_items_obj]
  refine ⟨_, lstAt_iff.mpr (r6.at0 e1), ?_⟩
  dsimp only
  have n1l : n1 < h1.length := (List.getElem?_eq_some_iff.mp e1).1
  have rsl : rs.length = c.ps.length := by simpa using r2
  have hx1 := x1.1
  have B0 : Bes c.ps.length rs (fun _ => []) h2 := ⟨rsl, r3, fun i a hi => (r4 a (List.mem_of_getElem? hi)).2.2⟩
  have O0 : BesOk c [] (fun _ => []) := by
    refine ⟨fun v y hy => (nomatch hy), fun v y hy => (nomatch hy), fun t ht => (nomatch ht), ?_⟩
    unfold sumN
    rw [List.map_const']
    simp
  have rlo : ∀ a ∈ rs, h1.length < a := fun a ha => (r4 a ha).1
  refine wp_for (Inv := invPt c h n1 h1.length rs) ?_ ?_ ⟨[], c.ts, _, _, _, rfl, rfl, B0, O0, rfl, r6.at0 e1, r5, x1.trans r6⟩
  · rintro d ds env h3 ⟨done, todo, B, a5, a6, f1, f2, f3, f4, rfl, f6, f7, f8⟩
    cases todo with
    | nil => cases f2
    | cons t todo =>
    rw [List.map_cons, List.cons.injEq] at f2
    obtain ⟨rfl, rfl⟩ := f2
    have ht : t ∈ c.ts := by rw [f1]; simp
    have en := ok.ends t ht
    have i1 := Ch.Ok.ix_lt en.1
    have i2 := Ch.Ok.ix_lt en.2
    have hne : c.ix t.one ≠ c.ix t.oth := fun z => ok.ne t ht (ix_inj en.1 en.2 z)
    refine ⟨Ks.one f6, _, rfl, ?_⟩
    rw [show forB (b3.getD 2 .pass) = [CS.exp _, CS.exp _] from rfl]
    obtain ⟨a, ha, ga⟩ := f3.get i1
    obtain ⟨b, hb, gb⟩ := f3.get i2
    have nab : a ≠ b := fun z => by
      subst z
      obtain ⟨q1, q2⟩ := List.getElem?_eq_some_iff.mp ha
      obtain ⟨q3, q4⟩ := List.getElem?_eq_some_iff.mp hb
      exact hne ((List.getElem_inj f3.nd).mp (q2.trans q4.symm))
    have al := rlo a (List.mem_of_getElem? ha)
    have bl := rlo b (List.mem_of_getElem? hb)
    have sl : ∀ v, v < c.ps.length → (B v).length ≤ 2000 := fun v hv => by
      have h1 := sumN_up (n := c.ps.length) (v := v) (x := 0) (f := fun v => (B v).length) hv
      have h2 := f4.sum
      have h3 := congrArg List.length f1
      rw [List.length_append] at h3
      omega
    have bsum := f4.step ok ht
    simp only [rules, bindG, bindGs, wipeE, placed, Nat.reduceAdd, Nat.reduceSub, Nat.reduceLeDiff, Nat.reduceLT, reduceIte, Int.reduceSub, Int.reduceAdd, Int.reduceMul, rs_at f7 ha, ex_some, isLst_ok ga]
    refine ⟨(), wp_app1 ga (line_gt (by rw [nats_len]; have := sl _ i1; omega)) fun h4 u4 g4 => ?_⟩
    have F4 := f3.upd (v := 0) (xs := B (c.ix t.one) ++ [c.ix t.oth]) ha u4 (by rw [g4]; unfold nats; rw [List.map_append]; rfl)
    have f74 := u4.get f7 (by omega)
    have gb4 := u4.get gb nab.symm
    simp only [rules, bindG, bindGs, wipeE, placed, Nat.reduceAdd, Nat.reduceSub, Nat.reduceLeDiff, Nat.reduceLT, reduceIte, Int.reduceSub, Int.reduceAdd, Int.reduceMul, rs_at f74 hb, ex_some, isLst_ok gb4]
    refine ⟨(), wp_app1 gb4 (line_gt (by rw [nats_len]; have := sl _ i2; omega)) fun h5 u5 g5 => ?_⟩
    have F5 := F4.upd (v := 0) (xs := (SP.up B (c.ix t.one) (B (c.ix t.one) ++ [c.ix t.oth])) (c.ix t.oth) ++ [c.ix t.one]) hb u5 (by rw [g5, SP.up_ne hne.symm]; unfold nats; rw [List.map_append]; rfl)
    refine ⟨done ++ [t], todo, _, _, _, by rw [f1]; simp, rfl, F5, bsum, rfl, u5.get (u4.get f6 (by omega)) (by omega), u5.get f74 (by omega), u5.ex (u4.ex f8 (.inl (by omega))) (.inl (by omega))⟩
  rintro env h3 ⟨done, todo, B, a5, a6, f1, f2, f3, f4, rfl, f6, f7, f8⟩
  refine ⟨Ks.one f6, ?_⟩
  cases todo with
  | cons t todo => cases f2
  | nil =>
  rw [List.append_nil] at f1
  subst f1
  simp only [rules, bindG, bindGs, wipeE, placed, Nat.reduceAdd, Nat.reduceSub, Nat.reduceLeDiff, Nat.reduceLT, reduceIte, Int.reduceSub, Int.reduceAdd, Int.reduceMul, ps_len]
  rw [List.length_map]
  refine o_repL (by rw [List.getElem?_concat_length]) (by omega) (by decide) ?_
  rw [rowD_rep]
  try simp only [rules, bindG, bindGs, wipeE, placed, Nat.reduceAdd, Nat.reduceSub, Nat.reduceLeDiff, Nat.reduceLT, reduceIte, Int.reduceSub, Int.reduceAdd, Int.reduceMul]
  have gl1 : (h3 ++ [MO.lst [D.non]]).length = h3.length + 1 := by rw [List.length_append]; rfl
  have M0 : (h3 ++ [MO.lst [D.non]] ++ [MO.lst (rowD c.ps.length fun _ => D.non)])[h3.length + 1]? = some (.lst (rowD c.ps.length fun _ => D.non)) := by rw [← gl1, List.getElem?_concat_length]
  have X4 : Ex [] h3 (h3 ++ [MO.lst [D.non]] ++ [MO.lst (rowD c.ps.length fun _ => D.non)]) := by rw [List.append_assoc]; exact Ex.app
  rw [gl1]
  generalize h3 ++ [MO.lst [D.non]] ++ [MO.lst (rowD c.ps.length fun _ => D.non)] = h4 at M0 X4 ⊢
  rw [w_rng1']
  try simp only [rules, bindG, bindGs, wipeE, placed, Nat.reduceAdd, Nat.reduceSub, Nat.reduceLeDiff, Nat.reduceLT, reduceIte, Int.reduceSub, Int.reduceAdd, Int.reduceMul]
  refine o_lenL M0 ?_
  refine ⟨_, rfl, w62 (by omega) (by rw [rowD_len]; omega), ?_⟩
  rw [Int.toNat_natCast, rowD_len]
  have F4 := f3.frame X4 (fun a _ => List.not_mem_nil)
  have f8l := f8.1
  have lrs : ∀ a ∈ rs, a < h3.length := fun a ha => by
    obtain ⟨i, hi⟩ := List.getElem?_of_mem ha
    exact (List.getElem?_eq_some_iff.mp (f3.at_ i a hi)).1
  have bln : h1.length < h3.length := (List.getElem?_eq_some_iff.mp f7).1
  refine wp_for (Inv := invPo c h n1 h1.length (h3.length + 1) rs B a5 a6) ?_ ?_ ⟨0, fun _ => none, _, _, _, by rw [rngL_len]; omega, by rfl, fun v x e => (nomatch e), fun v x y e => (nomatch e), fun v hv => absurd hv (Nat.not_lt_zero _), F4, rfl, X4.at0 f7, M0, f8.trans X4⟩
  · rintro d ds env h5 ⟨f, M, a4, a7, a9, g1, g2, g3, g4, g5, g6, rfl, g8, g9, g10⟩
    refine ⟨Ks.nil, ?_⟩
    have hf : f < c.ps.length := by rw [List.length_cons] at g1; omega
    rw [show c.ps.length - f = (c.ps.length - (f + 1)) + 1 by omega, rngL_succ, List.cons.injEq] at g2
    obtain ⟨rfl, rfl⟩ := g2
    refine ⟨_, rfl, ?_⟩
    rw [show forB (b3.getD 4 .pass) = CS.set _ _ :: CS.whl (whlT ((forB (b3.getD 4 .pass)).getD 1 .pass)) (whlB ((forB (b3.getD 4 .pass)).getD 1 .pass)) :: [] from rfl, s_cons]
    have em : ∀ {hh : MH} {M : Nat → Option Nat} {v : Nat}, hh[h3.length + 1]? = some (.lst (rowD c.ps.length fun v => natO (M v))) → v < c.ps.length → idxD (.obj (h3.length + 1)) (.int (v : Nat)) hh = some (natO (M v)) := fun e hv => by rw [ix_lst e, rowD_at hv]
    simp only [rules, bindG, bindGs, wipeE, placed, Nat.reduceAdd, Nat.reduceSub, Nat.reduceLeDiff, Nat.reduceLT, reduceIte, Int.reduceSub, Int.reduceAdd, Int.reduceMul, em g9 hf, ex_some]
    -- the while, from a list of places
    have go : ∀ (h6 : MH) (tn : Nat) (todo : List Nat), h5.length ≤ tn → todo.length ≤ 1 → Ex [] h5 h6 → h6[tn]? = some (.lst (nats todo)) → MkW c.ps.length f B M todo → tn < h6.length →
        wp (whlL (evT (Gn cds w (k + 2)) (whlT ((forB (b3.getD 4 .pass)).getD 1 .pass))) (evSs (Gn cds w (k + 2)) w (whlB ((forB (b3.getD 4 .pass)).getD 1 .pass))) w [some c.d, some (.obj n1), some (.obj h1.length), some (.obj (h3.length + 1)), some (.int (f : Nat)), a5, a6, some (.obj tn), none, a9]) h6 fun r h' => r.1 = .nx ∧ invPo c h n1 h1.length (h3.length + 1) rs B a5 a6 (rngL ((f : Nat) + 1) (c.ps.length - (f + 1))) r.2 h' := by
      intro h6 tn todo t1 t2 x6 e6 W tl6
      have x5l := g10.1
      have mnl : h3.length + 1 < h5.length := (List.getElem?_eq_some_iff.mp g9).1
      have sm : sumN c.ps.length (fun v => if M v = none then (B v).length else 0) ≤ 2 * c.ts.length := by
        rw [← f4.sum]
        exact sumN_le fun v => by split <;> omega
      refine wp_whl (Inv := invPw c f h n1 h1.length (h3.length + 1) tn rs B a5 a6) ?_ (show todo.length + sumN c.ps.length (fun v => if M v = none then (B v).length else 0) < w by omega)
        ⟨M, todo, _, by omega, rfl, W, g6.frame x6 (fun a _ => List.not_mem_nil), rfl, x6.at0 g8, x6.at0 g9, e6, g10.trans x6⟩
      rintro m env h7 ⟨M7, todo7, b9, j0, j1, j2, j3, rfl, j5, j6, j7, j8⟩
      rw [show whlT ((forB (b3.getD 4 .pass)).getD 1 .pass) = CT.tru (.var 7) from rfl]
      simp only [rules, bindG, bindGs, wipeE, placed, Nat.reduceAdd, Nat.reduceSub, Nat.reduceLeDiff, Nat.reduceLT, reduceIte, Int.reduceSub, Int.reduceAdd, Int.reduceMul, t_lst j7, ex_some]
      rcases List.eq_nil_or_concat todo7 with rfl | ⟨td, here, rfl⟩
      · simp only [nats, List.map_nil, List.isEmpty_nil, rules, bindG, bindGs, wipeE, placed, Nat.reduceAdd, Nat.reduceSub, Nat.reduceLeDiff, Nat.reduceLT, reduceIte, Int.reduceSub, Int.reduceAdd, Int.reduceMul]
        refine ⟨f + 1, M7, _, _, _, by rw [rngL_len]; omega, rfl, j2.lt, fun v x y hv hy => ?_, fun v hv => ?_, j3, rfl, j5, j6, j8⟩
        · rcases j2.cl v x y hv hy with z | ⟨_, z⟩
          · exact z
          · cases z
        · by_cases z : v = f
          · subst z
            rcases j2.fs with z | z
            · exact z
            · cases z
          · exact j2.dn v (by omega)
      · rw [List.concat_eq_append] at j1 j2 j7
        have en : nats (td ++ [here]) = nats td ++ [.int (here : Nat)] := by unfold nats; rw [List.map_append]; rfl
        rw [en] at j7
        have hh := j2.tl here (by simp)
        simp only [List.concat_eq_append, en, isEmpty_snoc, rules, bindG, bindGs, wipeE, placed, Nat.reduceAdd, Nat.reduceSub, Nat.reduceLeDiff, Nat.reduceLT, reduceIte, Int.reduceSub, Int.reduceAdd, Int.reduceMul]
        rw [show whlB ((forB (b3.getD 4 .pass)).getD 1 .pass) = CS.set _ _ :: [CS.ifs _ _ _] from rfl, s_cons]
        simp only [rules, bindG, bindGs, wipeE, placed, Nat.reduceAdd, Nat.reduceSub, Nat.reduceLeDiff, Nat.reduceLT, reduceIte, Int.reduceSub, Int.reduceAdd, Int.reduceMul, isLst_ok j7, ex_some]
        refine ⟨(), m_pop j7 fun h8 u8 g8' => ?_⟩
        have bl8 := u8.get j5 (show h1.length ≠ tn by omega)
        have mn8 := u8.get j6 (show h3.length + 1 ≠ tn by omega)
        have x8 := u8.ex j8 (.inl (by omega))
        have bs8 : Bes c.ps.length rs B h8 := ⟨j3.len, j3.nd, fun i a hi => u8.get (j3.at_ i a hi) (by have := lrs a (List.mem_of_getElem? hi); omega)⟩
        simp only [rules, bindG, bindGs, wipeE, placed, Nat.reduceAdd, Nat.reduceSub, Nat.reduceLeDiff, Nat.reduceLT, reduceIte, Int.reduceSub, Int.reduceAdd, Int.reduceMul, em mn8 hh, ex_some]
        rw [List.length_append, List.length_singleton] at j1
        cases hM : M7 here with
        | some x =>
          simp only [natO, nonD_int, rules, bindG, bindGs, wipeE, placed, Nat.reduceAdd, Nat.reduceSub, Nat.reduceLeDiff, Nat.reduceLT, reduceIte, Int.reduceSub, Int.reduceAdd, Int.reduceMul]
          exact ⟨td.length + sumN c.ps.length (fun v => if M7 v = none then (B v).length else 0), by omega, M7, td, _, by omega, rfl, j2.pop f4.sym hM, bs8, rfl, bl8, mn8, g8', x8⟩
        | none =>
          simp only [natO, nonD_non, rules, bindG, bindGs, wipeE, placed, Nat.reduceAdd, Nat.reduceSub, Nat.reduceLeDiff, Nat.reduceLT, reduceIte, Int.reduceSub, Int.reduceAdd, Int.reduceMul]
          refine wp_put1 mn8 (j := here) (by rw [rowD_len, ixN_nat (by omega) (by omega)]; rfl) fun h9 u9 g9' => ?_
          rw [rowD_set] at g9'
          have tn9 := u9.get g8' (show tn ≠ h3.length + 1 by omega)
          have bl9 := u9.get bl8 (show h1.length ≠ h3.length + 1 by omega)
          have bs9 : Bes c.ps.length rs B h9 := ⟨bs8.len, bs8.nd, fun i a hi => u9.get (bs8.at_ i a hi) (by have := lrs a (List.mem_of_getElem? hi); omega)⟩
          have x9 := u9.ex x8 (.inl (by omega))
          obtain ⟨a, ha, ga⟩ := bs9.get hh
          simp only [rules, bindG, bindGs, wipeE, placed, Nat.reduceAdd, Nat.reduceSub, Nat.reduceLeDiff, Nat.reduceLT, reduceIte, Int.reduceSub, Int.reduceAdd, Int.reduceMul, isLst_ok tn9, rs_at bl9 ha, ex_some]
          have s1 := sumN_up (n := c.ps.length) (v := here) (x := 0) (f := fun v => if M7 v = none then (B v).length else 0) hh
          have s0 : (if M7 here = none then (B here).length else 0) = (B here).length := if_pos hM
          have s2 : SP.up (fun v => if M7 v = none then (B v).length else 0) here 0 = fun v => if SP.up M7 here (some f) v = none then (B v).length else 0 := by
            funext v
            by_cases z : v = here
            · subst z; rw [SP.up_same, SP.up_same, if_neg (by simp)]
            · rw [SP.up_ne z, SP.up_ne z]
          rw [s2] at s1
          rw [s0] at s1
          have sm7 : sumN c.ps.length (fun v => if M7 v = none then (B v).length else 0) ≤ 2 * c.ts.length := by
            rw [← f4.sum]
            exact sumN_le fun v => by split <;> omega
          refine ⟨(), m_extend tn9 ga (line_ge (by rw [nats_len, nats_len]; omega)) fun hA uA gA => ?_⟩
          refine ⟨(td ++ B here).length + sumN c.ps.length (fun v => if SP.up M7 here (some f) v = none then (B v).length else 0), by rw [List.length_append]; omega, SP.up M7 here (some f), td ++ B here, _, by rw [List.length_append]; omega, rfl, j2.mark hf f4.lt hM, ?_, rfl, uA.get bl9 (by omega), ?_, ?_, uA.ex x9 (.inl (by omega))⟩
          · exact ⟨bs9.len, bs9.nd, fun i a hi => uA.get (bs9.at_ i a hi) (by have := lrs a (List.mem_of_getElem? hi); omega)⟩
          · rw [uA.get g9' (show h3.length + 1 ≠ tn by omega)]
            congr 2
            exact congrArg _ (up_map (f := M7) (g := natO) (x := some f))
          · rw [gA]
            unfold nats
            rw [List.map_append]
    have ll : ∀ xs, (h5 ++ [MO.lst xs])[h5.length]? = some (.lst xs) := fun xs => List.getElem?_concat_length ..
    cases hM : M f with
    | none =>
      simp only [natO, nonD_non, rules, bindG, bindGs, wipeE, placed, Nat.reduceAdd, Nat.reduceSub, Nat.reduceLeDiff, Nat.reduceLT, reduceIte, Int.reduceSub, Int.reduceAdd, Int.reduceMul]
      refine wp_mono (go _ h5.length [f] (Nat.le_refl _) (Nat.le_refl _) Ex.app (ll _) ⟨g3, fun y hy => ?_, fun v x y hv hy => .inl (g4 v x y hv hy), .inr (List.mem_singleton.mpr rfl), g5⟩ (by rw [List.length_append]; exact Nat.lt_succ_self _)) fun r h' z => ?_
      · rw [List.mem_singleton.mp hy]; exact hf
      · obtain ⟨o, e⟩ := r
        obtain ⟨z1, z2⟩ := z
        dsimp only at z1
        subst z1
        exact z2
    | some x =>
      simp only [natO, nonD_int, rules, bindG, bindGs, wipeE, placed, Nat.reduceAdd, Nat.reduceSub, Nat.reduceLeDiff, Nat.reduceLT, reduceIte, Int.reduceSub, Int.reduceAdd, Int.reduceMul]
      refine wp_mono (go _ h5.length [] (Nat.le_refl _) (Nat.zero_le _) Ex.app (ll _) ⟨g3, fun y hy => (nomatch hy), fun v x y hv hy => .inl (g4 v x y hv hy), .inl (by rw [hM]; simp), g5⟩ (by rw [List.length_append]; exact Nat.lt_succ_self _)) fun r h' z => ?_
      obtain ⟨o, e⟩ := r
      obtain ⟨z1, z2⟩ := z
      dsimp only at z1
      subst z1
      exact z2
  · rintro env h5 ⟨f, M, a4, a7, a9, g1, g2, g3, g4, g5, g6, rfl, g8, g9, g10⟩
    refine ⟨Ks.nil, ?_⟩
    rw [show b3.drop 5 = [CS.ret _] from rfl]
    simp only [rules, bindG, bindGs, wipeE, placed, Nat.reduceAdd, Nat.reduceSub, Nat.reduceLeDiff, Nat.reduceLT, reduceIte, Int.reduceSub, Int.reduceAdd, Int.reduceMul]
    have ff : f = c.ps.length := by simpa using g1
    have gM : ∀ v, v < c.ps.length → M v = some ((M v).getD 0) := fun v hv => by
      cases e : M v with
      | none => exact absurd e (g5 v (by omega))
      | some x => rfl
    refine q h5 _ (fun v => (M v).getD 0) (fun v hv => g3 v _ (gM v hv)) (fun t ht => ?_) g10 ?_
    · have en := ok.ends t ht
      have := g4 _ _ _ (gM _ (Ch.Ok.ix_lt en.1)) (f4.has t ht)
      rw [this]
      rfl
    · rw [g9]
      congr 2
      refine rowD_congr fun v hv => ?_
      rw [gM v hv]
      rfl
end K76

set_option maxHeartbeats 2000000
/-! LH: lands. -/
namespace K76
open Mi
open PySem (Str PyData)
variable {w k : Nat} {h : MH} {Q : D → MH → Prop} {c : Ch}
/-- the reading at a number -/
def Ch.rn (c : Ch) (v : Nat) : Int := (c.ps[v]?.map (·.2)).getD 0
theorem rn_ix {n : Str} : c.rn (c.ix n) = c.rd n := rfl
theorem ps_at {v : Nat} (hv : v < c.ps.length) : atI (c.ps.map pd) ((v : Nat) : Int) = some (.tup [.str c.ps[v].1, .int (c.rn v)]) := by
  rw [at_nat' (by rw [List.length_map]; exact hv), List.getElem?_map, List.getElem?_eq_getElem hv]
  unfold Ch.rn
  rw [List.getElem?_eq_getElem hv]
  rfl
/-- a marking of parts -/
structure Mrk (c : Ch) (M : Nat → Nat) : Prop where
  lt : ∀ v, v < c.ps.length → M v < c.ps.length
  tie : ∀ t ∈ c.ts, M (c.ix t.one) = M (c.ix t.oth)
theorem legs_of {l : Leg} (hl : l ∈ c.legs) : ∃ t ∈ c.ts, (l.u = c.ix t.one ∧ l.v = c.ix t.oth ∧ c.bd t 0 = some l.b) ∨ (l.u = c.ix t.oth ∧ l.v = c.ix t.one ∧ c.bd t 1 = some l.b) := by
  unfold Ch.legs at hl
  obtain ⟨⟨t, i⟩, hm, hl⟩ := List.mem_flatMap.mp hl
  have ht := List.mem_of_getElem? (List.mk_mem_zipIdx_iff_getElem?.mp hm)
  refine ⟨t, ht, ?_⟩
  unfold Ch.legsOf at hl
  rcases List.mem_append.mp hl with hl | hl
  · cases e : c.bd t 0 with
    | none => rw [e] at hl; cases hl
    | some b =>
      rw [e] at hl
      rw [List.mem_singleton.mp hl]
      exact .inl ⟨rfl, rfl, rfl⟩
  · cases e : c.bd t 1 with
    | none => rw [e] at hl; cases hl
    | some b =>
      rw [e] at hl
      rw [List.mem_singleton.mp hl]
      exact .inr ⟨rfl, rfl, rfl⟩
theorem legs_has {t : Tie} (ht : t ∈ c.ts) {v : Int} (hv : v = 0 ∨ v = 1) {b : Int} (e : c.bd t v = some b) : ∃ l ∈ gs c.legs, l.u = c.ix (if v = 0 then t.one else t.oth) ∧ l.v = c.ix (if v = 0 then t.oth else t.one) ∧ l.b = b := by
  obtain ⟨i, hi⟩ := List.getElem?_of_mem ht
  have hm : (t, i) ∈ c.ts.zipIdx := List.mk_mem_zipIdx_iff_getElem?.mpr hi
  have go : ∀ l : Leg, l ∈ c.legsOf i t → l.g ∈ gs c.legs := fun l hl => List.mem_map.mpr ⟨l, List.mem_flatMap.mpr ⟨(t, i), hm, hl⟩, rfl⟩
  rcases hv with rfl | rfl
  · exact ⟨_, go ⟨c.ix t.one, c.ix t.oth, b, tagD i 0⟩ (by unfold Ch.legsOf; rw [e]; exact List.mem_append_left _ (List.mem_singleton.mpr rfl)), rfl, rfl, rfl⟩
  · exact ⟨_, go ⟨c.ix t.oth, c.ix t.one, b, tagD i 1⟩ (by unfold Ch.legsOf; rw [e]; exact List.mem_append_right _ (List.mem_singleton.mpr rfl)), rfl, rfl, rfl⟩
theorem Mrk.wk {M : Nat → Nat} (m : Mrk c M) {u v : Nat} {x : Int} (hw : SP.Wk (gs c.legs) u v x) : M u = M v := by
  induction hw with
  | nil u => rfl
  | cons hl _ ih =>
    obtain ⟨l, hl2, rfl⟩ := List.mem_map.mp hl
    obtain ⟨t, ht, e | e⟩ := legs_of hl2
    · rw [show l.g.u = l.u from rfl, e.1, m.tie t ht, ← e.2.1]
      exact ih
    · rw [show l.g.u = l.u from rfl, e.1, ← m.tie t ht, ← e.2.1]
      exact ih
def Cong (c : Ch) (l : SP.Lg) : Prop := (l.b - c.rn l.v + c.rn l.u) % c.m = 0
theorem bd_cong {m b x y : Int} : (b - (b - (x - y)) % m - x + y) % m = 0 := by
  have e := Int.emod_add_mul_ediv (b - (x - y)) m
  have e2 : b - (b - (x - y)) % m - x + y = m * ((b - (x - y)) / m) := by omega
  rw [e2]
  exact Int.mul_emod_right m _
theorem legs_cong : ∀ l ∈ gs c.legs, Cong c l := by
  intro g hg
  obtain ⟨l, hl, rfl⟩ := List.mem_map.mp hg
  obtain ⟨t, ht, ⟨e1, e2, e3⟩ | ⟨e1, e2, e3⟩⟩ := legs_of hl
  · show (l.b - c.rn l.v + c.rn l.u) % c.m = 0
    rw [e1, e2, rn_ix, rn_ix]
    rw [bd0, Option.map_eq_some_iff] at e3
    obtain ⟨b, _, e3⟩ := e3
    rw [← e3]
    exact bd_cong
  · show (l.b - c.rn l.v + c.rn l.u) % c.m = 0
    rw [e1, e2, rn_ix, rn_ix]
    rw [bd1, Option.map_eq_some_iff] at e3
    obtain ⟨b, _, e3⟩ := e3
    rw [← e3]
    have := bd_cong (m := c.m) (b := -b) (x := c.rd t.one) (y := c.rd t.oth)
    rw [show 0 - b - (c.rd t.oth - c.rd t.one - b) % c.m - c.rd t.one + c.rd t.oth = -b - (-b - (c.rd t.one - c.rd t.oth)) % c.m - c.rd t.one + c.rd t.oth by
      rw [show c.rd t.oth - c.rd t.one - b = -b - (c.rd t.one - c.rd t.oth) by omega]; omega]
    exact this
theorem emod0_add {m x y z : Int} (h1 : x % m = 0) (h2 : y % m = 0) (e : z = x + y) : z % m = 0 := by
  obtain ⟨a, rfl⟩ := Int.dvd_of_emod_eq_zero h1
  obtain ⟨b, rfl⟩ := Int.dvd_of_emod_eq_zero h2
  rw [e, ← Int.mul_add]
  exact Int.mul_emod_right m _
theorem wk_cong {L : List SP.Lg} (hL : ∀ l ∈ L, Cong c l) {u v : Nat} {x : Int} (hw : SP.Wk L u v x) : (x - c.rn v + c.rn u) % c.m = 0 := by
  induction hw with
  | nil u => rw [show (0 : Int) - c.rn u + c.rn u = 0 by omega]; exact Int.zero_emod _
  | cons hl _ ih =>
    have := hL _ hl
    exact emod0_add this ih (by omega)
/-- a told potential keeps the ties -/
theorem keeps_of (ok : c.Ok) {p : Nat → Int} (P : SP.Pot (gs c.legs) p) {t : Tie} (ht : t ∈ c.ts) : keepsB t (p (c.ix t.oth) - p (c.ix t.one)) = true := by
  have m0 := ok.m
  unfold keepsB
  rw [Bool.and_eq_true]
  constructor
  · cases e : t.lo with
    | none => rfl
    | some b =>
      have eb : c.bd t 1 = some (0 - b - ((c.rd t.oth - c.rd t.one) - b) % c.m) := by rw [bd1, e]; rfl
      obtain ⟨l, hl, e1, e2, e3⟩ := legs_has ht (.inr rfl) eb
      have := P l hl
      rw [e1, e2, e3] at this
      have h1 := Int.emod_nonneg ((c.rd t.oth - c.rd t.one) - b) (show c.m ≠ 0 by omega)
      have h2 : p (c.ix t.one) ≤ p (c.ix t.oth) + (0 - b - ((c.rd t.oth - c.rd t.one) - b) % c.m) := this
      exact decide_eq_true (by omega)
  · cases e : t.hi with
    | none => rfl
    | some b =>
      have eb : c.bd t 0 = some (b - (b - (c.rd t.oth - c.rd t.one)) % c.m) := by rw [bd0, e]; rfl
      obtain ⟨l, hl, e1, e2, e3⟩ := legs_has ht (.inl rfl) eb
      have := P l hl
      rw [e1, e2, e3] at this
      have h1 := Int.emod_nonneg (b - (c.rd t.oth - c.rd t.one)) (show c.m ≠ 0 by omega)
      have h2 : p (c.ix t.oth) ≤ p (c.ix t.one) + (b - (b - (c.rd t.oth - c.rd t.one)) % c.m) := this
      exact decide_eq_true (by omega)
def intD (f : Nat → Int) : Nat → D := fun v => .int (f v)
theorem p_same_part (hw : 4000 ≤ w) (ok : c.Ok) {one oth : Str} (h1 : one ∈ c.names) (h2 : oth ∈ c.names) {x : Int} (hk : SP.Wk (gs c.legs) (c.ix one) (c.ix oth) x) (q : ∀ h', Ex [] h h' → Q (.bl true) h') :
    wp (Gn cds w (k + 4) 4 [c.d, .str one, .str oth]) h Q := by
  have i1 := Ch.Ok.ix_lt h1
  have i2 := Ch.Ok.ix_lt h2
  rw [g4, b4]
  simp only [rules, bindG, bindGs, wipeE, placed, Nat.reduceAdd, Nat.reduceSub, Nat.reduceLeDiff, Nat.reduceLT, reduceIte, Int.reduceSub, Int.reduceAdd, Int.reduceMul]
  refine p_part_marks hw ok fun h3 mn M m1 m2 x3 e3 => ?_
  try simp only [rules, bindG, bindGs, wipeE, placed, Nat.reduceAdd, Nat.reduceSub, Nat.reduceLeDiff, Nat.reduceLT, reduceIte, Int.reduceSub, Int.reduceAdd, Int.reduceMul]
  refine p_place_of ok h1 fun h4 x4 => ?_
  simp only [rules, bindG, bindGs, wipeE, placed, Nat.reduceAdd, Nat.reduceSub, Nat.reduceLeDiff, Nat.reduceLT, reduceIte, Int.reduceSub, Int.reduceAdd, Int.reduceMul, ix_lst (x4.at0 e3), rowD_at i1, ex_some]
  refine p_place_of ok h2 fun h5 x5 => ?_
  simp only [rules, bindG, bindGs, wipeE, placed, Nat.reduceAdd, Nat.reduceSub, Nat.reduceLeDiff, Nat.reduceLT, reduceIte, Int.reduceSub, Int.reduceAdd, Int.reduceMul, ix_lst (x5.at0 (x4.at0 e3)), rowD_at i2, ex_some]
  rw [Mrk.wk ⟨m1, m2⟩ hk, decide_eq_true rfl]
  exact q h5 ((x3.trans x4).trans x5)
theorem zip_row {n : Nat} {f g : Nat → D} : zipD (rowD n f) (rowD n g) = (List.range n).map fun v => .tup [f v, g v] := zipD_map f g _
theorem p_grounded (hw : 4000 ≤ w) (ok : c.Ok) {f : Nat → Int} (q : ∀ h' M, Mrk c M → Ex [] h h' → Q (.tup (rowD c.ps.length (intD fun v => f v - f (M v) + c.rn (M v)))) h') :
    wp (Gn cds w (k + 4) 19 [c.d, .tup (rowD c.ps.length (intD f))]) h Q := by
  have lp := ok.lp
  rw [g19, b19]
  simp only [rules, bindG, bindGs, wipeE, placed, Nat.reduceAdd, Nat.reduceSub, Nat.reduceLeDiff, Nat.reduceLT, reduceIte, Int.reduceSub, Int.reduceAdd, Int.reduceMul]
  refine p_part_marks hw ok fun h3 mn M m1 m2 x3 e3 => ?_
  try simp only [rules, bindG, bindGs, wipeE, placed, Nat.reduceAdd, Nat.reduceSub, Nat.reduceLeDiff, Nat.reduceLT, reduceIte, Int.reduceSub, Int.reduceAdd, Int.reduceMul]
  rw [wp_items_obj]
  refine ⟨_, lstAt_iff.mpr e3, ?_⟩
  dsimp only
  rw [zip_row]
  refine wp_mapf (fun d => match d with | .tup [.int a, .int b] => .int (a - f b.toNat + c.rn b.toNat) | _ => .non) h3 (Ks.one e3) (by rw [List.length_map, List.length_range]; omega) ?_ ?_
  · intro d hd h4 x4
    obtain ⟨v, hv, rfl⟩ := List.mem_map.mp hd
    have hv := List.mem_range.mp hv
    have hM := m1 v hv
    refine ⟨_, rfl, ?_⟩
    unfold intD
    have e1 : atI (rowD c.ps.length (intD f)) ((M v : Nat) : Int) = some (.int (f (M v))) := rowD_at hM
    unfold intD at e1
    simp only [rules, bindG, bindGs, wipeE, placed, Nat.reduceAdd, Nat.reduceSub, Nat.reduceLeDiff, Nat.reduceLT, reduceIte, Int.reduceSub, Int.reduceAdd, Int.reduceMul, e1, ps_len, ps_at hM, ex_some]
    exact ⟨rfl, Ex.refl⟩
  · intro h4 x4 e4
    refine o_tupL e4 ?_
    have := q h4 M ⟨m1, m2⟩ (x3.trans x4)
    rw [List.map_map]
    exact this
def turnLeg (c : Ch) (l : Leg) : Leg := ⟨l.u, l.v, (l.b - c.rn l.v + c.rn l.u) / c.m, l.tag⟩
theorem turn_gs {ls : List Leg} : gs (ls.map (turnLeg c)) = (gs ls).map (SP.turn c.m c.rn) := by
  unfold gs
  rw [List.map_map, List.map_map]
  rfl
theorem ps_row : c.ps.map pd = rowD c.ps.length fun v => .tup [.str ((c.ps[v]?.map (·.1)).getD ""), .int (c.rn v)] := by
  refine List.ext_getElem? fun i => ?_
  by_cases hi : i < c.ps.length
  · rw [rowD_get hi, List.getElem?_map, List.getElem?_eq_getElem hi]
    unfold Ch.rn
    rw [List.getElem?_eq_getElem hi]
    rfl
  · rw [List.getElem?_eq_none (by rw [List.length_map]; omega), List.getElem?_eq_none (by rw [rowD_len]; omega)]
def invLl (c : Ch) (ls : List Leg) (ln : Nat) (h0 : MH) (ds : List D) (env : Env) (h' : MH) : Prop := ∃ (done todo : List Leg) (a5 a6 a7 a8 : Option D), ls = done ++ todo ∧ ds = todo.map Leg.d ∧
  env = [some c.d, some (.obj ln), some (.obj h0.length), some (.int c.m), some (.tup (c.ps.map pd)), a5, a6, a7, a8, none, none, none, none, none] ∧ h'[ln]? = some (.lst (ls.map Leg.d)) ∧ h'[h0.length]? = some (.lst ((done.map (turnLeg c)).map Leg.d)) ∧ Ex [] h0 h'
/-- what a told land keeps -/
structure LandOf (c : Ch) (L : List SP.Lg) (p : Nat → Int) : Prop where
  pot : SP.Pot L p
  cong : ∀ v, (p v - c.rn v) % c.m = 0
theorem p_land_of_legs (hw : 4000 ≤ w) (ok : c.Ok) {ln : Nat} {ls : List Leg} (hl : h[ln]? = some (.lst (ls.map Leg.d))) (hlen : ls.length ≤ 100000) (hu : ∀ l ∈ ls, l.u < c.ps.length ∧ l.v < c.ps.length) (hne : ∀ l ∈ ls, l.u ≠ l.v) (hc : ∀ l ∈ gs ls, Cong c l) (hfr : ¬ SP.Neg (gs ls))
    (q : ∀ h' p M, LandOf c (gs ls) p → Mrk c M → Ex [] h h' → Q (.tup (rowD c.ps.length (intD fun v => p v - p (M v) + c.rn (M v)))) h') :
    wp (Gn cds w (k + 5) 21 [c.d, .obj ln]) h Q := by
  have lp := ok.lp
  have m0 := ok.m
  have m2 := ok.m2
  have lnl : ln < h.length := (List.getElem?_eq_some_iff.mp hl).1
  rw [g21, w_run]
  refine ⟨rfl, ?_⟩
  rw [show b21 = CS.asg _ _ :: CS.set _ _ :: CS.for _ _ (forB (b21.getD 2 .pass)) :: b21.drop 3 from rfl, s_cons]
  have em : ∀ g : MH, idxD c.d (.int 0) g = some (.int c.m) := fun g => at0
  simp only [rules, bindG, bindGs, wipeE, placed, Nat.reduceAdd, Nat.reduceSub, Nat.reduceLeDiff, Nat.reduceLT, reduceIte, Int.reduceSub, Int.reduceAdd, Int.reduceMul, em, ps_len, ex_some]
  rw [wp_items_obj]
  refine ⟨_, lstAt_iff.mpr ((Ex.app (S := [])).at0 hl), ?_⟩
  dsimp only
  refine wp_for (Inv := invLl c ls ln h) ?_ ?_ ⟨[], ls, _, _, _, _, rfl, rfl, rfl, (Ex.app (S := [])).at0 hl, List.getElem?_concat_length .., Ex.app⟩
  · rintro d ds env h2 ⟨done, todo, a5, a6, a7, a8, f1, f2, rfl, f4, f5, f6⟩
    cases todo with
    | nil => cases f2
    | cons l todo =>
    rw [List.map_cons, List.cons.injEq] at f2
    obtain ⟨rfl, rfl⟩ := f2
    have hm : l ∈ ls := by rw [f1]; simp
    obtain ⟨u1, u2⟩ := hu l hm
    refine ⟨Ks.one f4, _, rfl, ?_⟩
    rw [show forB (b21.getD 2 .pass) = [CS.exp _] from rfl]
    simp only [rules, bindG, bindGs, wipeE, placed, Nat.reduceAdd, Nat.reduceSub, Nat.reduceLeDiff, Nat.reduceLT, reduceIte, Int.reduceSub, Int.reduceAdd, Int.reduceMul, isLst_ok f5, ps_at u1, ps_at u2, ex_some]
    refine ⟨(), o_fdiv.mpr ⟨⟨m0, by omega⟩, ?_⟩⟩
    have dl := congrArg List.length f1
    rw [List.length_append] at dl
    refine wp_app1 f5 (line_gt (by rw [List.length_map, List.length_map]; omega)) fun h3 u3 g3 => ?_
    exact ⟨done ++ [l], todo, _, _, _, _, by rw [f1]; simp, rfl, rfl, u3.get f4 (by omega), by rw [g3, List.map_append, List.map_append]; rfl, u3.ex f6 (.inl (Nat.le_refl _))⟩
  · rintro env h2 ⟨done, todo, a5, a6, a7, a8, f1, f2, rfl, f4, f5, f6⟩
    cases todo with
    | cons l todo => cases f2
    | nil =>
    rw [List.append_nil] at f1
    subst f1
    refine ⟨Ks.one f4, ?_⟩
    rw [show b21.drop 3 = CS.asg _ _ :: CS.ifs _ _ _ :: [CS.ret _] from rfl, s_cons]
    simp only [rules, bindG, bindGs, wipeE, placed, Nat.reduceAdd, Nat.reduceSub, Nat.reduceLeDiff, Nat.reduceLT, reduceIte, Int.reduceSub, Int.reduceAdd, Int.reduceMul]
    rw [List.length_map]
    have hu' : ∀ l ∈ ls.map (turnLeg c), l.u < c.ps.length ∧ l.v < c.ps.length := fun l hl => by
      obtain ⟨g, hg, rfl⟩ := List.mem_map.mp hl
      exact hu g hg
    have hg' : ∀ l ∈ gs (ls.map (turnLeg c)), l.u < c.ps.length ∧ l.v < c.ps.length := fun l hl => by
      obtain ⟨g, hg, rfl⟩ := List.mem_map.mp hl
      exact hu' g hg
    have hne' : ∀ l ∈ gs (ls.map (turnLeg c)), l.u ≠ l.v := fun l hl => by
      obtain ⟨g, hg, rfl⟩ := List.mem_map.mp hl
      obtain ⟨g', hg', rfl⟩ := List.mem_map.mp hg
      exact hne g' hg'
    refine p_back_legs f5 lp hu' fun h3 tn bn s es iso t1 t2 x3 S => ?_
    have fn : ¬ SP.Neg (gs (ls.map (turnLeg c))) := fun z => by
      rw [turn_gs] at z
      exact hfr (SP.turn_neg m0 hc z)
    have fal : s.fal = none := by
      rw [es]
      exact (SP.laps_iff hne' hg').mpr fn
    have hs : ∀ l ∈ gs (ls.map (turnLeg c)), SP.Sat s.d l := by
      have := (SP.laps_end hne' hg' (s0 := st0) rfl).1
      rw [← es] at this
      exact this fal
    have P := SP.turn_pot m0 hc (by rw [← turn_gs]; exact SP.pot_of hs iso)
    rw [fal]
    simp only [natO, nonD_non, rules, bindG, bindGs, wipeE, placed, Nat.reduceAdd, Nat.reduceSub, Nat.reduceLeDiff, Nat.reduceLT, reduceIte, Int.reduceSub, Int.reduceAdd, Int.reduceMul]
    rw [wp_items_obj]
    refine ⟨_, lstAt_iff.mpr S.told, ?_⟩
    dsimp only
    rw [ps_row, zip_row]
    refine wp_mapf (fun d => match d with | .tup [.tup [_, .int a], .int b] => .int (a + c.m * b) | _ => .non) h3 (Ks.one S.told) (by rw [List.length_map, List.length_range]; omega) ?_ ?_
    · intro d hd h4 x4
      obtain ⟨v, hv, rfl⟩ := List.mem_map.mp hd
      obtain ⟨b, hb⟩ := Option.isSome_iff_exists.mp (iso v)
      refine ⟨_, rfl, ?_⟩
      rw [hb]
      simp only [od, rules, bindG, bindGs, wipeE, placed, Nat.reduceAdd, Nat.reduceSub, Nat.reduceLeDiff, Nat.reduceLT, reduceIte, Int.reduceSub, Int.reduceAdd, Int.reduceMul]
      refine o_mul.mpr ⟨?_, ?_⟩
      · unfold small64
        rw [Bool.or_eq_true, Bool.and_eq_true, decide_eq_true_eq, decide_eq_true_eq]
        exact .inl ⟨by omega, by omega⟩
      · simp only [rules, bindG, bindGs, wipeE, placed, Nat.reduceAdd, Nat.reduceSub, Nat.reduceLeDiff, Nat.reduceLT, reduceIte, Int.reduceSub, Int.reduceAdd, Int.reduceMul]
        exact Ex.refl
    · intro h4 x4 e4
      refine o_tupL e4 ?_
      rw [List.map_map]
      have er : (List.range c.ps.length).map ((fun d : D => (match d with | .tup [.tup [_, .int a], .int b] => .int (a + c.m * b) | _ => .non : D)) ∘ fun v => D.tup [.tup [.str ((c.ps[v]?.map (·.1)).getD ""), .int (c.rn v)], od (s.d v)]) = rowD c.ps.length (intD fun v => c.rn v + c.m * (s.d v).getD 0) := by
        refine List.map_congr_left fun v _ => ?_
        obtain ⟨b, hb⟩ := Option.isSome_iff_exists.mp (iso v)
        show (match (D.tup [.tup [.str ((c.ps[v]?.map (·.1)).getD ""), .int (c.rn v)], od (s.d v)] : D) with | .tup [.tup [_, .int a], .int b] => .int (a + c.m * b) | _ => .non : D) = _
        rw [hb]
        show D.int (c.rn v + c.m * b) = D.int (c.rn v + c.m * (s.d v).getD 0)
        rw [hb]
        rfl
      rw [er]
      have hd : c.d = .tup [.int c.m, .tup (rowD c.ps.length fun v => .tup [.str ((c.ps[v]?.map (·.1)).getD ""), .int (c.rn v)]), .tup (c.ts.map Tie.d)] := by
        rw [← ps_row]
        rfl
      refine p_grounded hw ok fun h5 M hM x5 => ?_
      exact q h5 _ M ⟨P, fun v => by rw [show c.rn v + c.m * (s.d v).getD 0 - c.rn v = c.m * (s.d v).getD 0 by omega]; exact Int.mul_emod_right _ _⟩ hM (((f6.trans x3).trans x4).trans x5)
end K76

set_option maxHeartbeats 2000000
/-! LI: lands with a difference; struck charts; lots. -/
namespace K76
open Mi
open PySem (Str PyData)
variable {w k : Nat} {h : MH} {Q : D → MH → Prop} {c : Ch}
theorem o_catL' {n m : Nat} {xs ys : List D} (e1 : h[n]? = some (.lst xs)) (e2 : h[m]? = some (.lst ys)) (hl : xs.length + ys.length ≤ LINE) (q : ∀ h' p, h.length ≤ p → Ex [] h h' → h'[p]? = some (.lst (xs ++ ys)) → Q (.obj p) h') : wp (binD .add (.obj n) (.obj m)) h Q :=
  o_catL e1 e2 hl (q _ _ (Nat.le_refl _) Ex.app (List.getElem?_concat_length ..))
theorem eq_mod {i j : Int} : cmpD .ne (.int i) (.int j) h = some (!decide (i = j)) := c_neI
theorem emod0_neg {m x y : Int} (h : x % m = 0) (e : y = -x) : y % m = 0 := by
  rw [e]
  exact Int.emod_eq_zero_of_dvd (Int.dvd_neg.mpr (Int.dvd_of_emod_eq_zero h))
theorem p_land_held (hw : 4000 ≤ w) (ok : c.Ok) (hfr : c.Free) {f l : Nat} {x : Int} (hf : f < c.ps.length) (hl : l < c.ps.length) (hne : f ≠ l) {dd : Nat → Option Int} (hD : ∀ v, SP.Dist (gs c.legs) f v (dd v)) (hx : dd l = some x) {π : Nat → Int} (hπ : SP.Pot (gs c.legs) π)
    (q : ∀ h' p M, LandOf c (SP.held (gs c.legs) f l x) p → Mrk c M → Ex [] h h' → Q (.tup (rowD c.ps.length (intD fun v => p v - p (M v) + c.rn (M v)))) h') :
    wp (Gn cds w (k + 6) 23 [c.d, .int (f : Nat), .int (l : Nat), .int x]) h Q := by
  have m0 := ok.m
  have hc : (x - c.rn l + c.rn f) % c.m = 0 := wk_cong legs_cong ((hD l).1 x hx)
  rw [g23, b23]
  have em : ∀ g : MH, idxD c.d (.int 0) g = some (.int c.m) := fun g => at0
  simp only [rules, bindG, bindGs, wipeE, placed, Nat.reduceAdd, Nat.reduceSub, Nat.reduceLeDiff, Nat.reduceLT, reduceIte, Int.reduceSub, Int.reduceAdd, Int.reduceMul, em, ps_len, ps_at hf, ps_at hl, ex_some]
  refine o_mod.mpr ⟨m0, ?_⟩
  simp only [rules, bindG, bindGs, wipeE, placed, Nat.reduceAdd, Nat.reduceSub, Nat.reduceLeDiff, Nat.reduceLT, reduceIte, Int.reduceSub, Int.reduceAdd, Int.reduceMul, hc, decide_eq_true rfl]
  refine p_bounded_legs ok fun h1 n1 l1 x1 e1 => ?_
  try simp only [rules, bindG, bindGs, wipeE, placed, Nat.reduceAdd, Nat.reduceSub, Nat.reduceLeDiff, Nat.reduceLT, reduceIte, Int.reduceSub, Int.reduceAdd, Int.reduceMul]
  refine o_catL' ((Ex.app (S := [])).at0 e1) (List.getElem?_concat_length ..) (line_ge (by have := legs_len ok; rw [List.length_map]; simp only [List.length_cons, List.length_nil]; omega)) fun h2 n2 l2 x2 e2 => ?_
  try simp only [rules, bindG, bindGs, wipeE, placed, Nat.reduceAdd, Nat.reduceSub, Nat.reduceLeDiff, Nat.reduceLT, reduceIte, Int.reduceSub, Int.reduceAdd, Int.reduceMul]
  have el : c.legs.map Leg.d ++ [D.tup [.int (f : Nat), .int (l : Nat), .int x, .non], .tup [.int (l : Nat), .int (f : Nat), .int (-x), .non]] = (c.legs ++ [(⟨f, l, x, .non⟩ : Leg), ⟨l, f, -x, .non⟩]).map Leg.d := by rw [List.map_append]; rfl
  rw [el] at e2
  have eg : gs (c.legs ++ [(⟨f, l, x, .non⟩ : Leg), ⟨l, f, -x, .non⟩]) = SP.held (gs c.legs) f l x := by unfold gs SP.held; rw [List.map_append]; rfl
  obtain ⟨p0, hp0⟩ := SP.pot_held hπ hD hx
  refine p_land_of_legs hw ok e2 (by have := legs_len ok; rw [List.length_append]; simp only [List.length_cons, List.length_nil]; omega) (fun g hg => ?_) (fun g hg => ?_) (fun g hg => ?_) (by rw [eg]; exact hp0.neg) fun h3 p M hp hM x3 => ?_
  · rcases List.mem_append.mp hg with hg | hg
    · exact legs_u ok g hg
    · simp only [List.mem_cons, List.not_mem_nil, or_false] at hg
      rcases hg with rfl | rfl
      · exact ⟨hf, hl⟩
      · exact ⟨hl, hf⟩
  · rcases List.mem_append.mp hg with hg | hg
    · exact (legs_mem ok g hg).2.2
    · simp only [List.mem_cons, List.not_mem_nil, or_false] at hg
      rcases hg with rfl | rfl
      · exact hne
      · exact hne.symm
  · rw [eg] at hg
    unfold SP.held at hg
    rcases List.mem_append.mp hg with hg | hg
    · exact legs_cong g hg
    · simp only [List.mem_cons, List.not_mem_nil, or_false] at hg
      rcases hg with rfl | rfl
      · exact hc
      · show (-x - c.rn f + c.rn l) % c.m = 0
        exact emod0_neg hc (by omega)
  · rw [eg] at hp
    exact q h3 p M hp hM ((x1.trans Ex.app).trans (x2.trans x3))
theorem held_pot {L : List SP.Lg} {f l : Nat} {x : Int} {p : Nat → Int} (P : SP.Pot (SP.held L f l x) p) : SP.Pot L p ∧ p l - p f = x := by
  unfold SP.held at P
  refine ⟨fun g hg => P g (List.mem_append_left _ hg), ?_⟩
  have h1 := P ⟨f, l, x⟩ (List.mem_append_right _ (by simp))
  have h2 := P ⟨l, f, -x⟩ (List.mem_append_right _ (by simp))
  dsimp only at h1 h2
  omega
/-- a land as told: congruent, it keeps the ties -/
structure Told (c : Ch) (f : Nat → Int) : Prop where
  cong : ∀ v, v < c.ps.length → (f v - c.rn v) % c.m = 0
  keep : ∀ t ∈ c.ts, keepsB t (f (c.ix t.oth) - f (c.ix t.one)) = true
theorem told_of (ok : c.Ok) {p : Nat → Int} {M : Nat → Nat} (P : SP.Pot (gs c.legs) p) (hc : ∀ v, (p v - c.rn v) % c.m = 0) (hM : Mrk c M) : Told c fun v => p v - p (M v) + c.rn (M v) := by
  refine ⟨fun v hv => ?_, fun t ht => ?_⟩
  · exact emod0_add (hc v) (emod0_neg (hc (M v)) rfl) (by omega)
  · have e := hM.tie t ht
    rw [← e, show p (c.ix t.oth) - p (M (c.ix t.one)) + c.rn (M (c.ix t.one)) - (p (c.ix t.one) - p (M (c.ix t.one)) + c.rn (M (c.ix t.one))) = p (c.ix t.oth) - p (c.ix t.one) by omega]
    exact keeps_of ok P ht
/-- sums from each place, of a chart that no ring bars -/
theorem free_dist (ok : c.Ok) (hfr : c.Free) : (∃ π, SP.Pot (gs c.legs) π) ∧ ∀ f, ∃ dd : Nat → Option Int, ∀ v, SP.Dist (gs c.legs) f v (dd v) := by
  have hu' : ∀ l ∈ gs c.legs, l.u < c.ps.length ∧ l.v < c.ps.length := fun l hl => by
    obtain ⟨g, hg, rfl⟩ := List.mem_map.mp hl
    exact legs_u ok g hg
  have hne' : ∀ l ∈ gs c.legs, l.u ≠ l.v := fun l hl => by
    obtain ⟨g, hg, rfl⟩ := List.mem_map.mp hl
    exact (legs_mem ok g hg).2.2
  have fal := (SP.laps_iff hne' hu').mpr hfr
  have hs := (SP.laps_end hne' hu' (s0 := st0) rfl).1 fal
  have iso : ∀ v, ((SP.laps (gs c.legs) (c.ps.length + 1) st0).d v).isSome = true := by
    have rp : ∀ (K : Nat) (s : SP.St), (∀ v, (s.d v).isSome = true) → ∀ v, ((SP.laps (gs c.legs) K s).d v).isSome = true := by
      intro K
      induction K with
      | zero => exact fun _ h => h
      | succ K ih =>
        intro s h
        unfold SP.laps
        split
        · exact runL_isSome _ 0 _ h
        · exact ih _ (runL_isSome _ 0 _ h)
    exact rp _ _ fun _ => rfl
  have P := SP.pot_of hs iso
  refine ⟨⟨_, P⟩, fun f => ?_⟩
  refine ⟨fun v => by
    classical
    exact if hc : ∃ x, SP.Dist (gs c.legs) f v (some x) then some hc.choose else none, fun v => ?_⟩
  classical
  dsimp only
  split
  · rename_i hc
    exact hc.choose_spec
  · rename_i hc
    refine ⟨fun x e => (nomatch e), fun x w => ?_⟩
    exfalso
    -- the sums of walks are bounded below, so there is a least
    apply hc
    let π := fun v => ((SP.laps (gs c.legs) (c.ps.length + 1) st0).d v).getD 0
    have lo : ∀ x, SP.Wk (gs c.legs) f v x → π v - π f ≤ x := fun x w => by have := SP.Pot.wk P w; show π v - π f ≤ x; simp only [π]; omega
    have hmin : ∀ n : Nat, ∀ x, SP.Wk (gs c.legs) f v x → x - (π v - π f) ≤ n → ∃ y, SP.Dist (gs c.legs) f v (some y) := by
      intro n
      induction n with
      | zero =>
        intro x w hx
        refine ⟨x, fun c' e => by cases e; exact w, fun c' w' => ⟨x, rfl, by have := lo c' w'; omega⟩⟩
      | succ n ih =>
        intro x w hx
        by_cases z : ∃ y, SP.Wk (gs c.legs) f v y ∧ y < x
        · obtain ⟨y, wy, hy⟩ := z
          exact ih y wy (by omega)
        · exact ⟨x, fun c' e => by cases e; exact w, fun c' w' => ⟨x, rfl, by apply Decidable.byContradiction; intro q; exact z ⟨c', w', by omega⟩⟩⟩
    exact hmin (x - (π v - π f)).toNat x w (by have := lo x w; omega)
theorem p_land_with (hw : 4000 ≤ w) (ok : c.Ok) (hfr : c.Free) {one oth : Str} (h1 : one ∈ c.names) (h2 : oth ∈ c.names) (hne : one ≠ oth) {x : Int} (hd : SP.Dist (gs c.legs) (c.ix one) (c.ix oth) (some x))
    (q : ∀ h' f, Told c f → f (c.ix oth) - f (c.ix one) = x → Ex [] h h' → Q (.tup (rowD c.ps.length (intD f))) h') :
    wp (Gn cds w (k + 7) 25 [c.d, .str one, .str oth, .int x]) h Q := by
  have i1 := Ch.Ok.ix_lt h1
  have i2 := Ch.Ok.ix_lt h2
  have hw2 : SP.Wk (gs c.legs) (c.ix one) (c.ix oth) x := hd.1 x rfl
  rw [g25, b25]
  simp only [rules, bindG, bindGs, wipeE, placed, Nat.reduceAdd, Nat.reduceSub, Nat.reduceLeDiff, Nat.reduceLT, reduceIte, Int.reduceSub, Int.reduceAdd, Int.reduceMul]
  refine p_unlike_places (ok.str _ h1) (ok.str _ h2) hne ?_
  try simp only [rules, bindG, bindGs, wipeE, placed, Nat.reduceAdd, Nat.reduceSub, Nat.reduceLeDiff, Nat.reduceLT, reduceIte, Int.reduceSub, Int.reduceAdd, Int.reduceMul]
  refine p_not_barred (by omega) ok hfr fun h3 x3 => ?_
  try simp only [rules, bindG, bindGs, wipeE, placed, Nat.reduceAdd, Nat.reduceSub, Nat.reduceLeDiff, Nat.reduceLT, reduceIte, Int.reduceSub, Int.reduceAdd, Int.reduceMul]
  refine p_place_of ok h1 fun h4 x4 => ?_
  try simp only [rules, bindG, bindGs, wipeE, placed, Nat.reduceAdd, Nat.reduceSub, Nat.reduceLeDiff, Nat.reduceLT, reduceIte, Int.reduceSub, Int.reduceAdd, Int.reduceMul]
  refine p_place_of ok h2 fun h5 x5 => ?_
  try simp only [rules, bindG, bindGs, wipeE, placed, Nat.reduceAdd, Nat.reduceSub, Nat.reduceLeDiff, Nat.reduceLT, reduceIte, Int.reduceSub, Int.reduceAdd, Int.reduceMul]
  refine p_same_part hw ok h1 h2 hw2 fun h6 x6 => ?_
  simp only [rules, bindG, bindGs, wipeE, placed, Nat.reduceAdd, Nat.reduceSub, Nat.reduceLeDiff, Nat.reduceLT, reduceIte, Int.reduceSub, Int.reduceAdd, Int.reduceMul, ex_some]
  obtain ⟨⟨π, hπ⟩, hD⟩ := free_dist ok hfr
  obtain ⟨dd, hdd⟩ := hD (c.ix one)
  have hx : dd (c.ix oth) = some x := (hdd _).uniq hd
  refine p_land_held hw ok hfr i1 i2 (fun z => hne (ix_inj h1 h2 z)) hdd hx hπ fun h7 p M hp hM x7 => ?_
  simp only [nonD_tup, rules, bindG, bindGs, wipeE, placed, Nat.reduceAdd, Nat.reduceSub, Nat.reduceLeDiff, Nat.reduceLT, reduceIte, Int.reduceSub, Int.reduceAdd, Int.reduceMul]
  obtain ⟨q1, q2⟩ := held_pot hp.pot
  refine q h7 _ (told_of ok q1 hp.cong hM) ?_ (((x3.trans x4).trans x5).trans (x6.trans x7))
  have := hM.wk hw2
  rw [this]
  omega
end K76

set_option maxHeartbeats 2000000
/-! LJ: struck charts, lots, ties that a land breaks. -/
namespace K76
open Mi
open PySem (Str PyData)
variable {w k : Nat} {h : MH} {Q : D → MH → Prop} {c : Ch}
theorem kget_kput {kvs : List (Key × D)} {a b : Key} {v : D} : kget (kput kvs a v) b = if b = a then some v else kget kvs b := by
  unfold kput
  split
  · rename_i hany
    unfold kget
    by_cases e : b = a
    · subst e
      rw [if_pos rfl]
      induction kvs with
      | nil => cases hany
      | cons p r ih =>
        rw [List.map_cons, List.find?_cons]
        by_cases z : p.1 = b
        · rw [if_pos z, decide_eq_true z]
          rfl
        · rw [if_neg z, decide_eq_false z]
          rw [List.any_cons, decide_eq_false z, Bool.false_or] at hany
          exact ih hany
    · rw [if_neg e]
      clear hany
      induction kvs with
      | nil => rfl
      | cons p r ih =>
        rw [List.map_cons, List.find?_cons, List.find?_cons]
        by_cases z : p.1 = a
        · rw [if_pos z]
          have : ¬ p.1 = b := fun y => e (y.symm.trans z)
          rw [decide_eq_false this]
          exact ih
        · rw [if_neg z]
          by_cases y : p.1 = b
          · rw [decide_eq_true y]
          · rw [decide_eq_false y]
            exact ih
  · rename_i hany
    unfold kget
    rw [List.find?_append]
    by_cases e : b = a
    · subst e
      rw [if_pos rfl]
      have : kvs.find? (fun kv => decide (kv.1 = b)) = none := by
        rw [List.find?_eq_none]
        intro x hx hd
        exact hany (List.any_eq_true.mpr ⟨x, hx, hd⟩)
      rw [this, List.find?_cons, decide_eq_true rfl]
      rfl
    · rw [if_neg e]
      have : List.find? (fun kv => decide (kv.1 = b)) [(a, v)] = none := by
        rw [List.find?_cons, decide_eq_false (fun y => e y.symm)]
        rfl
      rw [this]
      cases kvs.find? (fun kv => decide (kv.1 = b)) <;> rfl
def lotD (lot : List Nat) : D := .tup (nats lot)
def Tie.bare (t : Tie) : Tie := ⟨t.nm, t.one, t.oth, none, none, t.pl⟩
def strT (lot : List Nat) (p : Tie × Nat) : Tie := if p.2 ∈ lot then p.1.bare else p.1
def Ch.strike (c : Ch) (lot : List Nat) : Ch := ⟨c.m, c.ps, c.ts.zipIdx.map (strT lot)⟩
theorem strT_ends {lot : List Nat} {p : Tie × Nat} : (strT lot p).one = p.1.one ∧ (strT lot p).oth = p.1.oth := by
  unfold strT
  split <;> exact ⟨rfl, rfl⟩
theorem Ch.Ok.strike (ok : c.Ok) (lot : List Nat) : (c.strike lot).Ok := by
  have mem : ∀ t ∈ (c.strike lot).ts, ∃ t' ∈ c.ts, t.one = t'.one ∧ t.oth = t'.oth := fun t ht => by
    obtain ⟨⟨t', i⟩, hp, rfl⟩ := List.mem_map.mp ht
    exact ⟨t', List.mem_of_getElem? (List.mk_mem_zipIdx_iff_getElem?.mp hp), strT_ends⟩
  refine ⟨ok.m, ok.m2, ok.nd, ok.str, ok.rdg, fun t ht => ?_, fun t ht => ?_, ok.lp, ?_⟩
  · obtain ⟨t', h1, h2, h3⟩ := mem t ht
    rw [h2, h3]
    exact ok.ends t' h1
  · obtain ⟨t', h1, h2, h3⟩ := mem t ht
    rw [h2, h3]
    exact ok.ne t' h1
  · show (c.ts.zipIdx.map _).length ≤ 1000
    rw [List.length_map, List.length_zipIdx]
    exact ok.lt
theorem p_struck_tie {t : Tie} (q : Q t.bare.d h) : wp (Gn cds w (k + 1) 26 [t.d]) h Q := by
  rw [g26, b26]
  unfold Tie.d
  simp only [rules, bindG, bindGs, wipeE, placed, Nat.reduceAdd, Nat.reduceSub, Nat.reduceLeDiff, Nat.reduceLT, reduceIte, Int.reduceSub, Int.reduceAdd, Int.reduceMul]
  have e5 : ∀ {a b c d e f : D}, atI [a, b, c, d, e, f] 5 = some f := fun {a b c d e f} => by
    rw [at_nat (by omega) (by simp)]
    rfl
  simp only [e5, ex_some]
  exact q
def invSd (lot : List Nat) (h0 : MH) (ds : List D) (acc : List (Key × D)) (h' : MH) : Prop := ∃ done todo, lot = done ++ todo ∧ ds = nats todo ∧ (∀ k', (kget acc k').isSome = decide (∃ i ∈ done, k' = .inl ((i : Nat) : Int))) ∧ acc.length ≤ done.length ∧ h'[h0.length]? = some (.dic acc) ∧ Ex [] h0 h'
theorem kput_len {kvs : List (Key × D)} {a : Key} {v : D} : (kput kvs a v).length ≤ kvs.length + 1 := by
  unfold kput
  split
  · rw [List.length_map]; omega
  · rw [List.length_append]; exact Nat.le_refl _
theorem p_struck_chart {lot : List Nat} (ok : c.Ok) (hl : lot.length ≤ 100000) (q : ∀ h', Ex [] h h' → Q (c.strike lot).d h') : wp (Gn cds w (k + 2) 27 [c.d, lotD lot]) h Q := by
  have lt := ok.lt
  rw [g27, b27]
  unfold lotD
  simp only [rules, bindG, bindGs, wipeE, placed, Nat.reduceAdd, Nat.reduceSub, Nat.reduceLeDiff, Nat.reduceLT, reduceIte, Int.reduceSub, Int.reduceAdd, Int.reduceMul]
  refine wp_dcL (Inv := invSd lot h) ?_ ?_ (acc := []) ⟨[], lot, rfl, rfl, fun k' => ?_, Nat.le_refl _, List.getElem?_concat_length .., Ex.app⟩
  · rintro d ds acc h1 ⟨done, todo, f1, f2, f3, f4, f5, f6⟩
    cases todo with
    | nil => cases f2
    | cons i todo =>
    unfold nats at f2
    rw [List.map_cons, List.cons.injEq] at f2
    obtain ⟨rfl, rfl⟩ := f2
    have dl := congrArg List.length f1
    rw [List.length_append] at dl
    refine ⟨Ks.nil, _, rfl, ?_⟩
    simp only [rules, bindG, bindGs, wipeE, placed, Nat.reduceAdd, Nat.reduceSub, Nat.reduceLeDiff, Nat.reduceLT, reduceIte, Int.reduceSub, Int.reduceAdd, Int.reduceMul]
    refine ⟨f5, line_gt (by omega), _, rfl, done ++ [i], todo, by rw [f1]; simp, rfl, fun k' => ?_, ?_, set_at f5, f6.set (Nat.le_refl _)⟩
    · rw [kget_kput]
      by_cases z : k' = .inl ((i : Nat) : Int)
      · rw [if_pos z]
        exact (decide_eq_true ⟨i, by simp, z⟩).symm
      · rw [if_neg z, f3]
        congr 1
        apply propext
        constructor
        · rintro ⟨j, hj, e⟩
          exact ⟨j, List.mem_append_left _ hj, e⟩
        · rintro ⟨j, hj, e⟩
          rcases List.mem_append.mp hj with hj | hj
          · exact ⟨j, hj, e⟩
          · rw [List.mem_singleton.mp hj] at e
            exact absurd e z
    · have := kput_len (kvs := acc) (a := .inl ((i : Nat) : Int)) (v := .bl true)
      rw [List.length_append, List.length_singleton]
      omega
  · rintro acc h1 ⟨done, todo, f1, f2, f3, f4, f5, f6⟩
    cases todo with
    | cons i todo => cases f2
    | nil =>
    rw [List.append_nil] at f1
    subst f1
    refine ⟨Ks.nil, ?_⟩
    have ec : ∀ g : MH, idxD c.d (.int 2) g = some (.tup (c.ts.map Tie.d)) := fun g => at2
    have em : ∀ g : MH, idxD c.d (.int 0) g = some (.int c.m) := fun g => at0
    simp only [rules, bindG, bindGs, wipeE, placed, Nat.reduceAdd, Nat.reduceSub, Nat.reduceLeDiff, Nat.reduceLT, reduceIte, Int.reduceSub, Int.reduceAdd, Int.reduceMul, ec, ex_some]
    have items : enumD (c.ts.map Tie.d) = c.ts.zipIdx.map fun p => D.tup [.int (p.2 : Nat), p.1.d] := by
      unfold enumD
      rw [List.zipIdx_map, List.map_map]
      rfl
    rw [items]
    have go : ∀ (Q' : Unit → MH → Prop), (∀ h', Ex [] h1 h' → h'[h1.length]? = some (.lst ((c.strike lot).ts.map Tie.d)) → Q' () h') → ∀ {env : Env}, env = [some c.d, some (.tup (nats lot)), some (.obj h.length), none, none, none] → wp (lcL (bindG (.tp [.nm 5, .nm 4])) (evOT (Gn cds w (k + 1)) none) (evE (Gn cds w (k + 1)) (.ite (.cmp .in_ (.var 5) (.var 2)) (.call 26 [.var 4]) (.var 4))) [] h1.length env (c.ts.zipIdx.map fun p => D.tup [.int (p.2 : Nat), p.1.d])) (h1 ++ [.lst []]) Q' := by
      rintro Q' hQ env rfl
      refine wp_lcL (Inv := fun ds acc h' => ∃ done todo, c.ts.zipIdx = done ++ todo ∧ ds = todo.map (fun p => D.tup [.int (p.2 : Nat), p.1.d]) ∧ acc = done.map (fun p => (strT lot p).d) ∧ Ex [] h1 h' ∧ h'[h1.length]? = some (.lst acc)) ?_ ?_ (acc := []) ⟨[], c.ts.zipIdx, rfl, rfl, rfl, Ex.app, List.getElem?_concat_length ..⟩
      · rintro d ds acc h2 ⟨done, todo, g1, g2, rfl, g4, g5⟩
        cases todo with
        | nil => cases g2
        | cons p todo =>
        obtain ⟨t, i⟩ := p
        rw [List.map_cons, List.cons.injEq] at g2
        obtain ⟨rfl, rfl⟩ := g2
        have dl := congrArg List.length g1
        rw [List.length_append, List.length_zipIdx] at dl
        refine ⟨Ks.nil, _, rfl, ?_⟩
        rw [w_otnone, if_pos rfl]
        have hin : cmpD .in_ (.int (i : Nat)) (.obj h.length) h2 = some (decide (i ∈ lot)) := by
          unfold cmpD
          dsimp only
          unfold inD
          dsimp only
          rw [g4.at0 f5]
          dsimp only
          show some ((kget acc (.inl ((i : Nat) : Int))).isSome) = _
          rw [f3]
          refine congrArg some (decide_eq_decide.mpr ⟨?_, ?_⟩)
          · rintro ⟨j, hj, e⟩
            have : i = j := by
              have := Sum.inl.inj e
              omega
            rw [this]
            exact hj
          · exact fun hi => ⟨i, hi, rfl⟩
        have tail : (done ++ [(t, i)]).map (fun p => (strT lot p).d) = done.map (fun p => (strT lot p).d) ++ [(strT lot (t, i)).d] := by rw [List.map_append]; rfl
        have fin : ∀ h3, Ex [] h2 h3 → ∀ y, y = (strT lot (t, i)).d → h3[h1.length]? = some (.lst (done.map (fun p => (strT lot p).d))) ∧ (done.map (fun p => (strT lot p).d)).length < LINE ∧ ∃ done' todo', c.ts.zipIdx = done' ++ todo' ∧ todo.map (fun p => D.tup [.int (p.2 : Nat), p.1.d]) = todo'.map (fun p => D.tup [.int (p.2 : Nat), p.1.d]) ∧ done.map (fun p => (strT lot p).d) ++ [y] = done'.map (fun p => (strT lot p).d) ∧ Ex [] h1 (h3.set h1.length (.lst (done.map (fun p => (strT lot p).d) ++ [y]))) ∧ (h3.set h1.length (.lst (done.map (fun p => (strT lot p).d) ++ [y])))[h1.length]? = some (.lst (done.map (fun p => (strT lot p).d) ++ [y])) := by
          rintro h3 x3 y rfl
          exact ⟨x3.at0 g5, line_gt (by rw [List.length_map]; omega), done ++ [(t, i)], todo, by rw [g1]; simp, rfl, tail.symm, (g4.trans x3).set (Nat.le_refl _), set_at (x3.at0 g5)⟩
        simp only [rules, bindG, bindGs, wipeE, placed, Nat.reduceAdd, Nat.reduceSub, Nat.reduceLeDiff, Nat.reduceLT, reduceIte, Int.reduceSub, Int.reduceAdd, Int.reduceMul, hin, ex_some]
        by_cases z : i ∈ lot
        · rw [if_pos (decide_eq_true z)]
          refine p_struck_tie ?_
          exact fin h2 Ex.refl _ (by unfold strT; rw [if_pos z])
        · rw [if_neg (by rw [decide_eq_false z]; exact Bool.false_ne_true)]
          exact fin h2 Ex.refl _ (by unfold strT; rw [if_neg z])
      · rintro acc h2 ⟨done, todo, g1, g2, rfl, g4, g5⟩
        cases todo with
        | cons p todo => cases g2
        | nil =>
        rw [List.append_nil] at g1
        refine ⟨Ks.nil, hQ h2 g4 ?_⟩
        rw [g5, ← g1]
        show _ = some (MO.lst ((c.ts.zipIdx.map (strT lot)).map Tie.d))
        rw [List.map_map]
        rfl
    refine go _ (fun h2 x2 e2 => ?_) rfl
    simp only [em, ps_len, ex_some, rules, bindG, bindGs, wipeE, placed, Nat.reduceAdd, Nat.reduceSub, Nat.reduceLeDiff, Nat.reduceLT, reduceIte, Int.reduceSub, Int.reduceAdd, Int.reduceMul]
    refine o_tupL e2 ?_
    exact q h2 (f6.trans x2)
  · rw [show (kget ([] : List (Key × D)) k').isSome = false from rfl]
    exact (decide_eq_false (fun ⟨i, hi, _⟩ => nomatch hi)).symm
def bdT (t : Tie) : Bool := t.lo.isSome || t.hi.isSome
def Ch.btn (c : Ch) : List Nat := (c.ts.zipIdx.filter fun p => bdT p.1).map (·.2)
theorem p_bounded_ties (ok : c.Ok) (q : ∀ h' n, h.length ≤ n → Ex [] h h' → h'[n]? = some (.lst (nats c.btn)) → Q (.obj n) h') : wp (Gn cds w (k + 1) 29 [c.d]) h Q := by
  have lt := ok.lt
  rw [g29, b29]
  have ec : ∀ g : MH, idxD c.d (.int 2) g = some (.tup (c.ts.map Tie.d)) := fun g => at2
  simp only [rules, bindG, bindGs, wipeE, placed, Nat.reduceAdd, Nat.reduceSub, Nat.reduceLeDiff, Nat.reduceLT, reduceIte, Int.reduceSub, Int.reduceAdd, Int.reduceMul, ec, ex_some]
  have items : enumD (c.ts.map Tie.d) = c.ts.zipIdx.map fun p => D.tup [.int (p.2 : Nat), p.1.d] := by
    unfold enumD
    rw [List.zipIdx_map, List.map_map]
    rfl
  rw [items]
  refine wp_filf (fun d => match d with | .tup [_, .tup [_, _, _, lo, hi, _]] => !nonD lo || !nonD hi | _ => false) (fun d => match d with | .tup [x, _] => x | _ => .non) h Ks.nil (by rw [List.length_map, List.length_zipIdx]; omega) ?_ ?_
  · intro d hd h2 x2
    obtain ⟨⟨t, i⟩, ht, rfl⟩ := List.mem_map.mp hd
    refine ⟨_, rfl, ?_⟩
    simp only [rules, bindG, bindGs, wipeE, placed, Nat.reduceAdd, Nat.reduceSub, Nat.reduceLeDiff, Nat.reduceLT, reduceIte, Int.reduceSub, Int.reduceAdd, Int.reduceMul, tie3, tie4, isN_od, ex_some]
    cases e1 : t.lo with
    | some b =>
      simp only [Option.isNone, rules, bindG, bindGs, wipeE, placed, Nat.reduceAdd, Nat.reduceSub, Nat.reduceLeDiff, Nat.reduceLT, reduceIte, Int.reduceSub, Int.reduceAdd, Int.reduceMul]
      exact ⟨by unfold Tie.d; rw [e1]; rfl, Ex.refl, fun _ => Ex.refl⟩
    | none =>
      simp only [Option.isNone, rules, bindG, bindGs, wipeE, placed, Nat.reduceAdd, Nat.reduceSub, Nat.reduceLeDiff, Nat.reduceLT, reduceIte, Int.reduceSub, Int.reduceAdd, Int.reduceMul]
      refine ⟨?_, Ex.refl, fun _ => Ex.refl⟩
      unfold Tie.d
      rw [e1]
      dsimp only
      rw [show nonD (od none) = true from rfl, isN_od]
      rfl
  · intro h2 x2 e2
    refine q h2 _ (Nat.le_refl _) x2 ?_
    rw [e2]
    congr 2
    unfold Ch.btn nats
    rw [List.filter_map, List.map_map, List.map_map]
    have eb : ((fun d : D => (match d with | .tup [_, .tup [_, _, _, lo, hi, _]] => !nonD lo || !nonD hi | _ => false : Bool)) ∘ fun p : Tie × Nat => D.tup [.int (p.2 : Nat), p.1.d]) = fun p => bdT p.1 := by
      funext p
      show (!nonD (od p.1.lo) || !nonD (od p.1.hi)) = bdT p.1
      rw [isN_od, isN_od]
      unfold bdT
      cases p.1.lo <;> cases p.1.hi <;> rfl
    rw [eb]
    rfl
end K76

set_option maxHeartbeats 2000000
/-! LK: lots, the greatest within. -/
namespace K76
open Mi
open PySem (Str PyData)
variable {w k : Nat} {h : MH} {Q : D → MH → Prop} {c : Ch}
def tstL (lot : List Nat) (x : Nat) : Bool := lot.isEmpty || decide (lot.getLast?.getD 0 < x)
def extL (held lot : List Nat) : List (List Nat) := (held.filter (tstL lot)).map fun x => lot ++ [x]
def nextL (held : List Nat) (last : List (List Nat)) : List (List Nat) := last.flatMap (extL held)
def lotsF (held : List Nat) : Nat → List (List Nat) → List (List Nat) → List (List Nat)
  | 0, found, _ => found
  | k + 1, found, last => lotsF held k (found ++ nextL held last) (nextL held last)
def lots (held : List Nat) (most : Nat) : List (List Nat) := lotsF held most [[]] [[]]
theorem lotsF_ge {held : List Nat} : ∀ (k : Nat) (found last : List (List Nat)), found.length ≤ (lotsF held k found last).length
  | 0, _, _ => Nat.le_refl _
  | k + 1, found, last => by
    have := lotsF_ge (held := held) k (found ++ nextL held last) (nextL held last)
    rw [List.length_append] at this
    show found.length ≤ (lotsF held k (found ++ nextL held last) (nextL held last)).length
    omega
theorem at_neg1 {α : Type} {ls : List α} {d : α} : atI (ls ++ [d]) (-1) = some d := by
  unfold atI ixN
  rw [if_neg (by omega), List.length_append, List.length_singleton, if_pos (by omega)]
  show (ls ++ [d])[(-1 + ((ls.length + 1 : Nat) : Int)).toNat]? = some d
  rw [show (-1 + ((ls.length + 1 : Nat) : Int)).toNat = ls.length by omega, List.getElem?_concat_length]
theorem at_neg1n {ls : List Nat} {d : Nat} : atI (nats (ls ++ [d])) (-1) = some (.int (d : Nat)) := by
  unfold nats
  rw [List.map_append]
  exact at_neg1
theorem lotD_snoc {lot : List Nat} {x : Nat} : D.tup (nats lot ++ [.int (x : Nat)]) = lotD (lot ++ [x]) := by
  unfold lotD nats
  rw [List.map_append]
  rfl
def invLi (held : List Nat) (hn fn ln xn : Nat) (h0 : MH) (e1 e4 : Option D) (found last : List (List Nat)) (ds : List D) (env : Env) (h' : MH) : Prop := ∃ (done todo : List (List Nat)) (a6 : Option D), last = done ++ todo ∧ ds = todo.map lotD ∧
  env = [some (.obj hn), e1, some (.obj fn), some (.obj ln), e4, some (.obj xn), a6, none] ∧ h'[xn]? = some (.lst ((nextL held done).map lotD)) ∧ h'[fn]? = some (.lst (found.map lotD)) ∧ h'[ln]? = some (.lst (last.map lotD)) ∧ Ex [] h0 h'
def invLo (held : List Nat) (hn fn : Nat) (h0 : MH) (e1 : Option D) (F : List (List Nat)) (ds : List D) (env : Env) (h' : MH) : Prop := ∃ (found last : List (List Nat)) (ln : Nat) (a4 a5 a6 : Option D), lotsF held ds.length found last = F ∧ last.length ≤ F.length ∧
  env = [some (.obj hn), e1, some (.obj fn), some (.obj ln), a4, a5, a6, none] ∧ h'[fn]? = some (.lst (found.map lotD)) ∧ h'[ln]? = some (.lst (last.map lotD)) ∧ fn ≠ ln ∧ h0.length ≤ ln ∧ Ex [] h0 h'
theorem p_lots_up_to {hn most : Nat} {held : List Nat} (hh : h[hn]? = some (.lst (nats held))) (hlen : held.length ≤ 100000) (hm : most ≤ 1000) (hb : (lots held most).length ≤ 1000000) (hlot : ∀ lot ∈ lots held most, lot.length ≤ 1000)
    (q : ∀ h' n, h.length ≤ n → Ex [] h h' → h'[n]? = some (.lst ((lots held most).map lotD)) → Q (.obj n) h') : wp (Gn cds w (k + 1) 30 [.obj hn, .int (most : Nat)]) h Q := by
  have hnl : hn < h.length := (List.getElem?_eq_some_iff.mp hh).1
  rw [g30, w_run]
  refine ⟨rfl, ?_⟩
  rw [show b30 = CS.set _ _ :: CS.set _ _ :: CS.for _ _ (forB (b30.getD 2 .pass)) :: b30.drop 3 from rfl, s_cons]
  simp only [rules, bindG, bindGs, wipeE, placed, Nat.reduceAdd, Nat.reduceSub, Nat.reduceLeDiff, Nat.reduceLT, reduceIte, Int.reduceSub, Int.reduceAdd, Int.reduceMul]
  rw [w_rng1']
  simp only [rules, bindG, bindGs, wipeE, placed, Nat.reduceAdd, Nat.reduceSub, Nat.reduceLeDiff, Nat.reduceLT, reduceIte, Int.reduceSub, Int.reduceAdd, Int.reduceMul]
  refine ⟨_, rfl, w62 (by omega) (by omega), ?_⟩
  rw [Int.toNat_natCast]
  have gl1 : (h ++ [MO.lst [D.tup []]]).length = h.length + 1 := by rw [List.length_append]; rfl
  have E1 : (h ++ [MO.lst [D.tup []]] ++ [MO.lst [D.tup []]])[h.length]? = some (.lst [D.tup []]) := by
    rw [List.getElem?_append_left (by rw [gl1]; omega), List.getElem?_concat_length]
  have E2 : (h ++ [MO.lst [D.tup []]] ++ [MO.lst [D.tup []]])[h.length + 1]? = some (.lst [D.tup []]) := by rw [← gl1, List.getElem?_concat_length]
  have X1 : Ex [] h (h ++ [MO.lst [D.tup []]] ++ [MO.lst [D.tup []]]) := by rw [List.append_assoc]; exact Ex.app
  rw [gl1]
  generalize h ++ [MO.lst [D.tup []]] ++ [MO.lst [D.tup []]] = h1 at E1 E2 X1 ⊢
  have l0 : lotsF held most [[]] [[]] = lots held most := rfl
  have ge0 := lotsF_ge (held := held) most [[]] [[]]
  generalize hF : lots held most = F at hb hlot q l0
  rw [l0] at ge0
  -- lots that are found are among the last
  refine wp_for (Inv := fun ds env h' => invLo held hn h.length h (some (.int (most : Nat))) F ds env h' ∧ ∀ found last, lotsF held ds.length found last = F → (∀ l ∈ found, l ∈ F)) ?_ ?_ ⟨⟨[[]], [[]], h.length + 1, _, _, _, by rw [rngL_len]; exact l0, ge0, rfl, E1, E2, by omega, by omega, X1⟩, fun found last e l hl => ?_⟩
  · rintro d ds env h2 ⟨⟨found, last, ln, a4, a5, a6, f1, f2, rfl, f4, f5, f6, f7, f8⟩, fm⟩
    refine ⟨Ks.nil, _, rfl, ?_⟩
    have fm1 := fm found last f1
    rw [List.length_cons] at f1
    replace f1 : lotsF held ds.length (found ++ nextL held last) (nextL held last) = F := f1
    have lge := lotsF_ge (held := held) ds.length (found ++ nextL held last) (nextL held last)
    rw [f1, List.length_append] at lge
    have fm2 : ∀ {K : Nat} {found last : List (List Nat)}, ∀ l ∈ found, l ∈ lotsF held K found last := by
      intro K
      induction K with
      | zero => exact fun l hl => hl
      | succ K ih => exact fun l hl => ih l (List.mem_append_left _ hl)
    have nlot : ∀ l ∈ nextL held last, l.length ≤ 1000 := fun l hl => hlot l (by rw [← f1]; exact fm2 l (List.mem_append_right _ hl))
    rw [show forB (b30.getD 2 .pass) = CS.set _ _ :: CS.for _ _ (forB ((forB (b30.getD 2 .pass)).getD 1 .pass)) :: (forB (b30.getD 2 .pass)).drop 2 from rfl, s_cons]
    simp only [rules, bindG, bindGs, wipeE, placed, Nat.reduceAdd, Nat.reduceSub, Nat.reduceLeDiff, Nat.reduceLT, reduceIte, Int.reduceSub, Int.reduceAdd, Int.reduceMul]
    rw [wp_items_obj]
    refine ⟨_, lstAt_iff.mpr ((Ex.app (S := [])).at0 f5), ?_⟩
    dsimp only
    have h8l := f8.1
    have l5 : ln < h2.length := (List.getElem?_eq_some_iff.mp f5).1
    refine wp_for (Inv := invLi held hn h.length ln h2.length h (some (.int (most : Nat))) (some d) found last) ?_ ?_ ⟨[], last, _, rfl, rfl, rfl, List.getElem?_concat_length .., (Ex.app (S := [])).at0 f4, (Ex.app (S := [])).at0 f5, f8.trans Ex.app⟩
    · rintro d2 ds2 env2 h3 ⟨done, todo, a6, g1, g2, rfl, g4, g5, g6, g7⟩
      cases todo with
      | nil => cases g2
      | cons lot todo =>
      rw [List.map_cons, List.cons.injEq] at g2
      obtain ⟨rfl, rfl⟩ := g2
      refine ⟨Ks.one g6, _, rfl, ?_⟩
      rw [show forB ((forB (b30.getD 2 .pass)).getD 1 .pass) = [CS.exp _] from rfl]
      have en : nextL held (done ++ [lot]) = nextL held done ++ extL held lot := by unfold nextL; rw [List.flatMap_append]; simp
      have el : nextL held last = nextL held (done ++ [lot]) ++ nextL held todo := by
        rw [g1]
        unfold nextL
        rw [← List.flatMap_append]
        simp
      have ll := congrArg List.length el
      rw [List.length_append, en, List.length_append] at ll
      have xl : ∀ x ∈ held.filter (tstL lot), lot.length + 1 ≤ 1000 := fun x hx => by
        have := nlot (lot ++ [x]) (by rw [el, en]; exact List.mem_append_left _ (List.mem_append_right _ (List.mem_map.mpr ⟨x, hx, rfl⟩)))
        rw [List.length_append] at this
        exact this
      have hh3 := g7.at0 hh
      simp only [rules, bindG, bindGs, wipeE, placed, Nat.reduceAdd, Nat.reduceSub, Nat.reduceLeDiff, Nat.reduceLT, reduceIte, Int.reduceSub, Int.reduceAdd, Int.reduceMul, isLst_ok g4, ex_some]
      refine ⟨(), ?_⟩
      rw [wp_items_obj]
      refine ⟨_, lstAt_iff.mpr hh3, ?_⟩
      dsimp only
      refine wp_filf (fun d => match d with | .int i => tstL lot i.toNat | _ => false) (fun d => match d with | .int i => lotD (lot ++ [i.toNat]) | _ => .non) h3 (Ks.one hh3) (by rw [nats_len]; omega) ?_ ?_
      · intro d hd h4 x4
        obtain ⟨x, hx, rfl⟩ := List.mem_map.mp hd
        refine ⟨_, rfl, ?_⟩
        have elt : tstL lot x = true → ∀ h5 : MH, wp (evE (Gn cds w k) (.bin .add (.var 6) (.tup [.var 7])) [some (.obj hn), some (.int (most : Nat)), some (.obj h.length), some (.obj ln), some d, some (.obj h2.length), some (lotD lot), some (.int (x : Nat))]) h5 fun y h6 => y = lotD (lot ++ [x]) ∧ Ex [] h5 h6 := fun ht h5 => by
          unfold lotD
          simp only [rules, bindG, bindGs, wipeE, placed, Nat.reduceAdd, Nat.reduceSub, Nat.reduceLeDiff, Nat.reduceLT, reduceIte, Int.reduceSub, Int.reduceAdd, Int.reduceMul]
          rw [o_catT]
          refine ⟨line_ge (by have := xl x (List.mem_filter.mpr ⟨hx, ht⟩); rw [nats_len]; simp only [List.length_cons, List.length_nil]; omega), ?_, Ex.refl⟩
          rw [lotD_snoc]
          rfl
        rcases List.eq_nil_or_concat lot with rfl | ⟨l0, y, rfl⟩
        · unfold lotD
          simp only [nats, List.map_nil, List.isEmpty_nil, rules, bindG, bindGs, wipeE, placed, Nat.reduceAdd, Nat.reduceSub, Nat.reduceLeDiff, Nat.reduceLT, reduceIte, Int.reduceSub, Int.reduceAdd, Int.reduceMul]
          refine ⟨rfl, Ex.refl, fun _ => ?_⟩
          rw [o_catT]
          exact ⟨line_ge (by simp only [List.length_cons, List.length_nil]; omega), rfl, Ex.refl⟩
        · rw [List.concat_eq_append] at elt ⊢
          have ts : tstL (l0 ++ [y]) x = decide (y < x) := by
            unfold tstL
            rw [isEmpty_snoc, List.getLast?_concat]
            rfl
          have e1 : ∀ g : MH, idxD (lotD (l0 ++ [y])) (.int (-1)) g = some (.int (y : Nat)) := fun g => by
            show atI (nats (l0 ++ [y])) (-1) = _
            exact at_neg1n
          have ee : truD h4 (lotD (l0 ++ [y])) = some true := by
            show some (!(nats (l0 ++ [y])).isEmpty) = _
            unfold nats
            rw [List.map_append]
            simp
          rw [show ∀ (a b : CE) (env : Env), wp (evOT (Gn cds w k) (some (.or (.not (.tru a)) (.cmp .gt b (.idx a (.neg (.cst (.int 1))))))) env) h4 = wp (evOT (Gn cds w k) (some (.or (.not (.tru a)) (.cmp .gt b (.idx a (.neg (.cst (.int 1))))))) env) h4 from fun _ _ _ => rfl]
          simp only [rules, bindG, bindGs, wipeE, placed, Nat.reduceAdd, Nat.reduceSub, Nat.reduceLeDiff, Nat.reduceLT, reduceIte, Int.reduceSub, Int.reduceAdd, Int.reduceMul, ee, e1, ex_some]
          refine ⟨?_, Ex.refl, fun ht => ?_⟩
          · rw [Int.toNat_natCast, ts]
            exact decide_eq_decide.mpr (by omega)
          · have := elt (by rw [ts]; exact decide_eq_true (by have := of_decide_eq_true ht; omega)) h4
            simp only [rules, bindG, bindGs, wipeE, placed, Nat.reduceAdd, Nat.reduceSub, Nat.reduceLeDiff, Nat.reduceLT, reduceIte, Int.reduceSub, Int.reduceAdd, Int.reduceMul] at this
            rw [Int.toNat_natCast]
            exact this
      · intro h4 x4 e4
        have ef : (List.map (fun d : D => (match d with | .int i => lotD (lot ++ [i.toNat]) | _ => .non : D)) ((nats held).filter fun d : D => (match d with | .int i => tstL lot i.toNat | _ => false : Bool))) = (extL held lot).map lotD := by
          unfold nats extL
          rw [List.filter_map, List.map_map, List.map_map]
          rfl
        rw [ef] at e4
        have g44 := x4.at0 g4
        refine m_extend g44 e4 (line_ge (by rw [List.length_map, List.length_map]; omega)) fun h5 u5 g5' => ?_
        have x5 := u5.ex (g7.trans x4) (.inl h8l)
        exact ⟨done ++ [lot], todo, _, by rw [g1]; simp, rfl, rfl, by rw [g5', en, List.map_append], u5.get (x4.at0 g5) (by have := f8.1; have := (List.getElem?_eq_some_iff.mp f4).1; omega), u5.get (x4.at0 g6) (by omega), x5⟩
    · rintro env2 h3 ⟨done, todo, a6, g1, g2, rfl, g4, g5, g6, g7⟩
      cases todo with
      | cons lot todo => cases g2
      | nil =>
      rw [List.append_nil] at g1
      subst g1
      refine ⟨Ks.one g6, ?_⟩
      rw [show (forB (b30.getD 2 .pass)).drop 2 = [CS.exp _, CS.set _ _] from rfl]
      have fl : h.length < h2.length := (List.getElem?_eq_some_iff.mp f4).1
      simp only [rules, bindG, bindGs, wipeE, placed, Nat.reduceAdd, Nat.reduceSub, Nat.reduceLeDiff, Nat.reduceLT, reduceIte, Int.reduceSub, Int.reduceAdd, Int.reduceMul, isLst_ok g5, ex_some]
      refine ⟨(), m_extend g5 g4 (line_ge (by rw [List.length_map, List.length_map]; omega)) fun h5 u5 g5' => ?_⟩
      refine ⟨⟨found ++ nextL held last, nextL held last, h2.length, _, _, _, f1, by omega, rfl, by rw [g5', List.map_append], u5.get g4 (by omega), by omega, h8l, u5.ex g7 (.inl (Nat.le_refl _))⟩, fun found' last' e l hl => ?_⟩
      rw [← e]
      exact fm2 l hl
  · rintro env h2 ⟨⟨found, last, ln, a4, a5, a6, f1, f2, rfl, f4, f5, f6, f7, f8⟩, fm⟩
    refine ⟨Ks.nil, ?_⟩
    rw [show b30.drop 3 = [CS.ret _] from rfl]
    simp only [rules, bindG, bindGs, wipeE, placed, Nat.reduceAdd, Nat.reduceSub, Nat.reduceLeDiff, Nat.reduceLT, reduceIte, Int.reduceSub, Int.reduceAdd, Int.reduceMul]
    replace f1 : found = F := f1
    rw [f1] at f4
    exact q h2 _ (Nat.le_refl _) f8 f4
  · rw [rngL_len] at e
    have fm2 : ∀ {K : Nat} {found last : List (List Nat)}, ∀ l ∈ found, l ∈ lotsF held K found last := by
      intro K
      induction K with
      | zero => exact fun l hl => hl
      | succ K ih => exact fun l hl => ih l (List.mem_append_left _ hl)
    rw [← e]
    exact fm2 l hl
end K76

set_option maxHeartbeats 2000000
/-! LL: the greatest within. -/
namespace K76
open Mi
open PySem (Str PyData)
variable {w k : Nat} {h : MH} {Q : D → MH → Prop} {c : Ch}
open Classical in
noncomputable def dV (L : List SP.Lg) (u v : Nat) : Option Int := if hc : ∃ o, SP.Dist L u v o then hc.choose else none
theorem dV_spec {L : List SP.Lg} {u v : Nat} {o : Option Int} (hd : SP.Dist L u v o) : o = dV L u v := by
  have hc : ∃ o, SP.Dist L u v o := ⟨o, hd⟩
  unfold dV
  rw [dif_pos hc]
  exact hd.uniq hc.choose_spec
theorem dV_dist (ok : c.Ok) (hf : c.Free) (u v : Nat) : SP.Dist (gs c.legs) u v (dV (gs c.legs) u v) := by
  obtain ⟨dd, hdd⟩ := (free_dist ok hf).2 u
  rw [← dV_spec (hdd v)]
  exact hdd v
open Classical in
/-- barred; else endless, or the greatest difference -/
noncomputable def resF (c : Ch) (one oth : Str) (lot : List Nat) : Option (Option Int) := if (c.strike lot).Free then some (dV (gs (c.strike lot).legs) (c.ix one) (c.ix oth)) else none
theorem resF_none {one oth : Str} {lot : List Nat} (hn : ¬ (c.strike lot).Free) : resF c one oth lot = none := if_neg hn
theorem resF_some {one oth : Str} {lot : List Nat} (hn : (c.strike lot).Free) : resF c one oth lot = some (dV (gs (c.strike lot).legs) (c.ix one) (c.ix oth)) := if_pos hn
inductive GW where
  | endless | none | most (x : Int) (lot : List Nat)
def gwF (r : List Nat → Option (Option Int)) : List (List Nat) → Option (Int × List Nat) → GW
  | [], .none => .none
  | [], some (x, l) => .most x l
  | lot :: rest, b => match r lot with
    | .none => gwF r rest b
    | some .none => .endless
    | some (some x) => gwF r rest (match b with
      | .none => some (x, lot)
      | some (y, l) => if y < x then some (x, lot) else some (y, l))
def bestD (c : Ch) : Option (Int × List Nat) → D
  | .none => .non
  | some (x, l) => .tup [.int x, (c.strike l).d]
def invG (c : Ch) (one oth : Str) (many : Nat) (ln : Nat) (h0 : MH) (lts : List (List Nat)) (R : GW) (ds : List D) (env : Env) (h' : MH) : Prop := ∃ (todo : List (List Nat)) (b : Option (Int × List Nat)) (a5 a6 a7 : Option D), ds = todo.map lotD ∧ (∀ l ∈ todo, l ∈ lts) ∧ gwF (resF c one oth) todo b = R ∧
  (∀ x l, b = some (x, l) → l ∈ lts ∧ (c.strike l).Free ∧ SP.Dist (gs (c.strike l).legs) (c.ix one) (c.ix oth) (some x)) ∧
  env = [some c.d, some (.str one), some (.str oth), some (.int (many : Nat)), some (bestD c b), a5, a6, a7] ∧ h'[ln]? = some (.lst (lts.map lotD)) ∧ Ex [] h0 h'
theorem p_greatest_within (hw : 4000 ≤ w) (ok : c.Ok) {one oth : Str} (h1 : one ∈ c.names) (h2 : oth ∈ c.names) (hne : one ≠ oth) {many : Nat} (hm : many ≤ 1000) (hb : (lots c.btn many).length ≤ 1000000) (hlot : ∀ lot ∈ lots c.btn many, lot.length ≤ 1000)
    (qe : ∀ h', gwF (resF c one oth) (lots c.btn many) .none = .endless → Ex [] h h' → Q (.tup [.str "endless"]) h')
    (qn : ∀ h', gwF (resF c one oth) (lots c.btn many) .none = .none → Ex [] h h' → Q (.tup [.str "none"]) h')
    (qm : ∀ h' x l f, gwF (resF c one oth) (lots c.btn many) .none = .most x l → l ∈ lots c.btn many → Told (c.strike l) f → f (c.ix oth) - f (c.ix one) = x → Ex [] h h' → Q (.tup [.str "greatest", .int x, .tup (rowD c.ps.length (intD f))]) h') :
    wp (Gn cds w (k + 8) 31 [c.d, .str one, .str oth, .int (many : Nat)]) h Q := by
  rw [g31, w_run]
  refine ⟨rfl, ?_⟩
  rw [show b31 = CS.exp _ :: CS.set _ _ :: CS.for _ _ (forB (b31.getD 2 .pass)) :: b31.drop 3 from rfl, s_cons]
  simp only [rules, bindG, bindGs, wipeE, placed, Nat.reduceAdd, Nat.reduceSub, Nat.reduceLeDiff, Nat.reduceLT, reduceIte, Int.reduceSub, Int.reduceAdd, Int.reduceMul]
  refine p_unlike_places (ok.str _ h1) (ok.str _ h2) hne ?_
  try simp only [rules, bindG, bindGs, wipeE, placed, Nat.reduceAdd, Nat.reduceSub, Nat.reduceLeDiff, Nat.reduceLT, reduceIte, Int.reduceSub, Int.reduceAdd, Int.reduceMul]
  refine p_bounded_ties ok fun h3 n3 l3 x3 e3 => ?_
  try simp only [rules, bindG, bindGs, wipeE, placed, Nat.reduceAdd, Nat.reduceSub, Nat.reduceLeDiff, Nat.reduceLT, reduceIte, Int.reduceSub, Int.reduceAdd, Int.reduceMul]
  have btl : c.btn.length ≤ 100000 := by
    unfold Ch.btn
    rw [List.length_map]
    have := List.length_filter_le (fun p : Tie × Nat => bdT p.1) c.ts.zipIdx
    rw [List.length_zipIdx] at this
    have := ok.lt
    omega
  refine p_lots_up_to e3 btl hm hb hlot fun h4 n4 l4 x4 e4 => ?_
  rw [wp_items_obj]
  refine ⟨_, lstAt_iff.mpr e4, ?_⟩
  dsimp only
  generalize hL : lots c.btn many = L at *
  generalize hR : gwF (resF c one oth) L .none = R at qe qn qm
  refine wp_for (Inv := invG c one oth many n4 h L R) ?_ ?_ ⟨L, .none, _, _, _, rfl, fun l hl => hl, hR, fun x l e => (nomatch e), rfl, e4, x3.trans x4⟩
  · rintro d ds env h5 ⟨todo, b, a5, a6, a7, f1, f2, f3, f4, rfl, f6, f7⟩
    cases todo with
    | nil => cases f1
    | cons lot todo =>
    rw [List.map_cons, List.cons.injEq] at f1
    obtain ⟨rfl, rfl⟩ := f1
    have hl := f2 lot (List.mem_cons_self ..)
    have ok' := ok.strike lot
    refine ⟨Ks.one f6, _, rfl, ?_⟩
    rw [show forB (b31.getD 2 .pass) = CS.set _ _ :: [CS.ifs _ _ _] from rfl, s_cons]
    simp only [rules, bindG, bindGs, wipeE, placed, Nat.reduceAdd, Nat.reduceSub, Nat.reduceLeDiff, Nat.reduceLT, reduceIte, Int.reduceSub, Int.reduceAdd, Int.reduceMul]
    refine p_struck_chart ok (by have := hlot lot hl; omega) fun h6 x6 => ?_
    try simp only [rules, bindG, bindGs, wipeE, placed, Nat.reduceAdd, Nat.reduceSub, Nat.reduceLeDiff, Nat.reduceLT, reduceIte, Int.reduceSub, Int.reduceAdd, Int.reduceMul]
    have n1 : one ∈ (c.strike lot).names := h1
    have n2 : oth ∈ (c.strike lot).names := h2
    unfold gwF at f3
    refine p_barring_ring (by omega) ok' (fun h7 hfr x7 => ?_) fun h7 s f m F _ _ _ x7 => ?_
    · rw [resF_some hfr] at f3
      simp only [nonD_non, rules, bindG, bindGs, wipeE, placed, Nat.reduceAdd, Nat.reduceSub, Nat.reduceLeDiff, Nat.reduceLT, reduceIte, Int.reduceSub, Int.reduceAdd, Int.reduceMul]
      refine p_greatest (by omega) ok' hfr n1 n2 hne fun h8 o hd x8 => ?_
      have ho : o = dV (gs (c.strike lot).legs) (c.ix one) (c.ix oth) := dV_spec hd
      rw [← ho] at f3
      have x58 := f7.trans ((x6.trans x7).trans x8)
      cases o with
      | none =>
        simp only [od, nonD_non, rules, bindG, bindGs, wipeE, placed, Nat.reduceAdd, Nat.reduceSub, Nat.reduceLeDiff, Nat.reduceLT, reduceIte, Int.reduceSub, Int.reduceAdd, Int.reduceMul]
        exact qe h8 f3.symm x58
      | some x =>
        simp only [od, nonD_int, rules, bindG, bindGs, wipeE, placed, Nat.reduceAdd, Nat.reduceSub, Nat.reduceLeDiff, Nat.reduceLT, reduceIte, Int.reduceSub, Int.reduceAdd, Int.reduceMul]
        dsimp only at f3
        have e8 := x8.at0 (x7.at0 (x6.at0 f6))
        cases b with
        | none =>
          simp only [bestD, nonD_non, rules, bindG, bindGs, wipeE, placed, Nat.reduceAdd, Nat.reduceSub, Nat.reduceLeDiff, Nat.reduceLT, reduceIte, Int.reduceSub, Int.reduceAdd, Int.reduceMul]
          refine ⟨todo, some (x, lot), _, _, _, rfl, fun l hl => f2 l (List.mem_cons_of_mem _ hl), f3, fun x' l' e => by cases e; exact ⟨hl, hfr, hd⟩, rfl, e8, x58⟩
        | some p =>
          obtain ⟨y, l⟩ := p
          simp only [bestD, nonD_tup, rules, bindG, bindGs, wipeE, placed, Nat.reduceAdd, Nat.reduceSub, Nat.reduceLeDiff, Nat.reduceLT, reduceIte, Int.reduceSub, Int.reduceAdd, Int.reduceMul]
          dsimp only at f3
          by_cases z : y < x
          · rw [if_pos z] at f3
            simp only [decide_eq_true z, rules, bindG, bindGs, wipeE, placed, Nat.reduceAdd, Nat.reduceSub, Nat.reduceLeDiff, Nat.reduceLT, reduceIte, Int.reduceSub, Int.reduceAdd, Int.reduceMul]
            exact ⟨todo, some (x, lot), _, _, _, rfl, fun l hl => f2 l (List.mem_cons_of_mem _ hl), f3, fun x' l' e => by cases e; exact ⟨hl, hfr, hd⟩, rfl, e8, x58⟩
          · rw [if_neg z] at f3
            simp only [decide_eq_false z, rules, bindG, bindGs, wipeE, placed, Nat.reduceAdd, Nat.reduceSub, Nat.reduceLeDiff, Nat.reduceLT, reduceIte, Int.reduceSub, Int.reduceAdd, Int.reduceMul]
            exact ⟨todo, some (y, l), _, _, _, rfl, fun l hl => f2 l (List.mem_cons_of_mem _ hl), f3, f4, rfl, e8, x58⟩
    · have hfr : ¬ (c.strike lot).Free := fun z => z F.neg
      rw [resF_none hfr] at f3
      dsimp only at f3
      simp only [nonD_tup, rules, bindG, bindGs, wipeE, placed, Nat.reduceAdd, Nat.reduceSub, Nat.reduceLeDiff, Nat.reduceLT, reduceIte, Int.reduceSub, Int.reduceAdd, Int.reduceMul]
      exact ⟨todo, b, _, _, _, rfl, fun l hl => f2 l (List.mem_cons_of_mem _ hl), f3, f4, rfl, x7.at0 (x6.at0 f6), f7.trans (x6.trans x7)⟩
  · rintro env h5 ⟨todo, b, a5, a6, a7, f1, f2, f3, f4, rfl, f6, f7⟩
    cases todo with
    | cons lot todo => cases f1
    | nil =>
    refine ⟨Ks.one f6, ?_⟩
    rw [show b31.drop 3 = CS.ifs _ _ _ :: [CS.ret _] from rfl]
    cases b with
    | none =>
      simp only [bestD, nonD_non, rules, bindG, bindGs, wipeE, placed, Nat.reduceAdd, Nat.reduceSub, Nat.reduceLeDiff, Nat.reduceLT, reduceIte, Int.reduceSub, Int.reduceAdd, Int.reduceMul]
      exact qn h5 f3.symm f7
    | some p =>
      obtain ⟨x, l⟩ := p
      obtain ⟨q1, q2, q3⟩ := f4 x l rfl
      simp only [bestD, nonD_tup, rules, bindG, bindGs, wipeE, placed, Nat.reduceAdd, Nat.reduceSub, Nat.reduceLeDiff, Nat.reduceLT, reduceIte, Int.reduceSub, Int.reduceAdd, Int.reduceMul]
      refine p_land_with hw (ok.strike l) q2 (show one ∈ (c.strike l).names from h1) (show oth ∈ (c.strike l).names from h2) hne q3 fun h6 f t1 t2 x6 => ?_
      exact qm h6 x l f f3.symm q1 t1 t2 (f7.trans x6)
end K76

set_option maxHeartbeats 2000000
/-! LM: ties that a land breaks. -/
namespace K76
open Mi
open PySem (Str PyData)
variable {w k : Nat} {h : MH} {Q : D → MH → Prop} {c : Ch}
def dfT (c : Ch) (f : Nat → Int) (t : Tie) : Int := f (c.ix t.oth) - f (c.ix t.one)
def unfitN (c : Ch) (f : Nat → Int) : List Nat := (c.ts.zipIdx.filter fun p => !keepsB p.1 (dfT c f p.1)).map (·.2)
theorem p_unfit_ties (ok : c.Ok) {f : Nat → Int} (q : ∀ h', Ex [] h h' → Q (lotD (unfitN c f)) h') : wp (Gn cds w (k + 4) 20 [c.d, .tup (rowD c.ps.length (intD f))]) h Q := by
  have lt := ok.lt
  have er : rowD c.ps.length (intD f) = ((List.range c.ps.length).map f).map D.int := by rw [List.map_map]; rfl
  rw [er, g20, b20]
  simp only [rules, bindG, bindGs, wipeE, placed, Nat.reduceAdd, Nat.reduceSub, Nat.reduceLeDiff, Nat.reduceLT, reduceIte, Int.reduceSub, Int.reduceAdd, Int.reduceMul]
  refine p_differences_of ok (by rw [List.length_map, List.length_range]) fun h1 n1 x1 e1 => ?_
  have ed : ∀ t ∈ c.ts, dif c ((List.range c.ps.length).map f) t = dfT c f t := fun t ht => by
    have en := ok.ends t ht
    unfold dif dfT
    rw [List.getElem?_map, List.getElem?_map, List.getElem?_range (Ch.Ok.ix_lt en.1), List.getElem?_range (Ch.Ok.ix_lt en.2)]
    rfl
  have ec : ∀ g : MH, idxD c.d (.int 2) g = some (.tup (c.ts.map Tie.d)) := fun g => at2
  simp only [rules, bindG, bindGs, wipeE, placed, Nat.reduceAdd, Nat.reduceSub, Nat.reduceLeDiff, Nat.reduceLT, reduceIte, Int.reduceSub, Int.reduceAdd, Int.reduceMul, ec, ex_some]
  have items : enumD (c.ts.map Tie.d) = c.ts.zipIdx.map fun p => D.tup [.int (p.2 : Nat), p.1.d] := by
    unfold enumD
    rw [List.zipIdx_map, List.map_map]
    rfl
  rw [items]
  refine wp_filf (fun d => match d with | .tup [.int i, _] => (match c.ts[i.toNat]? with | some t => !keepsB t (dfT c f t) | none => false) | _ => false) (fun d => match d with | .tup [x, _] => x | _ => .non) h1 Ks.nil (by rw [List.length_map, List.length_zipIdx]; omega) ?_ ?_
  · intro d hd h2 x2
    obtain ⟨⟨t, i⟩, ht, rfl⟩ := List.mem_map.mp hd
    have ht2 := List.mk_mem_zipIdx_iff_getElem?.mp ht
    refine ⟨_, rfl, ?_⟩
    have e3 : idxD (.obj n1) (.int (i : Nat)) h2 = some (.int (dfT c f t)) := by
      rw [ix_lst (x2.at0 e1), at_nat' (by rw [List.length_map]; exact (List.getElem?_eq_some_iff.mp ht2).1), List.getElem?_map, ht2]
      show some (D.int (dif c _ t)) = _
      rw [ed t (List.mem_of_getElem? ht2)]
    simp only [rules, bindG, bindGs, wipeE, placed, Nat.reduceAdd, Nat.reduceSub, Nat.reduceLeDiff, Nat.reduceLT, reduceIte, Int.reduceSub, Int.reduceAdd, Int.reduceMul, e3]
    refine p_keeps ?_
    simp only [rules, bindG, bindGs, wipeE, placed, Nat.reduceAdd, Nat.reduceSub, Nat.reduceLeDiff, Nat.reduceLT, reduceIte, Int.reduceSub, Int.reduceAdd, Int.reduceMul]
    rw [show ((i : Nat) : Int).toNat = i from rfl, ht2]
    exact ⟨rfl, Ex.refl, fun _ => Ex.refl⟩
  · intro h2 x2 e2
    refine o_tupL e2 ?_
    have ef : List.map (fun d : D => (match d with | .tup [x, _] => x | _ => .non : D)) (List.filter (fun d : D => (match d with | .tup [.int i, _] => (match c.ts[i.toNat]? with | some t => !keepsB t (dfT c f t) | none => false) | _ => false : Bool)) (c.ts.zipIdx.map fun p => D.tup [.int (p.2 : Nat), p.1.d])) = nats (unfitN c f) := by
      unfold nats unfitN
      rw [List.filter_map, List.map_map, List.map_map]
      have e9 : c.ts.zipIdx.filter ((fun d : D => (match d with | .tup [.int i, _] => (match c.ts[i.toNat]? with | some t => !keepsB t (dfT c f t) | none => false) | _ => false : Bool)) ∘ fun p : Tie × Nat => D.tup [.int (p.2 : Nat), p.1.d]) = c.ts.zipIdx.filter fun p => !keepsB p.1 (dfT c f p.1) := by
        refine List.filter_congr fun p hp => ?_
        obtain ⟨t, i⟩ := p
        have ht2 := List.mk_mem_zipIdx_iff_getElem?.mp hp
        show (match c.ts[((i : Nat) : Int).toNat]? with | some t => !keepsB t (dfT c f t) | none => false) = _
        rw [show ((i : Nat) : Int).toNat = i from rfl, ht2]
      rw [e9]
      rfl
    rw [ef]
    exact q h2 (x1.trans x2)
theorem p_is_within (ok : c.Ok) {f : Nat → Int} {many : Int} (q : ∀ h', Ex [] h h' → Q (.bl (decide (((unfitN c f).length : Int) ≤ many))) h') : wp (Gn cds w (k + 5) 28 [c.d, .tup (rowD c.ps.length (intD f)), .int many]) h Q := by
  rw [g28, b28]
  simp only [rules, bindG, bindGs, wipeE, placed, Nat.reduceAdd, Nat.reduceSub, Nat.reduceLeDiff, Nat.reduceLT, reduceIte, Int.reduceSub, Int.reduceAdd, Int.reduceMul]
  refine p_unfit_ties ok fun h1 x1 => ?_
  unfold lotD
  simp only [rules, bindG, bindGs, wipeE, placed, Nat.reduceAdd, Nat.reduceSub, Nat.reduceLeDiff, Nat.reduceLT, reduceIte, Int.reduceSub, Int.reduceAdd, Int.reduceMul, nats_len]
  exact q h1 x1
end K76

set_option maxHeartbeats 2000000
/-! MA: the pool. -/
namespace K76
open Mi
open PySem (Str PyData)
variable {w k : Nat} {h : MH} {Q : D → MH → Prop} {c : Ch}
structure Po where
  p : Nat
  a : Nat
def Pool (f : Po) (h : MH) : Prop := f.p ≠ f.a ∧ ∃ (i : Nat) (st : Int) (xs : List Int), h[f.p]? = some (.lst [.obj f.a, .int (i : Nat), .int st]) ∧ h[f.a]? = some (.lst (xs.map .int))
theorem Pool.lt {f : Po} (p : Pool f h) : f.p < h.length ∧ f.a < h.length := by
  obtain ⟨_, i, st, xs, e1, e2⟩ := p
  exact ⟨(List.getElem?_eq_some_iff.mp e1).1, (List.getElem?_eq_some_iff.mp e2).1⟩
theorem Pool.ex {f : Po} {h' : MH} (p : Pool f h) (x : Ex [] h h') : Pool f h' := by
  obtain ⟨n, i, st, xs, e1, e2⟩ := p
  exact ⟨n, i, st, xs, x.at0 e1, x.at0 e2⟩
theorem Pool.app {f : Po} {t : MH} (p : Pool f h) : Pool f (h ++ t) := p.ex Ex.app
theorem Pool.upd {f : Po} {n : Nat} {h0 h' : MH} (p : Pool f h) (f0 : Pool f h0) (u : Upd n h h') (hn : h0.length ≤ n) : Pool f h' := by
  have l := f0.lt
  obtain ⟨ne, i, st, xs, e1, e2⟩ := p
  exact ⟨ne, i, st, xs, u.get e1 (by omega), u.get e2 (by omega)⟩
theorem o_pow {i j : Int} (h0 : 0 ≤ j) (h1 : j ≤ 1000) (h2 : i.natAbs ≤ 1000000) (q : Q (.int (i ^ j.toNat)) h) : wp (binD .pow (.int i) (.int j)) h Q := by
  unfold binD
  dsimp only
  rw [if_pos]
  · exact wp_ret.mpr q
  · simp only [Bool.and_eq_true, decide_eq_true_eq]
    have : (2 : Nat) ^ 64 = 18446744073709551616 := by decide
    omega
theorem sm_r {i j : Int} (h0 : -1000000000000 ≤ j) (h1 : j ≤ 1000000000000) : (small64 i || small64 j) = true := by
  rw [Bool.or_eq_true]
  refine .inr ?_
  unfold small64
  rw [Bool.and_eq_true, decide_eq_true_eq, decide_eq_true_eq]
  exact ⟨by omega, by omega⟩
theorem sm_l {i j : Int} (h0 : -1000000000000 ≤ i) (h1 : i ≤ 1000000000000) : (small64 i || small64 j) = true := by
  rw [Bool.or_eq_true]
  refine .inl ?_
  unfold small64
  rw [Bool.and_eq_true, decide_eq_true_eq, decide_eq_true_eq]
  exact ⟨by omega, by omega⟩
theorem p_take {f : Po} {many : Int} (pf : Pool f h) (hm : 0 < many) (q : ∀ h' r, Pool f h' → Ex [f.p] h h' → 0 ≤ r → r < many → Q (.int r) h') : wp (Gn cds w (k + 1) 33 [.obj f.p, .int many]) h Q := by
  obtain ⟨ne, i, st, xs, e1, e2⟩ := pf
  rw [g33, w_run]
  refine ⟨rfl, ?_⟩
  rw [show b33 = CS.ifs _ (CS.put _ _ _ :: [CS.ret _]) _ :: b33.drop 1 from rfl, s_cons]
  simp only [rules, bindG, bindGs, wipeE, placed, Nat.reduceAdd, Nat.reduceSub, Nat.reduceLeDiff, Nat.reduceLT, reduceIte, Int.reduceSub, Int.reduceAdd, Int.reduceMul, ix_lst e1, ex_some]
  refine o_lenL e2 ?_
  simp only [rules, bindG, bindGs, wipeE, placed, Nat.reduceAdd, Nat.reduceSub, Nat.reduceLeDiff, Nat.reduceLT, reduceIte, Int.reduceSub, Int.reduceAdd, Int.reduceMul, List.length_map]
  by_cases z : i < xs.length
  · rw [decide_eq_true (show ((i : Nat) : Int) < (xs.length : Nat) by omega)]
    simp only [rules, bindG, bindGs, wipeE, placed, Nat.reduceAdd, Nat.reduceSub, Nat.reduceLeDiff, Nat.reduceLT, reduceIte, Int.reduceSub, Int.reduceAdd, Int.reduceMul, ix_lst e1, ex_some]
    refine wp_put1 e1 (j := 1) (by rfl) fun h1 u1 g1 => ?_
    have g1' : h1[f.p]? = some (.lst [.obj f.a, .int ((i : Nat) + 1 : Int), .int st]) := g1
    have e2' := u1.get e2 ne.symm
    have hi : (xs.map D.int)[i]? = some (.int xs[i]) := by rw [List.getElem?_map, List.getElem?_eq_getElem z]; rfl
    have ea : atI (xs.map D.int) ((i : Nat) : Int) = some (.int xs[i]) := by rw [at_nat' (by rw [List.length_map]; exact z), hi]
    simp only [rules, bindG, bindGs, wipeE, placed, Nat.reduceAdd, Nat.reduceSub, Nat.reduceLeDiff, Nat.reduceLT, reduceIte, Int.reduceSub, Int.reduceAdd, Int.reduceMul, ix_lst g1', ix_lst e2', ex_some, Int.add_sub_cancel, ea]
    refine o_mod.mpr ⟨hm, ?_⟩
    try simp only [rules, bindG, bindGs, wipeE, placed, Nat.reduceAdd, Nat.reduceSub, Nat.reduceLeDiff, Nat.reduceLT, reduceIte, Int.reduceSub, Int.reduceAdd, Int.reduceMul]
    refine q h1 _ ⟨ne, i + 1, st, xs, g1', e2'⟩ (u1.ex Ex.refl (.inr (by simp))) (Int.emod_nonneg _ (by omega)) (Int.emod_lt_of_pos _ hm)
  · rw [decide_eq_false (show ¬ ((i : Nat) : Int) < (xs.length : Nat) by omega)]
    simp only [rules, bindG, bindGs, wipeE, placed, Nat.reduceAdd, Nat.reduceSub, Nat.reduceLeDiff, Nat.reduceLT, reduceIte, Int.reduceSub, Int.reduceAdd, Int.reduceMul]
    rw [show b33.drop 1 = CS.put _ _ _ :: [CS.ret _] from rfl]
    simp only [rules, bindG, bindGs, wipeE, placed, Nat.reduceAdd, Nat.reduceSub, Nat.reduceLeDiff, Nat.reduceLT, reduceIte, Int.reduceSub, Int.reduceAdd, Int.reduceMul, ix_lst e1, ex_some]
    refine o_mul.mpr ⟨sm_r (by decide) (by decide), ?_⟩
    simp only [rules, bindG, bindGs, wipeE, placed, Nat.reduceAdd, Nat.reduceSub, Nat.reduceLeDiff, Nat.reduceLT, reduceIte, Int.reduceSub, Int.reduceAdd, Int.reduceMul]
    refine o_mod.mpr ⟨by decide, ?_⟩
    refine wp_put1 e1 (j := 2) (by rfl) fun h1 u1 g1 => ?_
    have g1' : h1[f.p]? = some (.lst [.obj f.a, .int (i : Nat), .int ((st * 40692 + 23) % 2147483647)]) := g1
    simp only [rules, bindG, bindGs, wipeE, placed, Nat.reduceAdd, Nat.reduceSub, Nat.reduceLeDiff, Nat.reduceLT, reduceIte, Int.reduceSub, Int.reduceAdd, Int.reduceMul, ix_lst g1', ex_some]
    refine o_fdiv.mpr ⟨by decide, ?_⟩
    refine o_mod.mpr ⟨hm, ?_⟩
    exact q h1 _ ⟨ne, i, _, xs, g1', u1.get e2 ne.symm⟩ (u1.ex Ex.refl (.inr (by simp))) (Int.emod_nonneg _ (by omega)) (Int.emod_lt_of_pos _ hm)
/-! ### the pool made -/
def invPp (s : D) (h0 : MH) (fn : Nat) (N : Nat) (ds : List D) (env : Env) (h' : MH) : Prop := ∃ (xs cells : List Int) (st : Int) (a3 a4 a5 : Option D), ds = cells.map .int ∧ xs.length + 60 * ds.length ≤ N ∧
  env = [some s, some (.obj fn), some (.int st), a3, a4, a5] ∧ h'[fn]? = some (.lst (xs.map .int)) ∧ h0.length ≤ fn ∧ Ex [] h0 h'
def invPq (s : D) (h0 : MH) (fn : Nat) (N : Nat) (st : Int) (e3 : Option D) (ds : List D) (env : Env) (h' : MH) : Prop := ∃ (xs : List Int) (v : Int) (a5 : Option D), xs.length + ds.length + N ≤ 4000 ∧
  env = [some s, some (.obj fn), some (.int st), e3, some (.int v), a5] ∧ h'[fn]? = some (.lst (xs.map .int)) ∧ h0.length ≤ fn ∧ Ex [] h0 h'
theorem p_pool {ns : List Int} (q : ∀ h' f, Pool f h' → Ex [] h h' → h.length ≤ f.p → h.length ≤ f.a → Q (.obj f.p) h') : wp (Gn cds w (k + 1) 32 [.fl (ns.map .int)]) h Q := by
  rw [g32, w_run]
  refine ⟨rfl, ?_⟩
  rw [show b32 = CS.set _ _ :: CS.set _ _ :: CS.for _ _ (forB (b32.getD 2 .pass)) :: b32.drop 3 from rfl, s_cons]
  simp only [rules, bindG, bindGs, wipeE, placed, Nat.reduceAdd, Nat.reduceSub, Nat.reduceLeDiff, Nat.reduceLT, reduceIte, Int.reduceSub, Int.reduceAdd, Int.reduceMul]
  have hsl : slcD (.fl (ns.map D.int)) none (some 63) = M.new (.lst (cut (ns.map D.int) none (some 63))) := rfl
  rw [hsl, wp_new]
  have ecut : ∃ cells : List Int, cut (ns.map D.int) none (some 63) = cells.map .int ∧ cells.length ≤ 63 := by
    refine ⟨ns.take 63, ?_, by rw [List.length_take]; omega⟩
    unfold cut
    have : sIx (ns.map D.int).length (ns.map D.int).length (some 63) = min 63 ns.length := by
      unfold sIx
      dsimp only
      rw [if_neg (by omega), List.length_map]
      rfl
    rw [this]
    show ((ns.map D.int).drop 0).take (min 63 ns.length - 0) = _
    rw [List.drop_zero, Nat.sub_zero, List.map_take]
    by_cases z : ns.length ≤ 63
    · rw [Nat.min_eq_right z, List.take_of_length_le (by rw [List.length_map]; omega), List.take_of_length_le (by rw [List.length_map]; omega)]
    · rw [Nat.min_eq_left (by omega)]
  obtain ⟨cells, ec, cl⟩ := ecut
  rw [ec]
  rw [wp_items_obj]
  refine ⟨_, lstAt_iff.mpr (List.getElem?_concat_length ..), ?_⟩
  dsimp only
  have gl1 : (h ++ [MO.lst []]).length = h.length + 1 := by rw [List.length_append]; rfl
  have E1 : (h ++ [MO.lst []] ++ [MO.lst (cells.map D.int)])[h.length]? = some (.lst []) := by
    rw [List.getElem?_append_left (by rw [gl1]; omega), List.getElem?_concat_length]
  have E2 : (h ++ [MO.lst []] ++ [MO.lst (cells.map D.int)])[h.length + 1]? = some (.lst (cells.map D.int)) := by rw [← gl1, List.getElem?_concat_length]
  have X1 : Ex [] h (h ++ [MO.lst []] ++ [MO.lst (cells.map D.int)]) := by rw [List.append_assoc]; exact Ex.app
  rw [gl1]
  generalize h ++ [MO.lst []] ++ [MO.lst (cells.map D.int)] = h1 at E1 E2 X1 ⊢
  refine wp_for (Inv := fun ds env h' => invPp (.fl (ns.map .int)) h h.length 4000 ds env h' ∧ h'[h.length + 1]? = some (.lst (cells.map D.int))) ?_ ?_ ⟨⟨[], cells, 137, _, _, _, rfl, by rw [List.length_map]; simp only [List.length_nil]; omega, rfl, E1, Nat.le_refl _, X1⟩, E2⟩
  · rintro d ds env h2 ⟨⟨xs, cs, st, a3, a4, a5, f1, f2, rfl, f4, f5, f6⟩, f7⟩
    cases cs with
    | nil => cases f1
    | cons v cs =>
    rw [List.map_cons, List.cons.injEq] at f1
    obtain ⟨rfl, rfl⟩ := f1
    refine ⟨Ks.one f7, _, rfl, ?_⟩
    rw [List.length_cons] at f2
    rw [show forB (b32.getD 2 .pass) = CS.set _ _ :: CS.set _ _ :: CS.ifs _ [CS.exp _] [CS.for _ _ (forB ((elsB ((forB (b32.getD 2 .pass)).getD 2 .pass)).getD 0 .pass))] :: [] from rfl, s_cons]
    simp only [rules, bindG, bindGs, wipeE, placed, Nat.reduceAdd, Nat.reduceSub, Nat.reduceLeDiff, Nat.reduceLT, reduceIte, Int.reduceSub, Int.reduceAdd, Int.reduceMul]
    refine o_mul.mpr ⟨sm_r (by decide) (by decide), ?_⟩
    refine o_mod.mpr ⟨by decide, ?_⟩
    try simp only [rules, bindG, bindGs, wipeE, placed, Nat.reduceAdd, Nat.reduceSub, Nat.reduceLeDiff, Nat.reduceLT, reduceIte, Int.reduceSub, Int.reduceAdd, Int.reduceMul]
    refine o_mod.mpr ⟨by decide, ?_⟩
    try simp only [rules, bindG, bindGs, wipeE, placed, Nat.reduceAdd, Nat.reduceSub, Nat.reduceLeDiff, Nat.reduceLT, reduceIte, Int.reduceSub, Int.reduceAdd, Int.reduceMul]
    refine o_pow (by decide) (by decide) (by decide) ?_
    try simp only [rules, bindG, bindGs, wipeE, placed, Nat.reduceAdd, Nat.reduceSub, Nat.reduceLeDiff, Nat.reduceLT, reduceIte, Int.reduceSub, Int.reduceAdd, Int.reduceMul]
    by_cases z : v < 10 ^ (18 : Int).toNat
    · rw [decide_eq_true z]
      simp only [rules, bindG, bindGs, wipeE, placed, Nat.reduceAdd, Nat.reduceSub, Nat.reduceLeDiff, Nat.reduceLT, reduceIte, Int.reduceSub, Int.reduceAdd, Int.reduceMul, isLst_ok f4, ex_some]
      refine ⟨(), wp_app1 f4 (line_gt (by rw [List.length_map]; omega)) fun h3 u3 g3 => ?_⟩
      exact ⟨⟨xs ++ [v], cs, _, _, _, _, rfl, by rw [List.length_append, List.length_singleton]; omega, rfl, by rw [g3, List.map_append]; rfl, Nat.le_refl _, u3.ex f6 (.inl (Nat.le_refl _))⟩, u3.get f7 (by omega)⟩
    · rw [decide_eq_false z]
      simp only [rules, bindG, bindGs, wipeE, placed, Nat.reduceAdd, Nat.reduceSub, Nat.reduceLeDiff, Nat.reduceLT, reduceIte, Int.reduceSub, Int.reduceAdd, Int.reduceMul]
      rw [w_rng1']
      simp only [rules, bindG, bindGs, wipeE, placed, Nat.reduceAdd, Nat.reduceSub, Nat.reduceLeDiff, Nat.reduceLT, reduceIte, Int.reduceSub, Int.reduceAdd, Int.reduceMul]
      refine ⟨_, rfl, w62 (by decide) (by decide), ?_⟩
      refine wp_for (Inv := fun ds' env h' => invPq (.fl (ns.map .int)) h h.length (60 * cs.length) ((st * 109 + v % 1000099 + 43) % 2147483069) (some (.int v)) ds' env h' ∧ h'[h.length + 1]? = some (.lst (cells.map D.int))) ?_ ?_ ⟨⟨xs, v, _, by rw [rngL_len]; show xs.length + 60 + _ ≤ _; rw [List.length_map] at f2; omega, rfl, f4, Nat.le_refl _, f6⟩, f7⟩
      · rintro d2 ds2 env2 h3 ⟨⟨ys, u, b5, g1, rfl, g3, g4, g5⟩, g6⟩
        refine ⟨Ks.nil, _, rfl, ?_⟩
        rw [List.length_cons] at g1
        rw [show forB ((elsB ((forB (b32.getD 2 .pass)).getD 2 .pass)).getD 0 .pass) = CS.ifs _ _ _ :: CS.exp _ :: [CS.set _ _] from rfl]
        simp only [rules, bindG, bindGs, wipeE, placed, Nat.reduceAdd, Nat.reduceSub, Nat.reduceLeDiff, Nat.reduceLT, reduceIte, Int.reduceSub, Int.reduceAdd, Int.reduceMul]
        by_cases y : u = 0
        · rw [decide_eq_true y]
          simp only [rules, bindG, bindGs, wipeE, placed, Nat.reduceAdd, Nat.reduceSub, Nat.reduceLeDiff, Nat.reduceLT, reduceIte, Int.reduceSub, Int.reduceAdd, Int.reduceMul]
          exact ⟨⟨ys, cs, _, _, _, _, rfl, by rw [List.length_map]; omega, rfl, g3, Nat.le_refl _, g5⟩, g6⟩
        · rw [decide_eq_false y]
          simp only [rules, bindG, bindGs, wipeE, placed, Nat.reduceAdd, Nat.reduceSub, Nat.reduceLeDiff, Nat.reduceLT, reduceIte, Int.reduceSub, Int.reduceAdd, Int.reduceMul, isLst_ok g3, ex_some]
          refine ⟨(), o_mod.mpr ⟨by decide, ?_⟩⟩
          refine wp_app1 g3 (line_gt (by rw [List.length_map]; omega)) fun h4 u4 g4' => ?_
          refine o_fdiv.mpr ⟨by decide, ?_⟩
          exact ⟨⟨ys ++ [u % 5040], _, _, by rw [List.length_append, List.length_singleton]; omega, rfl, by rw [g4', List.map_append]; rfl, Nat.le_refl _, u4.ex g5 (.inl (Nat.le_refl _))⟩, u4.get g6 (by omega)⟩
      · rintro env2 h3 ⟨⟨ys, u, b5, g1, rfl, g3, g4, g5⟩, g6⟩
        refine ⟨Ks.nil, ?_⟩
        simp only [rules, bindG, bindGs, wipeE, placed, Nat.reduceAdd, Nat.reduceSub, Nat.reduceLeDiff, Nat.reduceLT, reduceIte, Int.reduceSub, Int.reduceAdd, Int.reduceMul]
        exact ⟨⟨ys, cs, _, _, _, _, rfl, by rw [List.length_map]; omega, rfl, g3, Nat.le_refl _, g5⟩, g6⟩
  · rintro env h2 ⟨⟨xs, cs, st, a3, a4, a5, f1, f2, rfl, f4, f5, f6⟩, f7⟩
    refine ⟨Ks.one f7, ?_⟩
    rw [show b32.drop 3 = [CS.ret _] from rfl]
    simp only [rules, bindG, bindGs, wipeE, placed, Nat.reduceAdd, Nat.reduceSub, Nat.reduceLeDiff, Nat.reduceLT, reduceIte, Int.reduceSub, Int.reduceAdd, Int.reduceMul]
    have hl := f6.1
    have fl : h.length < h2.length := (List.getElem?_eq_some_iff.mp f4).1
    exact q (h2 ++ [MO.lst [.obj h.length, .int 0, .int st]]) ⟨h2.length, h.length⟩ ⟨by dsimp only; omega, 0, st, xs, List.getElem?_concat_length .., (Ex.app (S := [])).at0 f4⟩ (f6.trans Ex.app) hl (Nat.le_refl _)
end K76

set_option maxHeartbeats 2000000
/-! MB: shuffles, names. -/
namespace K76
open Mi
open PySem (Str PyData)
variable {w k : Nat} {h : MH} {Q : D → MH → Prop} {c : Ch}
theorem m_popAt {n : Nat} {i : Int} {xs : List D} {y : D} (e : h[n]? = some (.lst xs)) (h0 : 0 ≤ i) (h2 : i < 1000000000) (hy : xs[i.toNat]? = some y) (q : ∀ h', Upd n h h' → h'[n]? = some (.lst (xs.eraseIdx i.toNat)) → Q y h') : wp (metD .popAt (.obj n) [.int i]) h Q := by
  have h1 : i < xs.length := by have := (List.getElem?_eq_some_iff.mp hy).1; omega
  unfold metD
  dsimp only
  rw [wp_bnd, wp_rd]
  refine ⟨xs, lstAt_iff.mpr e, ?_⟩
  rw [if_pos (by simp only [Bool.and_eq_true, decide_eq_true_eq]; have : (2 : Int) ^ 62 = 4611686018427387904 := by decide
                 omega), wp_bnd, hy]
  refine ⟨y, _, rfl, ?_⟩
  dsimp only
  rw [wp_bnd]
  exact ⟨(), _, rfl, wp_ret.mpr (q _ Upd.set (set_at e))⟩
theorem Pool.lt' {f : Po} {h0 : MH} (p : Pool f h) (x : Ex [f.p] h h0) {n : Nat} (hn : h.length ≤ n) : n ≠ f.p ∧ n ≠ f.a := by
  have := p.lt
  omega
theorem rngL_nats {n : Nat} : rngL 0 n = nats (List.range n) := by
  unfold rngL nats
  exact List.map_congr_left fun i _ => by rw [Int.zero_add]
theorem erase_perm : ∀ (xs : List Nat) (i : Nat) (hi : i < xs.length), (xs[i] :: xs.eraseIdx i).Perm xs
  | [], _, hi => absurd hi (Nat.not_lt_zero _)
  | x :: xs, 0, _ => List.Perm.refl _
  | x :: xs, i + 1, hi => by
    have ih := erase_perm xs i (Nat.lt_of_succ_lt_succ hi)
    show (xs[i]'(Nat.lt_of_succ_lt_succ hi) :: x :: xs.eraseIdx i).Perm (x :: xs)
    exact (List.Perm.swap _ _ _).trans (ih.cons x)
theorem erase_map {f : Nat → D} : ∀ (xs : List Nat) (i : Nat), (xs.map f).eraseIdx i = (xs.eraseIdx i).map f
  | [], _ => rfl
  | x :: xs, 0 => rfl
  | x :: xs, i + 1 => by
    show f x :: (xs.map f).eraseIdx i = f x :: (xs.eraseIdx i).map f
    rw [erase_map xs i]
def invSh (f : Po) (h0 : MH) (many : Nat) (ln on : Nat) (ds : List D) (env : Env) (h' : MH) : Prop := ∃ (left order : List Nat) (a4 : Option D), left.length = ds.length ∧ (order ++ left).Perm (List.range many) ∧
  env = [some (.obj f.p), some (.int (many : Nat)), some (.obj ln), some (.obj on), a4] ∧ h'[ln]? = some (.lst (nats left)) ∧ h'[on]? = some (.lst (nats order)) ∧ Pool f h' ∧ Ex [f.p] h0 h'
theorem p_shuffled {f : Po} {many : Nat} (pf : Pool f h) (hm : many ≤ 1000) (q : ∀ h' n (os : List Nat), Pool f h' → Ex [f.p] h h' → h.length ≤ n → h'[n]? = some (.lst (nats os)) → os.Perm (List.range many) → Q (.obj n) h') : wp (Gn cds w (k + 2) 34 [.obj f.p, .int (many : Nat)]) h Q := by
  have fl := pf.lt
  rw [g34, w_run]
  refine ⟨rfl, ?_⟩
  rw [show b34 = CS.set _ _ :: CS.set _ _ :: CS.for _ _ (forB (b34.getD 2 .pass)) :: b34.drop 3 from rfl, s_cons]
  simp only [rules, bindG, bindGs, wipeE, placed, Nat.reduceAdd, Nat.reduceSub, Nat.reduceLeDiff, Nat.reduceLT, reduceIte, Int.reduceSub, Int.reduceAdd, Int.reduceMul]
  rw [w_rng1']
  simp only [rules, bindG, bindGs, wipeE, placed, Nat.reduceAdd, Nat.reduceSub, Nat.reduceLeDiff, Nat.reduceLT, reduceIte, Int.reduceSub, Int.reduceAdd, Int.reduceMul]
  refine ⟨_, rfl, w62 (by omega) (by omega), line_ge (by rw [rngL_len]; omega), ?_⟩
  rw [Int.toNat_natCast, w_rng1']
  simp only [rules, bindG, bindGs, wipeE, placed, Nat.reduceAdd, Nat.reduceSub, Nat.reduceLeDiff, Nat.reduceLT, reduceIte, Int.reduceSub, Int.reduceAdd, Int.reduceMul]
  refine ⟨_, rfl, w62 (by omega) (by omega), ?_⟩
  rw [Int.toNat_natCast]
  have gl1 : (h ++ [MO.lst (rngL 0 many)]).length = h.length + 1 := by rw [List.length_append]; rfl
  refine wp_for (Inv := invSh f h many h.length (h.length + 1)) ?_ ?_ ⟨List.range many, [], _, by rw [rngL_len, List.length_range], by rw [List.nil_append], by rw [gl1], ?_, ?_, (pf.app).app, by rw [List.append_assoc]; exact Ex.app⟩
  · rintro d ds env h2 ⟨left, order, a4, f1, f2, rfl, f4, f5, f6, f7⟩
    refine ⟨Ks.nil, _, rfl, ?_⟩
    rw [List.length_cons] at f1
    rw [show forB (b34.getD 2 .pass) = [CS.exp _] from rfl]
    simp only [rules, bindG, bindGs, wipeE, placed, Nat.reduceAdd, Nat.reduceSub, Nat.reduceLeDiff, Nat.reduceLT, reduceIte, Int.reduceSub, Int.reduceAdd, Int.reduceMul, isLst_ok f4, isLst_ok f5, ex_some]
    refine ⟨(), ⟨(), ?_⟩⟩
    refine o_lenL f4 ?_
    rw [nats_len]
    have hp2 := f2.length_eq
    rw [List.length_append, List.length_range] at hp2
    refine p_take f6 (by omega) fun h3 r f8 x8 r0 r1 => ?_
    have g4 := x8.at (by simp only [List.mem_singleton]; omega) f4
    have g5 := x8.at (by simp only [List.mem_singleton]; omega) f5
    have hr : r.toNat < left.length := by omega
    refine m_popAt g4 r0 (by omega) (y := .int (left[r.toNat] : Nat)) (by unfold nats; rw [List.getElem?_map, List.getElem?_eq_getElem hr]; rfl) fun h4 u4 g4' => ?_
    refine wp_app1 (u4.get g5 (by omega)) (line_gt (by rw [nats_len]; omega)) fun h5 u5 g5' => ?_
    refine ⟨left.eraseIdx r.toNat, order ++ [left[r.toNat]], _, by rw [List.length_eraseIdx_of_lt hr]; omega, ?_, rfl, ?_, ?_, (f8.upd pf u4 (Nat.le_refl _)).upd pf u5 (by omega), u5.ex (u4.ex (f7.trans x8) (.inl (Nat.le_refl _))) (.inl (by omega))⟩
    · refine List.Perm.trans ?_ f2
      rw [List.append_assoc]
      refine List.Perm.append_left order ?_
      have e := erase_perm left _ hr
      exact e
    · rw [u5.get g4' (by omega)]
      unfold nats
      rw [erase_map]
    · rw [g5']
      unfold nats
      rw [List.map_append]
      rfl
  · rintro env h2 ⟨left, order, a4, f1, f2, rfl, f4, f5, f6, f7⟩
    refine ⟨Ks.nil, ?_⟩
    rw [show b34.drop 3 = [CS.ret _] from rfl]
    simp only [rules, bindG, bindGs, wipeE, placed, Nat.reduceAdd, Nat.reduceSub, Nat.reduceLeDiff, Nat.reduceLT, reduceIte, Int.reduceSub, Int.reduceAdd, Int.reduceMul]
    rw [List.length_nil] at f1
    rw [List.length_eq_zero_iff.mp f1, List.append_nil] at f2
    exact q h2 _ order f6 f7 (by omega) f5 f2
  · rw [List.getElem?_append_left (by rw [gl1]; omega), List.getElem?_concat_length, rngL_nats]
  · rw [← gl1, List.getElem?_concat_length]
    rfl
/-! ### names -/
theorem str_app {a b : Str} : (a ++ b).cps = a.cps ++ b.cps := rfl
theorem strOk_app {a b : Str} (ha : PyData.strOk a = true) (hb : PyData.strOk b = true) : PyData.strOk (a ++ b) = true := by
  unfold PyData.strOk at *
  rw [str_app, Array.all_append, ha, hb]
  rfl
theorem len_app {a b : Str} : (a ++ b).length = a.length + b.length := by
  unfold Str.length
  rw [str_app, Array.size_append]
def numS (n : Nat) : Str := ⟨#[48 + n / 10, 48 + n % 10]⟩
theorem numS_eq : ∀ i : Fin 90, Str.ofString (toString (((10 + i.val : Nat)) : Int)) = numS (10 + i.val) := by decide +kernel
theorem o_str2 {n : Nat} (h0 : 10 ≤ n) (h1 : n < 100) (q : Q (.str (numS n)) h) : wp (bltD .str [.int (n : Nat)]) h Q := by
  unfold bltD
  dsimp only
  rw [if_pos, wp_ret]
  · have e := numS_eq ⟨n - 10, by omega⟩
    dsimp only at e
    rw [show 10 + (n - 10) = n by omega] at e
    rw [e]
    exact q
  · show (n : Int).natAbs.log2 < 1920
    rw [Int.natAbs_natCast]
    exact Nat.lt_trans ((Nat.log2_lt (by omega)).mpr (show n < 2 ^ 7 by omega)) (by decide)
def sufs : List Str := ["", "y", "0z"]
theorem sufs_ok : ∀ s ∈ sufs, PyData.strOk s = true ∧ s.length ≤ 10 := by decide +kernel
/-- a name made for a number -/
def Named (n : Nat) (s : Str) : Prop := ∃ (a : Nat) (u : Str), u ∈ sufs ∧ 97 ≤ a ∧ a ≤ 122 ∧ s = (⟨#[a]⟩ ++ numS n : Str) ++ u
theorem named_inj {n m : Nat} {s : Str} (a : Named n s) (b : Named m s) (hn : n < 100) (hm : m < 100) : n = m := by
  obtain ⟨_, u, _, _, _, e1⟩ := a
  obtain ⟨_, v, _, _, _, e2⟩ := b
  have e := congrArg (fun z : Str => z.cps.toList.take 3) (e1.symm.trans e2)
  unfold numS at e
  simp only [str_app, Array.toList_append] at e
  simp at e
  omega
theorem named_ok {n : Nat} {s : Str} (a : Named n s) (h1 : n < 100) : PyData.strOk s = true := by
  obtain ⟨a, u, hu, a0, a1, rfl⟩ := a
  refine strOk_app (strOk_app ?_ ?_) (sufs_ok u hu).1
  · unfold PyData.strOk
    simp
    omega
  · unfold PyData.strOk numS
    simp
    omega
theorem sortD_strs (ss : List Str) : ∃ ss' : List Str, sortD (ss.map .str) = some (ss'.map .str) ∧ ss'.Perm ss := by
  cases ss with
  | nil => exact ⟨[], by simp [sortD, intsOf], List.Perm.refl _⟩
  | cons s ss =>
    have e : ∀ l : List Str, strsOf (l.map .str) = some l := by
      intro l
      induction l with
      | nil => rfl
      | cons a l ih =>
        show (strsOf (l.map .str)).map (a :: ·) = _
        rw [ih]
        rfl
    refine ⟨(s :: ss).mergeSort strLe, ?_, List.mergeSort_perm _ _⟩
    unfold sortD
    rw [show intsOf ((s :: ss).map D.str) = none from rfl, e]
/-- texts of small letters -/
structure Lets (z : Str) : Prop where
  len : 0 < z.length ∧ z.length ≤ 30
  at_ : ∀ i : Nat, i < z.length → ∃ a, z.cps.toList[i]? = some a ∧ 97 ≤ a ∧ a ≤ 122
theorem ix_lets {z : Str} {i : Int} (lz : Lets z) (h0 : 0 ≤ i) (h1 : i < z.length) : ∃ a, 97 ≤ a ∧ a ≤ 122 ∧ idxD (.str z) (.int i) h = some (.str ⟨#[a]⟩) := by
  obtain ⟨a, e, a0, a1⟩ := lz.at_ i.toNat (by omega)
  refine ⟨a, a0, a1, ?_⟩
  unfold idxD
  dsimp only
  have := lz.len
  rw [if_pos (line_ge (by omega)), at_nat h0 (by show i < (z.cps.toList.length : Nat); rw [Array.length_toList]; exact h1), e]
  rfl
theorem o_lenS {z : Str} (hz : z.length ≤ 1000) (q : Q (.int z.length) h) : wp (bltD .len [.str z]) h Q := by
  unfold bltD
  dsimp only
  rw [wp_bnd, wp_rd]
  refine ⟨_, by unfold lenD; dsimp only; rw [if_pos (line_ge (by omega))], ?_⟩
  exact wp_ret.mpr q
def invNm (f : Po) (h0 : MH) (many base : Nat) (z : Str) (nl : Nat) (ds : List D) (env : Env) (h' : MH) : Prop := ∃ (ss : List Str) (a5 : Option D), ss.length ≤ many ∧ ds = rngL (ss.length : Nat) (many - ss.length) ∧
  env = [some (.obj f.p), some (.int (many : Nat)), some (.str z), some (.int (base : Nat)), some (.obj nl), a5] ∧ h'[nl]? = some (.lst (ss.map .str)) ∧ Pool f h' ∧ Ex [f.p] h0 h' ∧
  ∀ (j : Nat) (s : Str), ss[j]? = some s → Named (base + j) s
theorem p_names {f : Po} {many : Nat} {z : Str} (ff : Pool f h) (hm : many ≤ 30) (lz : Lets z) (q : ∀ h' n (ss : List Str), Pool f h' → Ex [f.p] h h' → h.length ≤ n → h'[n]? = some (.lst (ss.map .str)) → ss.length = many → ss.Nodup → (∀ s ∈ ss, PyData.strOk s = true) → Q (.obj n) h') :
    wp (Gn cds w (k + 2) 35 [.obj f.p, .int (many : Nat), .str z]) h Q := by
  have fl := ff.lt
  have zl := lz.len
  rw [g35, w_run]
  refine ⟨rfl, ?_⟩
  rw [show b35 = CS.set _ _ :: CS.set _ _ :: CS.for _ _ (forB (b35.getD 2 .pass)) :: b35.drop 3 from rfl, s_cons]
  simp only [rules, bindG, bindGs, wipeE, placed, Nat.reduceAdd, Nat.reduceSub, Nat.reduceLeDiff, Nat.reduceLT, reduceIte, Int.reduceSub, Int.reduceAdd, Int.reduceMul]
  refine p_take ff (by decide) fun h1 r f1 x1 o0 o1 => ?_
  try simp only [rules, bindG, bindGs, wipeE, placed, Nat.reduceAdd, Nat.reduceSub, Nat.reduceLeDiff, Nat.reduceLT, reduceIte, Int.reduceSub, Int.reduceAdd, Int.reduceMul]
  rw [w_rng1']
  simp only [rules, bindG, bindGs, wipeE, placed, Nat.reduceAdd, Nat.reduceSub, Nat.reduceLeDiff, Nat.reduceLT, reduceIte, Int.reduceSub, Int.reduceAdd, Int.reduceMul]
  refine ⟨_, rfl, w62 (by omega) (by omega), ?_⟩
  rw [Int.toNat_natCast]
  obtain ⟨base, eb⟩ : ∃ b : Nat, 10 + r = (b : Nat) := ⟨(10 + r).toNat, by omega⟩
  rw [eb]
  have hl1 := x1.1
  refine wp_for (Inv := invNm f h many base z h1.length) ?_ ?_ ⟨[], _, Nat.zero_le _, rfl, rfl, List.getElem?_concat_length .., f1.app, x1.trans Ex.app, fun j s hs => by cases hs⟩
  · rintro d ds env h3 ⟨ss, a5, i1, i2, rfl, i3, i4, i5, i6⟩
    cases em : many - ss.length with
    | zero => rw [em] at i2; cases i2
    | succ m =>
      rw [em, rngL_succ, List.cons.injEq] at i2
      obtain ⟨rfl, rfl⟩ := i2
      refine ⟨Ks.nil, _, rfl, ?_⟩
      rw [show forB (b35.getD 2 .pass) = [CS.exp _] from rfl]
      simp only [rules, bindG, bindGs, wipeE, placed, Nat.reduceAdd, Nat.reduceSub, Nat.reduceLeDiff, Nat.reduceLT, reduceIte, Int.reduceSub, Int.reduceAdd, Int.reduceMul, isLst_ok i3, ex_some]
      refine ⟨(), ?_⟩
      refine o_lenS (by omega) ?_
      refine p_take i4 (by omega) fun h4 r2 f4 x4 s0 s1 => ?_
      obtain ⟨a, a0, a1, ea⟩ := ix_lets (h := h4) lz s0 s1
      simp only [rules, bindG, bindGs, wipeE, placed, Nat.reduceAdd, Nat.reduceSub, Nat.reduceLeDiff, Nat.reduceLT, reduceIte, Int.reduceSub, Int.reduceAdd, Int.reduceMul, ea, ex_some]
      rw [show (base : Int) + (ss.length : Nat) = ((base + ss.length : Nat) : Int) by omega]
      refine o_str2 (by omega) (by omega) ?_
      refine o_catS.mpr ⟨line_ge (by show 1 + 2 ≤ 10000000; decide), ?_⟩
      refine p_take f4.app (by decide) fun h5 r3 f5 x5 t0 t1 => ?_
      have hl4 := x4.1
      have hl3 := i5.1
      have e4 : h5[h4.length]? = some (.lst (sufs.map .str)) := x5.at (by simp only [List.mem_singleton]; omega) (by rw [List.getElem?_concat_length]; rfl)
      have e5 : h5[h1.length]? = some (.lst (ss.map .str)) := x5.at (by simp only [List.mem_singleton]; omega) ((Ex.app (S := [])).at0 (x4.at (by simp only [List.mem_singleton]; omega) i3))
      obtain ⟨u, hu, eu⟩ : ∃ u ∈ sufs, atI (sufs.map D.str) r3 = some (.str u) := by
        have hr : r3.toNat < sufs.length := by show r3.toNat < 3; omega
        refine ⟨sufs[r3.toNat], List.getElem_mem _, ?_⟩
        rw [at_nat t0 (by rw [List.length_map]; show r3 < 3; omega), List.getElem?_map, List.getElem?_eq_getElem hr]
        rfl
      simp only [ix_lst e4, eu, rules, bindG, bindGs, wipeE, placed, Nat.reduceAdd, Nat.reduceSub, Nat.reduceLeDiff, Nat.reduceLT, reduceIte, Int.reduceSub, Int.reduceAdd, Int.reduceMul]
      refine o_catS.mpr ⟨line_ge ?_, ?_⟩
      · rw [len_app]
        have := (sufs_ok u hu).2
        show 1 + 2 + u.length ≤ _
        omega
      · refine wp_app1 e5 (line_gt (by rw [List.length_map]; omega)) fun h6 u6 g6 => ?_
        refine ⟨ss ++ [(⟨#[a]⟩ ++ numS (base + ss.length) : Str) ++ u], _, ?_, ?_, rfl, ?_, f5.upd ff u6 hl1, u6.ex (((i5.trans x4).trans Ex.app).trans x5) (.inl hl1), ?_⟩
        · rw [List.length_append, List.length_singleton]
          omega
        · rw [List.length_append, List.length_singleton, show many - (ss.length + 1) = m by omega]
          rfl
        · rw [g6, List.map_append]
          rfl
        · intro j s hs
          by_cases hj : j < ss.length
          · rw [List.getElem?_append_left hj] at hs
            exact i6 j s hs
          · rw [List.getElem?_append_right (by omega)] at hs
            have hj2 : j = ss.length := by
              have := (List.getElem?_eq_some_iff.mp hs).1
              simp at this
              omega
            subst hj2
            rw [Nat.sub_self] at hs
            cases hs
            exact ⟨a, u, hu, a0, a1, rfl⟩
  · rintro env h3 ⟨ss, a5, i1, i2, rfl, i3, i4, i5, i6⟩
    have hl : ss.length = many := by
      cases em : many - ss.length with
      | zero => omega
      | succ m => rw [em, rngL_succ] at i2; cases i2
    refine ⟨Ks.nil, ?_⟩
    rw [show b35.drop 3 = [CS.ret _] from rfl]
    simp only [rules, bindG, bindGs, wipeE, placed, Nat.reduceAdd, Nat.reduceSub, Nat.reduceLeDiff, Nat.reduceLT, reduceIte, Int.reduceSub, Int.reduceAdd, Int.reduceMul]
    obtain ⟨ss', es', pm⟩ := sortD_strs ss
    have nd : ss.Nodup := by
      rw [List.nodup_iff_pairwise_ne, List.pairwise_iff_getElem]
      intro i j hi hj hij e
      have a := i6 i ss[i] (List.getElem?_eq_getElem hi)
      have b := i6 j ss[j] (List.getElem?_eq_getElem hj)
      rw [← e] at b
      have := named_inj a b (by omega) (by omega)
      omega
    unfold bltD
    dsimp only
    rw [wp_bnd, wp_rd]
    refine ⟨ss'.map .str, ?_, wp_new.mpr ?_⟩
    · rw [lstAt_iff.mpr i3]
      exact es'
    · refine q _ _ ss' i4.app (i5.trans Ex.app) i5.1 (by rw [List.getElem?_concat_length]) (by rw [pm.length_eq]; exact hl) (pm.nodup_iff.mpr nd) fun s hs => ?_
      obtain ⟨j, hj⟩ := List.getElem?_of_mem (pm.mem_iff.mp hs)
      exact named_ok (i6 j s hj) (by have := (List.getElem?_eq_some_iff.mp hj).1; omega)
end K76

set_option maxHeartbeats 2000000
/-! MC: ties, charts. -/
namespace K76
open Mi
open PySem (Str PyData)
variable {w k : Nat} {h : MH} {Q : D → MH → Prop} {c : Ch}
def All2 (P : D → D → Prop) (ds ys : List D) : Prop := ys.length = ds.length ∧ ∀ (i : Nat) (d y : D), ds[i]? = some d → ys[i]? = some y → P d y
theorem All2.nil {P : D → D → Prop} : All2 P [] [] := ⟨rfl, fun i d y e => by cases e⟩
theorem All2.snoc {P : D → D → Prop} {ds ys : List D} {d y : D} (a : All2 P ds ys) (p : P d y) : All2 P (ds ++ [d]) (ys ++ [y]) := by
  refine ⟨by simp [a.1], fun i d' y' e1 e2 => ?_⟩
  by_cases hi : i < ds.length
  · rw [List.getElem?_append_left hi] at e1
    rw [List.getElem?_append_left (by rw [a.1]; exact hi)] at e2
    exact a.2 i d' y' e1 e2
  · rw [List.getElem?_append_right (by omega)] at e1
    rw [List.getElem?_append_right (by rw [a.1]; omega), a.1] at e2
    have : i - ds.length = 0 := by
      have := (List.getElem?_eq_some_iff.mp e1).1
      simp at this
      omega
    rw [this] at e1 e2
    cases e1
    cases e2
    exact p
theorem All2.mem {P : D → D → Prop} {ds ys : List D} (a : All2 P ds ys) {y : D} (hy : y ∈ ys) : ∃ d ∈ ds, P d y := by
  obtain ⟨i, hi⟩ := List.getElem?_of_mem hy
  have hl := (List.getElem?_eq_some_iff.mp hi).1
  rw [a.1] at hl
  exact ⟨ds[i], List.getElem_mem _, a.2 i _ _ (List.getElem?_eq_getElem hl) hi⟩
theorem ks_exS {ks : Kp} {S : List Nat} {h h' : MH} (q : Ks ks h) (hn : ∀ p ∈ ks, p.1 ∉ S) (x : Ex S h h') : Ks ks h' := fun p hp => x.at (hn p hp) (q p hp)
theorem wp_lcP {G : Ga} {f : Po} {bnd : D → Env → Option Env} {elt : Env → M D} {ks : Kp} {env : Env} {ds : List D} {Qu : Unit → MH → Prop} (P : D → D → Prop) (h0 : MH) (f0 : Pool f h0) (hk : Ks ks h0) (hka : ∀ p ∈ ks, p.1 ≠ f.p) (hl : ds.length ≤ 1000000)
    (hel : ∀ d ∈ ds, ∀ h', Pool f h' → Ex [f.p] h0 h' → ∃ env1, bnd d env = some env1 ∧ wp (elt env1) h' fun y h2 => P d y ∧ Pool f h2 ∧ Ex [f.p] h' h2)
    (post : ∀ h' ys, Pool f h' → Ex [f.p] h0 h' → All2 P ds ys → h'[h0.length]? = some (.lst ys) → Qu () h') : wp (lcL bnd (evOT G none) elt ks h0.length env ds) (h0 ++ [.lst []]) Qu := by
  have fl := f0.lt
  have hka' : ∀ p ∈ ks, p.1 ∉ [f.p] := fun p hp z => hka p hp (List.mem_singleton.mp z)
  refine wp_lcL (Inv := fun todo acc h' => ∃ done, ds = done ++ todo ∧ All2 P done acc ∧ Pool f h' ∧ Ex [f.p] h0 h' ∧ h'[h0.length]? = some (.lst acc)) ?_ ?_ ⟨[], rfl, All2.nil, f0.app, Ex.app, by simp⟩
  · rintro d todo acc h1 ⟨done, rfl, a, f1, x, hn⟩
    obtain ⟨env1, e1, q⟩ := hel d (by simp) h1 f1 x
    refine ⟨ks_exS hk hka' x, env1, e1, ?_⟩
    rw [w_otnone, if_pos rfl]
    refine wp_mono q fun y h2 q => ?_
    obtain ⟨p, f2, x2⟩ := q
    have e2 := x2.at (by simp only [List.mem_singleton]; omega) hn
    refine ⟨e2, line_gt ?_, done ++ [d], by simp, a.snoc p, f2.upd f0 Upd.set (Nat.le_refl _), (x.trans x2).set (Nat.le_refl _), set_at e2⟩
    rw [a.1]
    rw [List.length_append] at hl
    omega
  · rintro acc h1 ⟨done, rfl, a, f1, x, hn⟩
    refine ⟨ks_exS hk hka' x, post h1 acc f1 x ?_ hn⟩
    rw [List.append_nil]
    exact a
/-- some of them, drawn -/
theorem wp_subP {f : Po} {bnd : D → Env → Option Env} {tst : Env → M Bool} {elt : Env → M D} {ks : Kp} {env : Env} {ds : List D} {Qu : Unit → MH → Prop} (h0 : MH) (f0 : Pool f h0) (hk : Ks ks h0) (hka : ∀ p ∈ ks, p.1 ≠ f.p) (hl : ds.length ≤ 1000000)
    (hel : ∀ d ∈ ds, ∀ h', Pool f h' → Ex [f.p] h0 h' → ∃ env1, bnd d env = some env1 ∧ wp (tst env1) h' fun v h2 => Pool f h2 ∧ Ex [f.p] h' h2 ∧ (v = true → wp (elt env1) h2 fun y h3 => y = d ∧ h3 = h2))
    (post : ∀ h' ys, Pool f h' → Ex [f.p] h0 h' → ys.Sublist ds → h'[h0.length]? = some (.lst ys) → Qu () h') : wp (lcL bnd tst elt ks h0.length env ds) (h0 ++ [.lst []]) Qu := by
  have fl := f0.lt
  have hka' : ∀ p ∈ ks, p.1 ∉ [f.p] := fun p hp z => hka p hp (List.mem_singleton.mp z)
  refine wp_lcL (Inv := fun todo acc h' => ∃ done, ds = done ++ todo ∧ acc.Sublist done ∧ Pool f h' ∧ Ex [f.p] h0 h' ∧ h'[h0.length]? = some (.lst acc)) ?_ ?_ ⟨[], rfl, List.Sublist.slnil, f0.app, Ex.app, by simp⟩
  · rintro d todo acc h1 ⟨done, rfl, a, f1, x, hn⟩
    obtain ⟨env1, e1, q⟩ := hel d (by simp) h1 f1 x
    refine ⟨ks_exS hk hka' x, env1, e1, ?_⟩
    refine wp_mono q fun v h2 q => ?_
    obtain ⟨f2, x2, q2⟩ := q
    have e2 := x2.at (by simp only [List.mem_singleton]; omega) hn
    cases v with
    | false =>
      rw [if_neg (by decide)]
      exact ⟨done ++ [d], by simp, a.trans (List.sublist_append_left _ _), f2, x.trans x2, e2⟩
    | true =>
      rw [if_pos rfl]
      refine wp_mono (q2 rfl) fun y h3 q3 => ?_
      obtain ⟨rfl, rfl⟩ := q3
      have := a.length_le
      refine ⟨e2, line_gt ?_, done ++ [y], by simp, a.append (List.Sublist.refl _), f2.upd f0 Upd.set (Nat.le_refl _), (x.trans x2).set (Nat.le_refl _), set_at e2⟩
      rw [List.length_append] at hl
      omega
  · rintro acc h1 ⟨done, rfl, a, f1, x, hn⟩
    refine ⟨ks_exS hk hka' x, post h1 acc f1 x ?_ hn⟩
    rw [List.append_nil]
    exact a
/-- _law_tie -/
theorem p_tie {f : Po} {m v : Int} (ff : Pool f h) (m0 : 0 < m) (m1 : m ≤ 1000) (q : ∀ h' lo hi, Pool f h' → Ex [f.p] h h' → Q (.tup [od lo, od hi]) h') : wp (Gn cds w (k + 2) 36 [.obj f.p, .int m, .int v]) h Q := by
  rw [g36, w_run]
  refine ⟨rfl, ?_⟩
  rw [show b36 = CS.set _ _ :: CS.ifs _ _ _ :: b36.drop 2 from rfl, s_cons]
  simp only [rules, bindG, bindGs, wipeE, placed, Nat.reduceAdd, Nat.reduceSub, Nat.reduceLeDiff, Nat.reduceLT, reduceIte, Int.reduceSub, Int.reduceAdd, Int.reduceMul]
  refine p_take ff (by decide) fun h1 r f1 x1 o0 o1 => ?_
  try simp only [rules, bindG, bindGs, wipeE, placed, Nat.reduceAdd, Nat.reduceSub, Nat.reduceLeDiff, Nat.reduceLT, reduceIte, Int.reduceSub, Int.reduceAdd, Int.reduceMul]
  have fin : ∀ (v : Int) (h2 : MH), Pool f h2 → Ex [f.p] h h2 → ∀ QS : Out × Env → MH → Prop, (∀ h' lo hi env, Pool f h' → Ex [f.p] h h' → QS (.ret (.tup [od lo, od hi]), env) h') → wp (evSs (Gn cds w (k + 1)) w (b36.drop 2) [some (.obj f.p), some (.int m), some (.int v), some (.int r), none, none]) h2 QS := fun v h2 f2 x2 QS q => by
    rw [show b36.drop 2 = CS.set _ _ :: CS.set _ _ :: b36.drop 4 from rfl, s_cons]
    simp only [rules, bindG, bindGs, wipeE, placed, Nat.reduceAdd, Nat.reduceSub, Nat.reduceLeDiff, Nat.reduceLT, reduceIte, Int.reduceSub, Int.reduceAdd, Int.reduceMul]
    refine o_mul.mpr ⟨sm_l (by decide) (by decide), ?_⟩
    try simp only [rules, bindG, bindGs, wipeE, placed, Nat.reduceAdd, Nat.reduceSub, Nat.reduceLeDiff, Nat.reduceLT, reduceIte, Int.reduceSub, Int.reduceAdd, Int.reduceMul]
    refine p_take f2 (by omega) fun h3 r3 f3 x3 _ _ => ?_
    try simp only [rules, bindG, bindGs, wipeE, placed, Nat.reduceAdd, Nat.reduceSub, Nat.reduceLeDiff, Nat.reduceLT, reduceIte, Int.reduceSub, Int.reduceAdd, Int.reduceMul]
    refine o_mul.mpr ⟨sm_l (by decide) (by decide), ?_⟩
    try simp only [rules, bindG, bindGs, wipeE, placed, Nat.reduceAdd, Nat.reduceSub, Nat.reduceLeDiff, Nat.reduceLT, reduceIte, Int.reduceSub, Int.reduceAdd, Int.reduceMul]
    refine p_take f3 (by omega) fun h4 r4 f4 x4 _ _ => ?_
    try simp only [rules, bindG, bindGs, wipeE, placed, Nat.reduceAdd, Nat.reduceSub, Nat.reduceLeDiff, Nat.reduceLT, reduceIte, Int.reduceSub, Int.reduceAdd, Int.reduceMul]
    rw [show b36.drop 4 = CS.ifs _ _ _ :: CS.ifs _ _ _ :: CS.ifs _ _ _ :: [CS.ret _] from rfl]
    simp only [rules, bindG, bindGs, wipeE, placed, Nat.reduceAdd, Nat.reduceSub, Nat.reduceLeDiff, Nat.reduceLT, reduceIte, Int.reduceSub, Int.reduceAdd, Int.reduceMul]
    have x24 := (x2.trans x3).trans x4
    have d0 : ∀ y : Int, D.int y = od (some y) := fun _ => rfl
    have dn : D.non = od none := rfl
    by_cases z0 : r = 0
    · rw [z0]
      simp only [rules, bindG, bindGs, wipeE, placed, Nat.reduceAdd, Nat.reduceSub, Nat.reduceLeDiff, Nat.reduceLT, reduceIte, Int.reduceSub, Int.reduceAdd, Int.reduceMul, show (decide ((0 : Int) = 0)) = true from rfl, show (decide ((0 : Int) = 1)) = false from rfl, show (decide ((0 : Int) = 2)) = false from rfl]
      rw [dn, d0]
      exact q h4 _ _ _ f4 x24
    · simp only [rules, bindG, bindGs, wipeE, placed, Nat.reduceAdd, Nat.reduceSub, Nat.reduceLeDiff, Nat.reduceLT, reduceIte, Int.reduceSub, Int.reduceAdd, Int.reduceMul, decide_eq_false z0]
      by_cases z1 : r = 1
      · rw [z1]
        simp only [rules, bindG, bindGs, wipeE, placed, Nat.reduceAdd, Nat.reduceSub, Nat.reduceLeDiff, Nat.reduceLT, reduceIte, Int.reduceSub, Int.reduceAdd, Int.reduceMul, show (decide ((1 : Int) = 1)) = true from rfl, show (decide ((1 : Int) = 2)) = false from rfl]
        rw [dn, d0]
        exact q h4 _ _ _ f4 x24
      · simp only [rules, bindG, bindGs, wipeE, placed, Nat.reduceAdd, Nat.reduceSub, Nat.reduceLeDiff, Nat.reduceLT, reduceIte, Int.reduceSub, Int.reduceAdd, Int.reduceMul, decide_eq_false z1]
        by_cases z2 : r = 2
        · simp only [rules, bindG, bindGs, wipeE, placed, Nat.reduceAdd, Nat.reduceSub, Nat.reduceLeDiff, Nat.reduceLT, reduceIte, Int.reduceSub, Int.reduceAdd, Int.reduceMul, decide_eq_true z2]
          refine p_take f4 (by omega) fun h5 r5 f5 x5 _ _ => ?_
          try simp only [rules, bindG, bindGs, wipeE, placed, Nat.reduceAdd, Nat.reduceSub, Nat.reduceLeDiff, Nat.reduceLT, reduceIte, Int.reduceSub, Int.reduceAdd, Int.reduceMul]
          by_cases z3 : r5 = 0
          · simp only [rules, bindG, bindGs, wipeE, placed, Nat.reduceAdd, Nat.reduceSub, Nat.reduceLeDiff, Nat.reduceLT, reduceIte, Int.reduceSub, Int.reduceAdd, Int.reduceMul, decide_eq_true z3]
            rw [dn]
            exact q h5 _ _ _ f5 (x24.trans x5)
          · simp only [rules, bindG, bindGs, wipeE, placed, Nat.reduceAdd, Nat.reduceSub, Nat.reduceLeDiff, Nat.reduceLT, reduceIte, Int.reduceSub, Int.reduceAdd, Int.reduceMul, decide_eq_false z3]
            rw [d0, d0]
            exact q h5 _ _ _ f5 (x24.trans x5)
        · simp only [rules, bindG, bindGs, wipeE, placed, Nat.reduceAdd, Nat.reduceSub, Nat.reduceLeDiff, Nat.reduceLT, reduceIte, Int.reduceSub, Int.reduceAdd, Int.reduceMul, decide_eq_false z2]
          rw [d0, d0]
          exact q h4 _ _ _ f4 x24
  by_cases z : 5 < r
  · simp only [rules, bindG, bindGs, wipeE, placed, Nat.reduceAdd, Nat.reduceSub, Nat.reduceLeDiff, Nat.reduceLT, reduceIte, Int.reduceSub, Int.reduceAdd, Int.reduceMul, decide_eq_true z]
    refine p_take f1 (by omega) fun h2 r2 f2 x2 _ _ => ?_
    try simp only [rules, bindG, bindGs, wipeE, placed, Nat.reduceAdd, Nat.reduceSub, Nat.reduceLeDiff, Nat.reduceLT, reduceIte, Int.reduceSub, Int.reduceAdd, Int.reduceMul]
    refine o_mul.mpr ⟨sm_l (by omega) (by omega), ?_⟩
    refine p_take f2 (by omega) fun h3 r3 f3 x3 _ _ => ?_
    refine o_mul.mpr ⟨sm_l (by omega) (by omega), ?_⟩
    try simp only [rules, bindG, bindGs, wipeE, placed, Nat.reduceAdd, Nat.reduceSub, Nat.reduceLeDiff, Nat.reduceLT, reduceIte, Int.reduceSub, Int.reduceAdd, Int.reduceMul]
    refine o_mul.mpr ⟨sm_r (by omega) (by omega), ?_⟩
    try simp only [rules, bindG, bindGs, wipeE, placed, Nat.reduceAdd, Nat.reduceSub, Nat.reduceLeDiff, Nat.reduceLT, reduceIte, Int.reduceSub, Int.reduceAdd, Int.reduceMul]
    exact fin _ h3 f3 ((x1.trans x2).trans x3) _ fun h' lo hi env p x => q h' lo hi p x
  · simp only [rules, bindG, bindGs, wipeE, placed, Nat.reduceAdd, Nat.reduceSub, Nat.reduceLeDiff, Nat.reduceLT, reduceIte, Int.reduceSub, Int.reduceAdd, Int.reduceMul, decide_eq_false z]
    exact fin _ h1 f1 x1 _ fun h' lo hi env p x => q h' lo hi p x
/-- charts -/
def mkC (m : Int) (ss : List Str) (rs : List Int) (ts : List Tie) : Ch := ⟨m, ss.zip rs, ts⟩
def TieG (ss : List Str) (t : Tie) : Prop := ∃ a b : Nat, ss[a]? = some t.one ∧ ss[b]? = some t.oth ∧ a ≠ b ∧ PyData.strOk t.nm = true ∧ t.pl.length ≤ 1
theorem mk_names {m : Int} {ss : List Str} {rs : List Int} {ts : List Tie} (hl : ss.length = rs.length) : (mkC m ss rs ts).names = ss := by
  unfold mkC Ch.names
  exact List.map_fst_zip (by omega)
theorem mk_ok {m : Int} {ss : List Str} {rs : List Int} {ts : List Tie} (hl : ss.length = rs.length) (nd : ss.Nodup) (m0 : 0 < m) (m1 : m ≤ 100000) (so : ∀ s ∈ ss, PyData.strOk s = true) (hr : ∀ v ∈ rs, 0 ≤ v ∧ v < m) (hg : ∀ t ∈ ts, TieG ss t) (h1 : ss.length ≤ 900) (h2 : ts.length ≤ 1000) : (mkC m ss rs ts).Ok := by
  refine ⟨m0, m1, by rw [mk_names hl]; exact nd, by rw [mk_names hl]; exact so, fun p hp => ?_, fun t ht => ?_, fun t ht => ?_, ?_, h2⟩
  · exact hr p.2 (List.of_mem_zip (show (p.1, p.2) ∈ ss.zip rs from hp)).2
  · rw [mk_names hl]
    obtain ⟨a, b, e1, e2, _, _⟩ := hg t ht
    exact ⟨List.mem_of_getElem? e1, List.mem_of_getElem? e2⟩
  · obtain ⟨a, b, e1, e2, e3, _⟩ := hg t ht
    intro z
    rw [z] at e1
    obtain ⟨l1, g1⟩ := List.getElem?_eq_some_iff.mp e1
    obtain ⟨l2, g2⟩ := List.getElem?_eq_some_iff.mp e2
    rw [List.nodup_iff_pairwise_ne, List.pairwise_iff_getElem] at nd
    rcases Nat.lt_or_gt_of_ne e3 with y | y
    · exact nd a b l1 l2 y (g1.trans g2.symm)
    · exact nd b a l2 l1 y (g2.trans g1.symm)
  · show (ss.zip rs).length ≤ 900
    rw [List.length_zip]
    omega
theorem o_min2 {i j : Int} : wp (bltD .min2 [.int i, .int j]) h Q ↔ Q (.int (if j < i then j else i)) h := wp_ret
theorem o_max2 {i j : Int} : wp (bltD .max2 [.int i, .int j]) h Q ↔ Q (.int (if j > i then j else i)) h := wp_ret
def invCh (f : Po) (h0 : MH) (many ties : Nat) (m : Int) (ss ws : List Str) (nn wn rn hn rl : Nat) (rs : List Int) (ds : List D) (env : Env) (h' : MH) : Prop :=
  ∃ (ts : List Tie) (todo : List Str) (a9 a10 a11 a12 a13 a14 a17 a18 : Option D), ts.length + todo.length = ties ∧ (∀ s ∈ todo, PyData.strOk s = true) ∧ ds = todo.map .str ∧ (∀ t ∈ ts, TieG ss t) ∧
  env = [some (.obj f.p), some (.int (many : Nat)), some (.int (ties : Nat)), some (.int m), some (.obj nn), some (.obj wn), some (.obj rn), some (.obj hn), some (.obj rl), a9, a10, a11, a12, a13, a14, none, none, a17, a18, none] ∧
  h'[rl]? = some (.lst (ts.map Tie.d)) ∧ Pool f h' ∧ Ex [f.p] h0 h' ∧ (∃ hs : List Int, hs.length = many ∧ h'[hn]? = some (.lst (hs.map .int))) ∧ h'[nn]? = some (.lst (ss.map .str)) ∧ h'[wn]? = some (.lst (ws.map .str)) ∧ h'[rn]? = some (.lst (rs.map .int))
end K76

set_option maxHeartbeats 2000000
/-! MD: charts made. -/
namespace K76
open Mi
open PySem (Str PyData)
variable {w k : Nat} {h : MH} {Q : D → MH → Prop} {c : Ch}
theorem ints_at {is : List Int} {n : Nat} (hn : n < is.length) : atI (is.map D.int) (n : Int) = some (.int is[n]) := by
  rw [at_nat' (by rw [List.length_map]; exact hn), List.getElem?_map, List.getElem?_eq_getElem hn]
  rfl
theorem strs_at {is : List Str} {n : Nat} (hn : n < is.length) : atI (is.map D.str) (n : Int) = some (.str is[n]) := by
  rw [at_nat' (by rw [List.length_map]; exact hn), List.getElem?_map, List.getElem?_eq_getElem hn]
  rfl
theorem mod_ne {a r n : Int} (a0 : 0 ≤ a) (a1 : a < n) (r0 : 0 ≤ r) (r1 : r < n - 1) : (a + 1 + r) % n ≠ a := by
  by_cases z : a + 1 + r < n
  · rw [Int.emod_eq_of_lt (by omega) z]
    omega
  · have e : (a + 1 + r) % n = (a + 1 + r - n) % n := by rw [Int.sub_emod_right]
    rw [e, Int.emod_eq_of_lt (by omega) (by omega)]
    omega
theorem lets1 : Lets "afglnv" := ⟨by decide +kernel, fun i hi => by
  have h6 : i < 6 := hi
  have : ∀ i : Fin 6, ∃ a, ("afglnv" : Str).cps.toList[i.val]? = some a ∧ 97 ≤ a ∧ a ≤ 122 := by
    intro i
    refine ⟨(("afglnv" : Str).cps.toList[i.val]?).getD 0, ?_⟩
    revert i
    decide +kernel
  exact this ⟨i, h6⟩⟩
theorem lets2 : Lets "cekmt" := ⟨by decide +kernel, fun i hi => by
  have h6 : i < 5 := hi
  have : ∀ i : Fin 5, ∃ a, ("cekmt" : Str).cps.toList[i.val]? = some a ∧ 97 ≤ a ∧ a ≤ 122 := by
    intro i
    refine ⟨(("cekmt" : Str).cps.toList[i.val]?).getD 0, ?_⟩
    revert i
    decide +kernel
  exact this ⟨i, h6⟩⟩
theorem p_chart {f : Po} {many ties : Nat} (ff : Pool f h) (h2 : 2 ≤ many) (h3 : many ≤ 30) (h4 : ties ≤ 30)
    (q : ∀ h' (c : Ch), Pool f h' → Ex [f.p] h h' → c.Ok → c.m ≤ 6 → c.ps.length = many → c.ts.length = ties → (∀ t ∈ c.ts, PyData.strOk t.nm = true ∧ t.pl.length ≤ 1) → Q c.d h') :
    wp (Gn cds w (k + 3) 37 [.obj f.p, .int (many : Nat), .int (ties : Nat)]) h Q := by
  have fl := ff.lt
  rw [g37, w_run]
  refine ⟨rfl, ?_⟩
  rw [show b37 = CS.set _ _ :: CS.set _ _ :: CS.set _ _ :: CS.set _ _ :: b37.drop 4 from rfl, s_cons]
  simp only [rules, bindG, bindGs, wipeE, placed, Nat.reduceAdd, Nat.reduceSub, Nat.reduceLeDiff, Nat.reduceLT, reduceIte, Int.reduceSub, Int.reduceAdd, Int.reduceMul]
  refine p_take ff (by decide) fun h1 r f1 x1 r0 r1 => ?_
  simp only [rules, bindG, bindGs, wipeE, placed, Nat.reduceAdd, Nat.reduceSub, Nat.reduceLeDiff, Nat.reduceLT, reduceIte, Int.reduceSub, Int.reduceAdd, Int.reduceMul]
  obtain ⟨m, em⟩ : ∃ m, 1 + r = m := ⟨_, rfl⟩
  rw [em]
  refine p_names f1 h3 lets1 fun h5 nn ss f5 x5 l5 e5 n5 d5 o5 => ?_
  try simp only [rules, bindG, bindGs, wipeE, placed, Nat.reduceAdd, Nat.reduceSub, Nat.reduceLeDiff, Nat.reduceLT, reduceIte, Int.reduceSub, Int.reduceAdd, Int.reduceMul]
  refine p_names f5 h4 lets2 fun h6 wn ws f6 x6 l6 e6 n6 d6 o6 => ?_
  try simp only [rules, bindG, bindGs, wipeE, placed, Nat.reduceAdd, Nat.reduceSub, Nat.reduceLeDiff, Nat.reduceLT, reduceIte, Int.reduceSub, Int.reduceAdd, Int.reduceMul]
  have e56 := x6.at (by simp only [List.mem_singleton]; have := x1.1; omega) e5
  have hl1 := x1.1
  have hl5 := x5.1
  have hl6 := x6.1
  rw [wp_items_obj]
  refine ⟨_, lstAt_iff.mpr e56, ?_⟩
  dsimp only
  refine wp_lcP (fun _ y => ∃ v : Int, y = .int v ∧ 0 ≤ v ∧ v < m) h6 f6 (Ks.one e56) (by intro p hp; rw [List.mem_singleton.mp hp]; dsimp only; omega) (by rw [List.length_map]; omega) ?_ ?_
  · intro d hd h7 f7 x7
    refine ⟨_, rfl, ?_⟩
    simp only [rules, bindG, bindGs, wipeE, placed, Nat.reduceAdd, Nat.reduceSub, Nat.reduceLeDiff, Nat.reduceLT, reduceIte, Int.reduceSub, Int.reduceAdd, Int.reduceMul]
    refine p_take f7 (by omega) fun h8 v f8 x8 v0 v1 => ?_
    exact ⟨⟨v, rfl, v0, v1⟩, f8, x8⟩
  · intro h7 ys f7 x7 p7 e7
    obtain ⟨rs, rfl⟩ : ∃ ls : List Int, ys = ls.map .int := ints_of fun y hy => by
      obtain ⟨d, _, v, rfl, _⟩ := p7.mem hy
      exact ⟨v, rfl⟩
    have rb : ∀ v ∈ rs, 0 ≤ v ∧ v < m := by
      intro v hv
      obtain ⟨d, _, u, eu, b⟩ := p7.mem (List.mem_map.mpr ⟨v, hv, rfl⟩)
      injection eu with eu
      rw [eu]
      exact b
    have rl : rs.length = many := by
      have := p7.1
      rw [List.length_map, List.length_map] at this
      omega
    have x17 := ((x1.trans x5).trans x6).trans x7
    have hl7 := x7.1
    have hl7' : h6.length < h7.length := (List.getElem?_eq_some_iff.mp e7).1
    rw [show b37.drop 4 = CS.set _ _ :: CS.set _ _ :: CS.for _ _ (forB ((b37.drop 4).getD 2 .pass)) :: b37.drop 7 from rfl, s_cons]
    simp only [rules, bindG, bindGs, wipeE, placed, Nat.reduceAdd, Nat.reduceSub, Nat.reduceLeDiff, Nat.reduceLT, reduceIte, Int.reduceSub, Int.reduceAdd, Int.reduceMul]
    rw [wp_items_obj]
    refine ⟨_, lstAt_iff.mpr e7, ?_⟩
    dsimp only
    refine wp_lcP (fun _ y => ∃ v : Int, y = .int v) h7 f7 (Ks.one e7) (by intro p hp; rw [List.mem_singleton.mp hp]; dsimp only; omega) (by rw [List.length_map]; omega) ?_ ?_
    · intro d hd h8 f8 x8
      obtain ⟨v, _, rfl⟩ := List.mem_map.mp hd
      refine ⟨_, rfl, ?_⟩
      simp only [rules, bindG, bindGs, wipeE, placed, Nat.reduceAdd, Nat.reduceSub, Nat.reduceLeDiff, Nat.reduceLT, reduceIte, Int.reduceSub, Int.reduceAdd, Int.reduceMul]
      refine p_take f8 (by omega) fun h9 v f9 x9 v0 v1 => ?_
      try simp only [rules, bindG, bindGs, wipeE, placed, Nat.reduceAdd, Nat.reduceSub, Nat.reduceLeDiff, Nat.reduceLT, reduceIte, Int.reduceSub, Int.reduceAdd, Int.reduceMul]
      refine o_mul.mpr ⟨sm_l (by omega) (by omega), ?_⟩
      try simp only [rules, bindG, bindGs, wipeE, placed, Nat.reduceAdd, Nat.reduceSub, Nat.reduceLeDiff, Nat.reduceLT, reduceIte, Int.reduceSub, Int.reduceAdd, Int.reduceMul]
      exact ⟨⟨_, rfl⟩, f9, x9⟩
    · intro h8 ys f8 x8 p8 e8
      obtain ⟨hs, rfl⟩ : ∃ ls : List Int, ys = ls.map .int := ints_of fun y hy => by
        obtain ⟨d, _, v, rfl⟩ := p8.mem hy
        exact ⟨v, rfl⟩
      have sl : hs.length = many := by
        have := p8.1
        rw [List.length_map, List.length_map] at this
        omega
      have hl8 := x8.1
      have hl8' : h7.length < h8.length := (List.getElem?_eq_some_iff.mp e8).1
      have n8 := x8.at (by simp only [List.mem_singleton]; omega) (x7.at (by simp only [List.mem_singleton]; omega) e56)
      have w8 := x8.at (by simp only [List.mem_singleton]; omega) (x7.at (by simp only [List.mem_singleton]; omega) e6)
      have r8 := x8.at (by simp only [List.mem_singleton]; omega) e7
      have lwn : wn < h6.length := (List.getElem?_eq_some_iff.mp e6).1
      have lnn : nn < h6.length := (List.getElem?_eq_some_iff.mp e56).1
      rw [wp_items_obj]
      refine ⟨_, lstAt_iff.mpr ((Ex.app (S := [])).at0 w8), ?_⟩
      dsimp only
      refine wp_for (Inv := invCh f h many ties m ss ws nn wn h6.length h7.length h8.length rs) ?_ ?_ ⟨[], ws, _, _, _, _, _, _, _, _, by rw [n6]; exact Nat.zero_add _, o6, rfl, (fun t ht => nomatch ht), rfl, List.getElem?_concat_length .., f8.app, (x17.trans x8).trans Ex.app, ⟨hs, sl, (Ex.app (S := [])).at0 e8⟩, (Ex.app (S := [])).at0 n8, (Ex.app (S := [])).at0 w8, (Ex.app (S := [])).at0 r8⟩
      · rintro d ds env g ⟨ts, todo, a9, a10, a11, a12, a13, a14, a17, a18, i1, i2, i3, i4, rfl, i5, i6, i7, ⟨hs, sl, i8⟩, i9, i10, i11⟩
        cases todo with
        | nil => cases i3
        | cons wd todo =>
        rw [List.map_cons, List.cons.injEq] at i3
        obtain ⟨rfl, rfl⟩ := i3
        rw [List.length_cons] at i1
        have hlg := i7.1
        have hg8 : h8.length < g.length := (List.getElem?_eq_some_iff.mp i5).1
        refine ⟨Ks.one i10, _, rfl, ?_⟩
        rw [show forB ((b37.drop 4).getD 2 .pass) = CS.set _ _ :: CS.set _ _ :: CS.set _ _ :: CS.set _ _ :: (forB ((b37.drop 4).getD 2 .pass)).drop 4 from rfl, s_cons]
        simp only [rules, bindG, bindGs, wipeE, placed, Nat.reduceAdd, Nat.reduceSub, Nat.reduceLeDiff, Nat.reduceLT, reduceIte, Int.reduceSub, Int.reduceAdd, Int.reduceMul]
        refine p_take i6 (by omega) fun g1 a j1 y1 a0 a1 => ?_
        try simp only [rules, bindG, bindGs, wipeE, placed, Nat.reduceAdd, Nat.reduceSub, Nat.reduceLeDiff, Nat.reduceLT, reduceIte, Int.reduceSub, Int.reduceAdd, Int.reduceMul]
        refine p_take j1 (by omega) fun g2 b j2 y2 b0 b1 => ?_
        try simp only [rules, bindG, bindGs, wipeE, placed, Nat.reduceAdd, Nat.reduceSub, Nat.reduceLeDiff, Nat.reduceLT, reduceIte, Int.reduceSub, Int.reduceAdd, Int.reduceMul]
        refine o_mod.mpr ⟨by omega, ?_⟩
        have c0 := Int.emod_nonneg (a + 1 + b) (show (many : Int) ≠ 0 by omega)
        have c1 := Int.emod_lt_of_pos (a + 1 + b) (show (0 : Int) < many by omega)
        have c2 := mod_ne a0 a1 b0 b1
        generalize (a + 1 + b) % (many : Int) = oth at c0 c1 c2
        try simp only [rules, bindG, bindGs, wipeE, placed, Nat.reduceAdd, Nat.reduceSub, Nat.reduceLeDiff, Nat.reduceLT, reduceIte, Int.reduceSub, Int.reduceAdd, Int.reduceMul]
        refine o_min2.mpr ?_
        try simp only [rules, bindG, bindGs, wipeE, placed, Nat.reduceAdd, Nat.reduceSub, Nat.reduceLeDiff, Nat.reduceLT, reduceIte, Int.reduceSub, Int.reduceAdd, Int.reduceMul]
        refine o_max2.mpr ?_
        try simp only [rules, bindG, bindGs, wipeE, placed, Nat.reduceAdd, Nat.reduceSub, Nat.reduceLeDiff, Nat.reduceLT, reduceIte, Int.reduceSub, Int.reduceAdd, Int.reduceMul]
        obtain ⟨u, eu⟩ : ∃ u : Nat, (if oth < a then oth else a) = (u : Nat) := ⟨(if oth < a then oth else a).toNat, by split <;> omega⟩
        obtain ⟨v, ev⟩ : ∃ u : Nat, (if oth > a then oth else a) = (u : Nat) := ⟨(if oth > a then oth else a).toNat, by split <;> omega⟩
        rw [eu, ev]
        have hu : u < many := by split at eu <;> omega
        have hv : v < many := by split at ev <;> omega
        have huv : u ≠ v := by split at eu <;> split at ev <;> omega
        have y12 := y1.trans y2
        have k5 := y12.at (by simp only [List.mem_singleton]; omega) i5
        have k8 := y12.at (by simp only [List.mem_singleton]; omega) i8
        have k9 := y12.at (by simp only [List.mem_singleton]; omega) i9
        have k10 := y12.at (by simp only [List.mem_singleton]; omega) i10
        have k11 := y12.at (by simp only [List.mem_singleton]; omega) i11
        have y07 := i7.trans y12
        rw [show (forB ((b37.drop 4).getD 2 .pass)).drop 4 = CS.asg _ _ :: CS.set _ _ :: CS.ifs _ _ _ :: (forB ((b37.drop 4).getD 2 .pass)).drop 7 from rfl, s_cons]
        simp only [rules, bindG, bindGs, wipeE, placed, Nat.reduceAdd, Nat.reduceSub, Nat.reduceLeDiff, Nat.reduceLT, reduceIte, Int.reduceSub, Int.reduceAdd, Int.reduceMul, ix_lst k8, ints_at (show v < hs.length by omega), ints_at (show u < hs.length by omega), ex_some]
        refine p_tie j2 (by omega) (by omega) fun g3 lo hi j3 y3 => ?_
        simp only [rules, bindG, bindGs, wipeE, placed, Nat.reduceAdd, Nat.reduceSub, Nat.reduceLeDiff, Nat.reduceLT, reduceIte, Int.reduceSub, Int.reduceAdd, Int.reduceMul]
        refine p_take j3 (by decide) fun g4 z j4 y4 z0 z1 => ?_
        have y34 := y3.trans y4
        have fin : ∀ (pl : List (Int × Int × Int)) (hpl : pl.length ≤ 1) (g5 : MH), Pool f g5 → Ex [f.p] g4 g5 → ∀ (QS : Out × Env → MH → Prop), (∀ g6 env, invCh f h many ties m ss ws nn wn h6.length h7.length h8.length rs (todo.map .str) env g6 → QS (.nx, env) g6) →
            wp (evSs (Gn cds w (k + 2)) w ((forB ((b37.drop 4).getD 2 .pass)).drop 7) [some (.obj f.p), some (.int (many : Nat)), some (.int (ties : Nat)), some (.int m), some (.obj nn), some (.obj wn), some (.obj h6.length), some (.obj h7.length), some (.obj h8.length), some (.str wd), some (.int a), some (.int oth), some (.int (u : Nat)), some (.int (v : Nat)), some (.tup (pl.map pud)), none, none, some (od lo), some (od hi), none]) g5 QS := fun pl hpl g5 j5 y5 QS qs => by
          have hl2 := y12.1
          have l5 := (y34.trans y5).at (by simp only [List.mem_singleton]; omega) k5
          have l8 := (y34.trans y5).at (by simp only [List.mem_singleton]; omega) k8
          have l9 := (y34.trans y5).at (by simp only [List.mem_singleton]; omega) k9
          have l10 := (y34.trans y5).at (by simp only [List.mem_singleton]; omega) k10
          have l11 := (y34.trans y5).at (by simp only [List.mem_singleton]; omega) k11
          rw [show (forB ((b37.drop 4).getD 2 .pass)).drop 7 = [CS.exp _] from rfl]
          simp only [rules, bindG, bindGs, wipeE, placed, Nat.reduceAdd, Nat.reduceSub, Nat.reduceLeDiff, Nat.reduceLT, reduceIte, Int.reduceSub, Int.reduceAdd, Int.reduceMul, isLst_ok l5, ix_lst l9, strs_at (show v < ss.length by omega), strs_at (show u < ss.length by omega), ex_some]
          refine ⟨(), wp_app1 l5 (line_gt (by rw [List.length_map]; omega)) fun g6 u6 e6 => qs g6 _ ?_⟩
          refine ⟨ts ++ [⟨wd, ss[u], ss[v], lo, hi, pl⟩], todo, _, _, _, _, _, _, _, _, by rw [List.length_append, List.length_singleton]; omega, fun s hs => i2 s (List.mem_cons_of_mem _ hs), rfl, ?_, rfl, ?_, j5.upd ff u6 (by omega), u6.ex ((y07.trans y34).trans y5) (.inl (by omega)), ⟨hs, sl, u6.get l8 (by omega)⟩, u6.get l9 (by omega), u6.get l10 (by omega), u6.get l11 (by omega)⟩
          · intro t ht
            rcases List.mem_append.mp ht with z | z
            · exact i4 t z
            · rw [List.mem_singleton.mp z]
              exact ⟨u, v, List.getElem?_eq_getElem (by omega), List.getElem?_eq_getElem (by omega), huv, i2 wd (List.mem_cons_self ..), hpl⟩
          · rw [e6, List.map_append]
            rfl
        by_cases zz : z = 0
        · simp only [rules, bindG, bindGs, wipeE, placed, Nat.reduceAdd, Nat.reduceSub, Nat.reduceLeDiff, Nat.reduceLT, reduceIte, Int.reduceSub, Int.reduceAdd, Int.reduceMul, decide_eq_true zz]
          refine p_take j4 (by decide) fun g5 z5 j5 y5 _ _ => ?_
          try simp only [rules, bindG, bindGs, wipeE, placed, Nat.reduceAdd, Nat.reduceSub, Nat.reduceLeDiff, Nat.reduceLT, reduceIte, Int.reduceSub, Int.reduceAdd, Int.reduceMul]
          exact fin [(z5 - 4, 1, 2)] (Nat.le_refl _) g5 j5 y5 _ fun g6 env q6 => q6
        · simp only [rules, bindG, bindGs, wipeE, placed, Nat.reduceAdd, Nat.reduceSub, Nat.reduceLeDiff, Nat.reduceLT, reduceIte, Int.reduceSub, Int.reduceAdd, Int.reduceMul, decide_eq_false zz]
          exact fin [] (Nat.zero_le _) g4 j4 Ex.refl _ fun g6 env q6 => q6
      · rintro env g ⟨ts, todo, a9, a10, a11, a12, a13, a14, a17, a18, i1, i2, i3, i4, rfl, i5, i6, i7, ⟨hs, sl, i8⟩, i9, i10, i11⟩
        cases todo with
        | cons wd todo => cases i3
        | nil =>
        refine ⟨Ks.one i10, ?_⟩
        rw [show b37.drop 7 = [CS.ret _] from rfl]
        simp only [rules, bindG, bindGs, wipeE, placed, Nat.reduceAdd, Nat.reduceSub, Nat.reduceLeDiff, Nat.reduceLT, reduceIte, Int.reduceSub, Int.reduceAdd, Int.reduceMul]
        rw [w_rng1']
        simp only [rules, bindG, bindGs, wipeE, placed, Nat.reduceAdd, Nat.reduceSub, Nat.reduceLeDiff, Nat.reduceLT, reduceIte, Int.reduceSub, Int.reduceAdd, Int.reduceMul]
        refine ⟨_, rfl, w62 (by omega) (by omega), ?_⟩
        rw [Int.toNat_natCast, rngL_nats]
        refine wp_mapf (fun d => match d with | .int i => .tup [.str ((ss[i.toNat]?).getD ""), .int ((rs[i.toNat]?).getD 0)] | _ => .non) g Ks.nil (by rw [nats_len, List.length_range]; omega) ?_ ?_
        · intro d hd g2 y2
          obtain ⟨i, hi, rfl⟩ := List.mem_map.mp hd
          have hi2 := List.mem_range.mp hi
          refine ⟨_, rfl, ?_⟩
          simp only [rules, bindG, bindGs, wipeE, placed, Nat.reduceAdd, Nat.reduceSub, Nat.reduceLeDiff, Nat.reduceLT, reduceIte, Int.reduceSub, Int.reduceAdd, Int.reduceMul, ix_lst (y2.at0 i9), ix_lst (y2.at0 i11), strs_at (show i < ss.length by omega), ints_at (show i < rs.length by omega)]
          rw [show ((i : Nat) : Int).toNat = i from rfl, List.getElem?_eq_getElem (show i < ss.length by omega), List.getElem?_eq_getElem (show i < rs.length by omega)]
          exact ⟨rfl, Ex.refl⟩
        · intro g2 y2 e2
          refine o_tupL e2 ?_
          refine o_tupL (y2.at0 i5) ?_
          have ez : List.map (fun d : D => (match d with | .int i => .tup [.str ((ss[i.toNat]?).getD ""), .int ((rs[i.toNat]?).getD 0)] | _ => .non : D)) (nats (List.range many)) = (ss.zip rs).map pd := by
            unfold nats
            rw [List.map_map]
            refine List.ext_getElem? fun i => ?_
            rw [List.getElem?_map, List.getElem?_map]
            by_cases z : i < many
            · rw [List.getElem?_range z, List.getElem?_eq_getElem (show i < (ss.zip rs).length by rw [List.length_zip]; omega), List.getElem_zip]
              show some (D.tup [.str ((ss[((i : Nat) : Int).toNat]?).getD ""), .int ((rs[((i : Nat) : Int).toNat]?).getD 0)]) = _
              rw [show ((i : Nat) : Int).toNat = i from rfl, List.getElem?_eq_getElem (show i < ss.length by omega), List.getElem?_eq_getElem (show i < rs.length by omega)]
              rfl
            · rw [List.getElem?_eq_none (by rw [List.length_range]; omega), List.getElem?_eq_none (show (ss.zip rs).length ≤ i by rw [List.length_zip]; omega)]
              rfl
          rw [ez]
          rw [List.length_nil, Nat.add_zero] at i1
          refine q g2 (mkC m ss rs ts) (i6.ex y2) (i7.trans y2.mono) (mk_ok (by omega) d5 (by omega) (by omega) o5 rb i4 (by omega) (by omega)) (by show m ≤ 6; omega) ?_ i1 fun t ht => by obtain ⟨_, _, _, _, _, z⟩ := i4 t ht; exact z
          show (ss.zip rs).length = many
          rw [List.length_zip]
          omega
end K76

set_option maxHeartbeats 2000000
/-! ME: legs as the law has them. -/
namespace K76
open Mi
open PySem (Str PyData)
variable {w k : Nat} {h : MH} {Q : D → MH → Prop} {c : Ch}
theorem cd0 : idxD c.d (.int 0) h = some (.int c.m) := at0
theorem cd1 : idxD c.d (.int 1) h = some (.tup (c.ps.map pd)) := at1
theorem cd2 : idxD c.d (.int 2) h = some (.tup (c.ts.map Tie.d)) := at2
theorem ts_at {t : Tie} {i : Nat} (e : c.ts[i]? = some t) : atI (c.ts.map Tie.d) ((i : Nat) : Int) = some t.d := by
  rw [at_nat' (by rw [List.length_map]; exact (List.getElem?_eq_some_iff.mp e).1), List.getElem?_map, e]
  rfl
theorem beq_str {a b : Str} : (a == b) = decide (a = b) := by
  by_cases z : a = b
  · subst z
    simp
  · rw [decide_eq_false z]
    exact beq_eq_false_iff_ne.mpr z
theorem place_strs {x : Str} : ∀ {ss : List Str}, x ∈ ss → placeD (.str x) (ss.map .str) = some (ss.idxOf x)
  | [], h => nomatch h
  | s :: ss, hm => by
    show (if (s == x) = true then some 0 else (placeD (.str x) (ss.map .str)).map (· + 1)) = _
    rw [List.idxOf_cons]
    by_cases z : s = x
    · subst z
      simp
    · have e3 : (s == x) = false := beq_eq_false_iff_ne.mpr z
      rw [e3]
      rcases List.mem_cons.mp hm with y | y
      · exact absurd y.symm z
      · rw [if_neg (by decide), place_strs y]
        rfl
theorem m_index {n : Nat} {x : Str} (e : h[n]? = some (.lst (c.names.map .str))) (hx : x ∈ c.names) (q : Q (.int (c.ix x : Nat)) h) : wp (metD .index (.obj n) [.str x]) h Q := by
  unfold metD
  dsimp only
  rw [wp_bnd, wp_rd]
  refine ⟨c.ix x, ?_, wp_ret.mpr q⟩
  rw [lstAt_iff.mpr e]
  show (if _ then _ else _) = _
  rw [if_pos, place_strs hx]
  · rfl
  · rw [Bool.and_eq_true]
    refine ⟨rfl, List.all_eq_true.mpr fun d hd => ?_⟩
    obtain ⟨s, _, rfl⟩ := List.mem_map.mp hd
    rfl
theorem wp_nms {G : Ga} {j : Nat} {env : Env} {Qu : Unit → MH → Prop} (ok : c.Ok) (hj : j < env.length) (q : ∀ h', Ex [] h h' → h'[h.length]? = some (.lst (c.names.map .str)) → Qu () h') :
    wp (lcL (bindG (.nm j)) (evOT G none) (evE G (.idx (.var j) (.cst (.int 0)))) [] h.length env (c.ps.map pd)) (h ++ [.lst []]) Qu := by
  have lp := ok.lp
  refine wp_mapf (fun d => match d with | .tup (a :: _) => a | _ => .non) h Ks.nil (by rw [List.length_map]; omega) ?_ ?_
  · intro d hd h2 x2
    obtain ⟨p, hp, rfl⟩ := List.mem_map.mp hd
    refine ⟨env.set j (some (pd p)), by rw [bindG]; exact if_pos hj, ?_⟩
    rw [w_idx, w_var, List.getElem?_set_self hj]
    dsimp only
    rw [w_cst]
    exact ⟨_, at0, rfl, Ex.refl⟩
  · intro h2 x2 e2
    refine q h2 x2 ?_
    rw [e2, List.map_map]
    unfold Ch.names
    rw [List.map_map]
    rfl
theorem in_nats {n : Nat} : ∀ {l : List Nat}, ((nats l).any fun z => eqF z (.int (n : Nat))) = decide (n ∈ l)
  | [] => rfl
  | x :: l => by
    show (((x : Int) == (n : Int)) || ((nats l).any fun z => eqF z (.int (n : Nat)))) = _
    rw [in_nats]
    by_cases z : n = x
    · subst z
      simp
    · have : ((x : Int) == (n : Int)) = false := beq_eq_false_iff_ne.mpr (by omega)
      rw [this, Bool.false_or]
      refine decide_eq_decide.mpr ⟨fun y => List.mem_cons_of_mem _ y, fun y => ?_⟩
      rcases List.mem_cons.mp y with y | y
      · exact absurd y z
      · exact y
theorem c_inL {n : Nat} {lot : List Nat} : cmpD .in_ (.int (n : Nat)) (lotD lot) h = some (decide (n ∈ lot)) := by
  unfold cmpD
  dsimp only
  unfold inD lotD
  dsimp only
  rw [if_pos, in_nats]
  rw [Bool.and_eq_true]
  refine ⟨rfl, List.all_eq_true.mpr fun d hd => ?_⟩
  obtain ⟨s, _, rfl⟩ := List.mem_map.mp hd
  rfl
theorem c_niL {n : Nat} {lot : List Nat} : cmpD .notIn (.int (n : Nat)) (lotD lot) h = some (!decide (n ∈ lot)) := by
  show (cmpD .in_ (.int (n : Nat)) (lotD lot) h).map (!·) = _
  rw [c_inL]
  rfl
def lawD (l : Leg) : D := match l.tag with
  | .tup [a, b] => .tup [.int (l.u : Nat), .int (l.v : Nat), .int l.b, a, b]
  | _ => .non
theorem lawD_tag {u v i y : Nat} {b : Int} : lawD ⟨u, v, b, tagD i y⟩ = .tup [.int (u : Nat), .int (v : Nat), .int b, .int (i : Nat), .int (y : Nat)] := rfl
theorem strike_at {lot : List Nat} {t : Tie} {i : Nat} (e : c.ts[i]? = some t) : (c.strike lot).ts.zipIdx[i]? = some (strT lot (t, i), i) := by
  rw [List.getElem?_zipIdx]
  show Option.map _ ((c.ts.zipIdx.map (strT lot))[i]?) = _
  rw [List.getElem?_map, List.getElem?_zipIdx, e]
  simp
theorem legs_step {lot : List Nat} {t : Tie} {i : Nat} (e : c.ts[i]? = some t) : ((c.strike lot).ts.zipIdx.take (i + 1)).flatMap (fun p => (c.strike lot).legsOf p.2 p.1) = ((c.strike lot).ts.zipIdx.take i).flatMap (fun p => (c.strike lot).legsOf p.2 p.1) ++ if i ∈ lot then [] else c.legsOf i t := by
  rw [List.take_succ, List.flatMap_append, strike_at e]
  congr 1
  show (c.strike lot).legsOf i (strT lot (t, i)) ++ [] = _
  rw [List.append_nil]
  unfold strT
  by_cases z : i ∈ lot
  · rw [if_pos z, if_pos z]
    rfl
  · rw [if_neg z, if_neg z]
    rfl
def invLg (c : Ch) (lot : List Nat) (nn ln : Nat) (h0 : MH) (ds : List D) (env : Env) (h' : MH) : Prop := ∃ (i : Nat) (a4 a5 a6 a7 a9 a10 a11 a12 a13 a14 : Option D), i ≤ c.ts.length ∧ ds = rngL (i : Nat) (c.ts.length - i) ∧
  env = [some c.d, some (lotD lot), some (.obj nn), some (.obj ln), a4, a5, a6, a7, none, a9, a10, a11, a12, a13, a14] ∧ Ex [] h0 h' ∧ h'[nn]? = some (.lst (c.names.map .str)) ∧
  h'[ln]? = some (.lst ((((c.strike lot).ts.zipIdx.take i).flatMap fun p => (c.strike lot).legsOf p.2 p.1).map lawD))
theorem p_lawlegs (ok : c.Ok) {lot : List Nat} (q : ∀ h' n, h.length ≤ n → Ex [] h h' → h'[n]? = some (.lst ((c.strike lot).legs.map lawD)) → Q (.obj n) h') : wp (Gn cds w (k + 1) 39 [c.d, lotD lot]) h Q := by
  have lt := ok.lt
  rw [g39, w_run]
  refine ⟨rfl, ?_⟩
  rw [show b39 = CS.set _ _ :: CS.set _ _ :: CS.for _ _ (forB (b39.getD 2 .pass)) :: b39.drop 3 from rfl, s_cons]
  simp only [rules, bindG, bindGs, wipeE, placed, Nat.reduceAdd, Nat.reduceSub, Nat.reduceLeDiff, Nat.reduceLT, reduceIte, Int.reduceSub, Int.reduceAdd, Int.reduceMul, cd1, cd2]
  refine wp_nms ok (by simp) fun h1 x1 e1 => ?_
  rw [w_rng1']
  simp only [rules, bindG, bindGs, wipeE, placed, Nat.reduceAdd, Nat.reduceSub, Nat.reduceLeDiff, Nat.reduceLT, reduceIte, Int.reduceSub, Int.reduceAdd, Int.reduceMul, cd2]
  have hl1 := x1.1
  have hl2 : h.length < h1.length := (List.getElem?_eq_some_iff.mp e1).1
  refine ⟨_, rfl, by rw [List.length_map]; exact w62 (by omega) (by omega), ?_⟩
  rw [List.length_map, Int.toNat_natCast]
  refine wp_for (Inv := invLg c lot h.length h1.length h) ?_ ?_ ⟨0, _, _, _, _, _, _, _, _, _, _, Nat.zero_le _, rfl, rfl, x1.trans Ex.app, (Ex.app (S := [])).at0 e1, List.getElem?_concat_length ..⟩
  · rintro d ds env g ⟨i, a4, a5, a6, a7, a9, a10, a11, a12, a13, a14, i1, i2, rfl, i3, i4, i5⟩
    cases em : c.ts.length - i with
    | zero => rw [em] at i2; cases i2
    | succ m =>
      rw [em, rngL_succ, List.cons.injEq] at i2
      obtain ⟨rfl, rfl⟩ := i2
      have hi : i < c.ts.length := by omega
      obtain ⟨t, ht⟩ : ∃ t, c.ts[i]? = some t := ⟨_, List.getElem?_eq_getElem hi⟩
      have en := ok.ends t (List.mem_of_getElem? ht)
      refine ⟨Ks.nil, _, rfl, ?_⟩
      rw [show forB (b39.getD 2 .pass) = CS.asg _ _ :: CS.set _ _ :: CS.set _ _ :: CS.set _ _ :: (forB (b39.getD 2 .pass)).drop 4 from rfl, s_cons]
      simp only [rules, bindG, bindGs, wipeE, placed, Nat.reduceAdd, Nat.reduceSub, Nat.reduceLeDiff, Nat.reduceLT, reduceIte, Int.reduceSub, Int.reduceAdd, Int.reduceMul, cd1, cd2, ts_at ht]
      rw [show t.d = .tup [.str t.nm, .str t.one, .str t.oth, od t.lo, od t.hi, .tup (t.pl.map pud)] from rfl]
      simp only [rules, bindG, bindGs, wipeE, placed, Nat.reduceAdd, Nat.reduceSub, Nat.reduceLeDiff, Nat.reduceLT, reduceIte, Int.reduceSub, Int.reduceAdd, Int.reduceMul, isLst_ok i4]
      refine ⟨(), m_index i4 en.1 ?_⟩
      simp only [rules, bindG, bindGs, wipeE, placed, Nat.reduceAdd, Nat.reduceSub, Nat.reduceLeDiff, Nat.reduceLT, reduceIte, Int.reduceSub, Int.reduceAdd, Int.reduceMul, isLst_ok i4]
      refine ⟨(), m_index i4 en.2 ?_⟩
      simp only [rules, bindG, bindGs, wipeE, placed, Nat.reduceAdd, Nat.reduceSub, Nat.reduceLeDiff, Nat.reduceLT, reduceIte, Int.reduceSub, Int.reduceAdd, Int.reduceMul, cd1, at_ps en.1, at_ps en.2]
      rw [show (forB (b39.getD 2 .pass)).drop 4 = CS.ifs _ _ _ :: [CS.ifs _ _ _] from rfl]
      have ll : (((c.strike lot).ts.zipIdx.take i).flatMap fun p => (c.strike lot).legsOf p.2 p.1).length ≤ 2 * i := by
        have := flat_len (f := fun p : Tie × Nat => (c.strike lot).legsOf p.2 p.1) (fun p => legsOf_len) ((c.strike lot).ts.zipIdx.take i)
        have := List.length_take_le i (c.strike lot).ts.zipIdx
        omega
      have st := legs_step (lot := lot) ht
      generalize hls : (((c.strike lot).ts.zipIdx.take i).flatMap fun p => (c.strike lot).legsOf p.2 p.1) = ls at ll st i5
      have fin : ∀ (g2 : MH) (env : Env), env = [some c.d, some (lotD lot), some (.obj h.length), some (.obj h1.length), some (.int (i : Nat)), some (.int (c.ix t.one : Nat)), some (.int (c.ix t.oth : Nat)), some (.int (c.rd t.oth - c.rd t.one)), none, some (.str t.nm), some (.str t.one), some (.str t.oth), some (od t.lo), some (od t.hi), some (.tup (t.pl.map pud))] →
          Ex [] h g2 → g2[h.length]? = some (.lst (c.names.map .str)) → g2[h1.length]? = some (.lst ((ls ++ if i ∈ lot then [] else c.legsOf i t).map lawD)) → invLg c lot h.length h1.length h (rngL ((i : Int) + 1) m) env g2 := fun g2 env e x3 z1 z2 =>
        ⟨i + 1, _, _, _, _, _, _, _, _, _, _, hi, by rw [show c.ts.length - (i + 1) = m by omega]; rfl, e, x3, z1, by rw [z2, st]⟩
      simp only [rules, bindG, bindGs, wipeE, placed, Nat.reduceAdd, Nat.reduceSub, Nat.reduceLeDiff, Nat.reduceLT, reduceIte, Int.reduceSub, Int.reduceAdd, Int.reduceMul, c_niL, isN_od]
      by_cases z : i ∈ lot
      · simp only [decide_eq_true z, rules, bindG, bindGs, wipeE, placed, Nat.reduceAdd, Nat.reduceSub, Nat.reduceLeDiff, Nat.reduceLT, reduceIte, Int.reduceSub, Int.reduceAdd, Int.reduceMul]
        exact fin g _ rfl i3 i4 (by rw [i5, if_pos z, List.append_nil])
      · simp only [decide_eq_false z, rules, bindG, bindGs, wipeE, placed, Nat.reduceAdd, Nat.reduceSub, Nat.reduceLeDiff, Nat.reduceLT, reduceIte, Int.reduceSub, Int.reduceAdd, Int.reduceMul]
        have zf : (if i ∈ lot then [] else c.legsOf i t) = c.legsOf i t := if_neg z
        rw [zf] at fin
        have bd0' : c.bd t 0 = t.hi.map fun b => b - (b - (c.rd t.oth - c.rd t.one)) % c.m := bd0
        have bd1' : c.bd t 1 = t.lo.map fun b => -(b + ((c.rd t.oth - c.rd t.one) - b) % c.m) := by
          rw [bd1]
          congr 1
          funext b
          omega
        cases eh : t.hi with
        | none =>
          rw [eh] at bd0' fin
          simp only [Option.isNone, rules, bindG, bindGs, wipeE, placed, Nat.reduceAdd, Nat.reduceSub, Nat.reduceLeDiff, Nat.reduceLT, reduceIte, Int.reduceSub, Int.reduceAdd, Int.reduceMul]
          cases el : t.lo with
          | none =>
            rw [el] at bd1' fin
            simp only [Option.isNone, rules, bindG, bindGs, wipeE, placed, Nat.reduceAdd, Nat.reduceSub, Nat.reduceLeDiff, Nat.reduceLT, reduceIte, Int.reduceSub, Int.reduceAdd, Int.reduceMul]
            exact fin g _ rfl i3 i4 (by unfold Ch.legsOf; rw [bd0', bd1', i5]; simp)
          | some b =>
            rw [el] at bd1' fin
            simp only [Option.isNone, od, rules, bindG, bindGs, wipeE, placed, Nat.reduceAdd, Nat.reduceSub, Nat.reduceLeDiff, Nat.reduceLT, reduceIte, Int.reduceSub, Int.reduceAdd, Int.reduceMul, isLst_ok i5, cd0]
            refine ⟨(), o_mod.mpr ⟨ok.m, ?_⟩⟩
            try simp only [rules, bindG, bindGs, wipeE, placed, Nat.reduceAdd, Nat.reduceSub, Nat.reduceLeDiff, Nat.reduceLT, reduceIte, Int.reduceSub, Int.reduceAdd, Int.reduceMul]
            refine wp_app1 i5 (line_gt (by rw [List.length_map]; omega)) fun g2 u2 e2 => ?_
            refine fin g2 _ rfl (u2.ex i3 (.inl hl1)) (u2.get i4 (by omega)) ?_
            unfold Ch.legsOf
            rw [bd0', bd1', e2, List.map_append]
            show _ = some (MO.lst (_ ++ [lawD ⟨_, _, _, tagD i 1⟩]))
            rw [lawD_tag]
            rfl
        | some b =>
          rw [eh] at bd0' fin
          simp only [Option.isNone, od, rules, bindG, bindGs, wipeE, placed, Nat.reduceAdd, Nat.reduceSub, Nat.reduceLeDiff, Nat.reduceLT, reduceIte, Int.reduceSub, Int.reduceAdd, Int.reduceMul, isLst_ok i5, cd0]
          refine ⟨(), o_mod.mpr ⟨ok.m, ?_⟩⟩
          try simp only [rules, bindG, bindGs, wipeE, placed, Nat.reduceAdd, Nat.reduceSub, Nat.reduceLeDiff, Nat.reduceLT, reduceIte, Int.reduceSub, Int.reduceAdd, Int.reduceMul]
          refine wp_app1 i5 (line_gt (by rw [List.length_map]; omega)) fun g2 u2 e2 => ?_
          have j3 := u2.ex i3 (.inl hl1)
          have j4 := u2.get i4 (show h.length ≠ h1.length by omega)
          try simp only [rules, bindG, bindGs, wipeE, placed, Nat.reduceAdd, Nat.reduceSub, Nat.reduceLeDiff, Nat.reduceLT, reduceIte, Int.reduceSub, Int.reduceAdd, Int.reduceMul, c_niL, isN_od, decide_eq_false z]
          cases el : t.lo with
          | none =>
            rw [el] at bd1' fin
            simp only [Option.isNone, rules, bindG, bindGs, wipeE, placed, Nat.reduceAdd, Nat.reduceSub, Nat.reduceLeDiff, Nat.reduceLT, reduceIte, Int.reduceSub, Int.reduceAdd, Int.reduceMul]
            refine fin g2 _ rfl j3 j4 ?_
            unfold Ch.legsOf
            rw [bd0', bd1', e2, List.map_append]
            show _ = some (MO.lst (_ ++ [lawD ⟨_, _, _, tagD i 0⟩]))
            rw [lawD_tag]
            rfl
          | some b2 =>
            rw [el] at bd1' fin
            simp only [Option.isNone, od, rules, bindG, bindGs, wipeE, placed, Nat.reduceAdd, Nat.reduceSub, Nat.reduceLeDiff, Nat.reduceLT, reduceIte, Int.reduceSub, Int.reduceAdd, Int.reduceMul, isLst_ok e2, cd0]
            refine ⟨(), o_mod.mpr ⟨ok.m, ?_⟩⟩
            try simp only [rules, bindG, bindGs, wipeE, placed, Nat.reduceAdd, Nat.reduceSub, Nat.reduceLeDiff, Nat.reduceLT, reduceIte, Int.reduceSub, Int.reduceAdd, Int.reduceMul]
            refine wp_app1 e2 (line_gt (by rw [List.length_append, List.length_map, List.length_singleton]; omega)) fun g3 u3 e3 => ?_
            refine fin g3 _ rfl (u3.ex j3 (.inl hl1)) (u3.get j4 (by omega)) ?_
            unfold Ch.legsOf
            rw [bd0', bd1', e3, List.map_append, List.append_assoc]
            show _ = some (MO.lst (_ ++ [lawD ⟨_, _, _, tagD i 0⟩, lawD ⟨_, _, _, tagD i 1⟩]))
            rw [lawD_tag, lawD_tag]
            rfl
  · rintro env g ⟨i, a4, a5, a6, a7, a9, a10, a11, a12, a13, a14, i1, i2, rfl, i3, i4, i5⟩
    have hi : c.ts.length ≤ i := by
      cases em : c.ts.length - i with
      | zero => omega
      | succ m => rw [em, rngL_succ] at i2; cases i2
    refine ⟨Ks.nil, ?_⟩
    rw [show b39.drop 3 = [CS.ret _] from rfl]
    simp only [rules, bindG, bindGs, wipeE, placed, Nat.reduceAdd, Nat.reduceSub, Nat.reduceLeDiff, Nat.reduceLT, reduceIte, Int.reduceSub, Int.reduceAdd, Int.reduceMul]
    refine q g _ hl1 i3 ?_
    rw [i5, List.take_of_length_le (by rw [List.length_zipIdx]; show (c.ts.zipIdx.map (strT lot)).length ≤ i; rw [List.length_map, List.length_zipIdx]; exact hi)]
    rfl
end K76

set_option maxHeartbeats 2000000
/-! MF: the law's table. -/
namespace K76
open Mi
open PySem (Str PyData)
variable {w k : Nat} {h : MH} {Q : D → MH → Prop} {c : Ch}
/-- a table of rows -/
structure TbH (n m tn : Nat) (rs : List Nat) (T : SP.Mat) (h : MH) : Prop where
  len : rs.length = m
  nd : rs.Nodup
  top : h[tn]? = some (MO.lst (rs.map D.obj))
  at_ : ∀ i a, rs[i]? = some a → h[a]? = some (MO.lst (rowD n fun j => od (T i j)))
  nt : tn ∉ rs
theorem TbH.frame {n m tn : Nat} {rs : List Nat} {T : SP.Mat} {h h' : MH} (t : TbH n m tn rs T h) (x : Ex [] h h') : TbH n m tn rs T h' :=
  ⟨t.len, t.nd, x.at0 t.top, fun i a e => x.at0 (t.at_ i a e), t.nt⟩
theorem TbH.row {n m tn : Nat} {rs : List Nat} {T : SP.Mat} {h : MH} (t : TbH n m tn rs T h) {i : Nat} (hi : i < m) : ∃ a, rs[i]? = some a ∧ idxD (.obj tn) (.int (i : Nat)) h = some (.obj a) ∧ (∀ j, j < n → idxD (.obj a) (.int (j : Nat)) h = some (od (T i j))) ∧ h[a]? = some (.lst (rowD n fun j => od (T i j))) := by
  have hl : i < rs.length := by rw [t.len]; exact hi
  have e : rs[i]? = some rs[i] := List.getElem?_eq_getElem hl
  refine ⟨rs[i], e, ?_, fun j hj => ?_, t.at_ i _ e⟩
  · rw [ix_lst t.top, at_nat' (by rw [List.length_map]; exact hl), List.getElem?_map, e]
    rfl
  · rw [ix_lst (t.at_ i _ e), rowD_at hj]
theorem TbH.upd {n m tn i j a : Nat} {x : Int} {rs : List Nat} {T : SP.Mat} {h h' : MH} (t : TbH n m tn rs T h) (hi : rs[i]? = some a) (u : Upd a h h') (e : h'[a]? = some (.lst ((rowD n fun j => od (T i j)).set j (.int x)))) : TbH n m tn rs (SP.up2 T i j (some x)) h' := by
  refine ⟨t.len, t.nd, u.get t.top (fun z => t.nt (z ▸ List.mem_of_getElem? hi)), fun i' a' hi' => ?_, t.nt⟩
  by_cases z : i' = i
  · subst z
    rw [hi] at hi'
    cases hi'
    rw [e, rowD_set]
    congr 2
    refine rowD_congr fun v hv => ?_
    unfold SP.up SP.up2
    by_cases y : v = j
    · rw [if_pos y, if_pos ⟨rfl, y⟩]
      rfl
    · rw [if_neg y, if_neg (fun z => y z.2)]
  · have na : a' ≠ a := by
      intro y
      subst y
      obtain ⟨l1, g1⟩ := List.getElem?_eq_some_iff.mp hi
      obtain ⟨l2, g2⟩ := List.getElem?_eq_some_iff.mp hi'
      have nd := t.nd
      rw [List.nodup_iff_pairwise_ne, List.pairwise_iff_getElem] at nd
      rcases Nat.lt_or_gt_of_ne z with y | y
      · exact nd i' i l2 l1 y (g2.trans g1.symm)
      · exact nd i i' l1 l2 y (g1.trans g2.symm)
    rw [u.get (t.at_ i' a' hi') na]
    congr 2
    refine rowD_congr fun v hv => ?_
    unfold SP.up2
    rw [if_neg (fun y => z y.1)]
theorem o_repN {n : Nat} (hn : n ≤ 900) {m : Nat} (e : h[m]? = some (.lst [.non])) (q : Q (.obj h.length) (h ++ [.lst (rowD n fun _ => .non)])) : wp (binD .mul (.obj m) (.int (n : Nat))) h Q := by
  refine o_repL e (by omega) (by decide) ?_
  rw [rowD_rep]
  exact q
theorem up2_low {T : SP.Mat} {i j : Nat} {b : Int} (e : T i j = none ∨ ∃ y, T i j = some y ∧ b < y) : SP.up2 T i j (some b) = SP.low T i j b := by
  unfold SP.low SP.lowO
  rcases e with e | ⟨y, e, hy⟩
  · rw [e]
  · rw [e]
    dsimp only
    rw [if_pos hy]
def invT1 (n tn : Nat) (h0 : MH) (e1 : Option D) (ds : List D) (env : Env) (h' : MH) : Prop := ∃ (rs : List Nat) (a3 a5 : Option D), rs.length ≤ n ∧ ds = rngL (rs.length : Nat) (n - rs.length) ∧ (∀ a ∈ rs, tn < a ∧ a < h'.length) ∧ TbH n rs.length tn rs SP.tab0 h' ∧
  env = [some (.int (n : Nat)), e1, some (.obj tn), a3, none, a5, none, none, none, none, none, none, none, none] ∧ Ex [] h0 h'
def invT2 (n tn : Nat) (ls : List Leg) (ln : Nat) (h0 : MH) (rs : List Nat) (F : SP.Mat) (e3 e5 : Option D) (ds : List D) (env : Env) (h' : MH) : Prop := ∃ (todo : List Leg) (T : SP.Mat) (a6 a7 a8 a9 a10 : Option D), ds = todo.map lawD ∧ (∀ l ∈ todo, l ∈ ls) ∧ SP.tabL (gs todo) T = F ∧ TbH n n tn rs T h' ∧
  env = [some (.int (n : Nat)), some (.obj ln), some (.obj tn), e3, none, e5, a6, a7, a8, a9, a10, none, none, none] ∧ h'[ln]? = some (.lst (ls.map lawD)) ∧ Ex [] h0 h'
def invT3 (n tn : Nat) (L : List SP.Lg) (h0 : MH) (rs : List Nat) (e1 e3 e5 e6 e7 e8 e9 e10 : Option D) (ds : List D) (env : Env) (h' : MH) : Prop := ∃ (by_ : Nat) (T : SP.Mat) (a4 a11 a12 a13 : Option D), by_ ≤ n ∧ ds = rngL (by_ : Nat) (n - by_) ∧ SP.Tab L n by_ T ∧ TbH n n tn rs T h' ∧
  env = [some (.int (n : Nat)), e1, some (.obj tn), e3, a4, e5, e6, e7, e8, e9, e10, a11, a12, a13] ∧ Ex [] h0 h'
def invT4 (n tn : Nat) (h0 : MH) (rs : List Nat) (e1 e3 e4 e5 e6 e7 e8 e9 e10 : Option D) (f : SP.Mat → Nat → SP.Mat) (F : SP.Mat) (ds : List D) (env : Env) (h' : MH) : Prop := ∃ (todo : List Nat) (T : SP.Mat) (a11 a12 a13 : Option D), (∀ x ∈ todo, x < n) ∧ ds = nats todo ∧ todo.foldl f T = F ∧ TbH n n tn rs T h' ∧
  env = [some (.int (n : Nat)), e1, some (.obj tn), e3, e4, e5, e6, e7, e8, e9, e10, a11, a12, a13] ∧ Ex [] h0 h'
def invT5 (n tn : Nat) (h0 : MH) (rs : List Nat) (e1 e3 e4 e5 e6 e7 e8 e9 e10 e11 : Option D) (f : SP.Mat → Nat → SP.Mat) (F : SP.Mat) (ds : List D) (env : Env) (h' : MH) : Prop := ∃ (todo : List Nat) (T : SP.Mat) (a12 a13 : Option D), (∀ x ∈ todo, x < n) ∧ ds = nats todo ∧ todo.foldl f T = F ∧ TbH n n tn rs T h' ∧
  env = [some (.int (n : Nat)), e1, some (.obj tn), e3, e4, e5, e6, e7, e8, e9, e10, e11, a12, a13] ∧ Ex [] h0 h'
def invT6 (n tn : Nat) (h0 : MH) (rs : List Nat) (e1 e4 e5 e6 e7 e8 e9 e10 e11 e12 e13 : Option D) (T : SP.Mat) (ds : List D) (env : Env) (h' : MH) : Prop := ∃ (i : Nat) (a3 : Option D), i ≤ n ∧ ds = rngL (i : Nat) (n - i) ∧ (∀ x, x < i → ∀ z, T x x = some z → 0 ≤ z) ∧ TbH n n tn rs T h' ∧
  env = [some (.int (n : Nat)), e1, some (.obj tn), a3, e4, e5, e6, e7, e8, e9, e10, e11, e12, e13] ∧ Ex [] h0 h'
theorem p_lawtable {ln n : Nat} {ls : List Leg} (hl : h[ln]? = some (.lst (ls.map lawD))) (hn : n ≤ 900) (hu : ∀ l ∈ ls, l.u < n ∧ l.v < n) (ht : ∀ l ∈ ls, ∃ i y, l.tag = tagD i y)
    (q1 : ∀ h', SP.Neg (gs ls) → Ex [] h h' → Q .non h')
    (q2 : ∀ h' tn rs T, ¬ SP.Neg (gs ls) → (∀ u v, u < n → v < n → SP.Dist (gs ls) u v (T u v)) → TbH n n tn rs T h' → Ex [] h h' → Q (.obj tn) h') :
    wp (Gn cds w (k + 1) 40 [.int (n : Nat), .obj ln]) h Q := by
  rw [g40, w_run]
  refine ⟨rfl, ?_⟩
  rw [show b40 = CS.set _ _ :: CS.for _ _ (forB (b40.getD 1 .pass)) :: b40.drop 2 from rfl, s_cons]
  simp only [rules, bindG, bindGs, wipeE, placed, Nat.reduceAdd, Nat.reduceSub, Nat.reduceLeDiff, Nat.reduceLT, reduceIte, Int.reduceSub, Int.reduceAdd, Int.reduceMul]
  rw [w_rng1']
  simp only [rules, bindG, bindGs, wipeE, placed, Nat.reduceAdd, Nat.reduceSub, Nat.reduceLeDiff, Nat.reduceLT, reduceIte, Int.reduceSub, Int.reduceAdd, Int.reduceMul]
  refine ⟨_, rfl, w62 (by omega) (by omega), ?_⟩
  rw [Int.toNat_natCast]
  refine wp_for (Inv := invT1 n h.length h (some (.obj ln))) ?_ ?_ ⟨[], _, _, Nat.zero_le _, rfl, (fun a ha => nomatch ha), ⟨rfl, List.nodup_nil, List.getElem?_concat_length .., (fun i a e => nomatch e), List.not_mem_nil⟩, rfl, Ex.app⟩
  · rintro d ds env h1 ⟨rs, a3, a5, i1, i2, i3, i4, rfl, i5⟩
    cases em : n - rs.length with
    | zero => rw [em] at i2; cases i2
    | succ m =>
      rw [em, rngL_succ, List.cons.injEq] at i2
      obtain ⟨rfl, rfl⟩ := i2
      have h01 := i5.1
      have htn : h.length < h1.length := (List.getElem?_eq_some_iff.mp i4.top).1
      refine ⟨Ks.nil, _, rfl, ?_⟩
      rw [show forB (b40.getD 1 .pass) = CS.set _ _ :: CS.put _ _ _ :: [CS.exp _] from rfl]
      simp only [rules, bindG, bindGs, wipeE, placed, Nat.reduceAdd, Nat.reduceSub, Nat.reduceLeDiff, Nat.reduceLT, reduceIte, Int.reduceSub, Int.reduceAdd, Int.reduceMul]
      refine o_repN hn (List.getElem?_concat_length ..) ?_
      try simp only [rules, bindG, bindGs, wipeE, placed, Nat.reduceAdd, Nat.reduceSub, Nat.reduceLeDiff, Nat.reduceLT, reduceIte, Int.reduceSub, Int.reduceAdd, Int.reduceMul]
      have gl : (h1 ++ [MO.lst [D.non]]).length = h1.length + 1 := by rw [List.length_append]; rfl
      have E1 : (h1 ++ [MO.lst [D.non]] ++ [MO.lst (rowD n fun _ => D.non)])[h1.length + 1]? = some (.lst (rowD n fun _ => D.non)) := by rw [← gl, List.getElem?_concat_length]
      have X1 : Ex [] h1 (h1 ++ [MO.lst [D.non]] ++ [MO.lst (rowD n fun _ => D.non)]) := by rw [List.append_assoc]; exact Ex.app
      have L1 : (h1 ++ [MO.lst [D.non]] ++ [MO.lst (rowD n fun _ => D.non)]).length = h1.length + 2 := by rw [List.length_append, gl]; rfl
      try rw [gl]
      generalize h1 ++ [MO.lst [D.non]] ++ [MO.lst (rowD n fun _ => D.non)] = h2 at E1 X1 L1 ⊢
      refine wp_put1 E1 (j := rs.length) (by rw [rowD_len, ixN_nat (by omega) (by omega)]; rfl) fun h3 u3 e3 => ?_
      have t3 := i4.frame (u3.ex X1 (.inl (by omega)))
      try simp only [rules, bindG, bindGs, wipeE, placed, Nat.reduceAdd, Nat.reduceSub, Nat.reduceLeDiff, Nat.reduceLT, reduceIte, Int.reduceSub, Int.reduceAdd, Int.reduceMul, isLst_ok t3.top]
      refine ⟨(), wp_app1 t3.top (line_gt (by rw [List.length_map]; omega)) fun h4 u4 e4 => ?_⟩
      have l3 := u3.len
      have l4 := u4.len
      refine ⟨rs ++ [h1.length + 1], _, _, by rw [List.length_append, List.length_singleton]; omega, by rw [List.length_append, List.length_singleton, show n - (rs.length + 1) = m by omega]; rfl, ?_, ⟨rfl, ?_, ?_, ?_, ?_⟩, rfl, u4.ex (u3.ex (i5.trans X1) (.inl (by omega))) (.inl (Nat.le_refl _))⟩
      · intro a ha
        rcases List.mem_append.mp ha with z | z
        · have := i3 a z
          omega
        · rw [List.mem_singleton.mp z]
          omega
      · rw [List.nodup_append]
        refine ⟨i4.nd, List.nodup_cons.mpr ⟨List.not_mem_nil, List.nodup_nil⟩, fun a ha b hb => ?_⟩
        rw [List.mem_singleton.mp hb]
        have := i3 a ha
        omega
      · rw [e4, List.map_append]
        rfl
      · intro i a e
        by_cases z : i < rs.length
        · rw [List.getElem?_append_left z] at e
          have := i3 a (List.mem_of_getElem? e)
          exact u4.get (t3.at_ i a e) (by omega)
        · rw [List.getElem?_append_right (by omega)] at e
          have hi2 : i = rs.length := by
            have := (List.getElem?_eq_some_iff.mp e).1
            simp at this
            omega
          subst hi2
          rw [Nat.sub_self] at e
          cases e
          rw [u4.get e3 (by omega), rowD_set]
          congr 2
          refine rowD_congr fun v hv => ?_
          unfold SP.up SP.tab0
          by_cases y : v = rs.length
          · rw [if_pos y, if_pos y.symm]
            rfl
          · rw [if_neg y, if_neg (fun z => y z.symm)]
            rfl
      · intro z
        rcases List.mem_append.mp z with z | z
        · exact i4.nt z
        · have := List.mem_singleton.mp z
          omega
  · rintro env h1 ⟨rs, a3, a5, i1, i2, i3, i4, rfl, i5⟩
    have rl : rs.length = n := by
      cases em : n - rs.length with
      | zero => omega
      | succ m => rw [em, rngL_succ] at i2; cases i2
    rw [rl] at i4
    refine ⟨Ks.nil, ?_⟩
    rw [show b40.drop 2 = CS.for _ _ (forB (b40.getD 2 .pass)) :: b40.drop 3 from rfl]
    simp only [rules, bindG, bindGs, wipeE, placed, Nat.reduceAdd, Nat.reduceSub, Nat.reduceLeDiff, Nat.reduceLT, reduceIte, Int.reduceSub, Int.reduceAdd, Int.reduceMul]
    rw [wp_items_obj]
    refine ⟨_, lstAt_iff.mpr (i5.at0 hl), ?_⟩
    dsimp only
    refine wp_for (Inv := invT2 n h.length ls ln h rs (SP.tabL (gs ls) SP.tab0) a3 a5) ?_ ?_ ⟨ls, SP.tab0, _, _, _, _, _, rfl, fun l hl => hl, rfl, i4, rfl, i5.at0 hl, i5⟩
    · rintro d ds env h2 ⟨todo, T, a6, a7, a8, a9, a10, j1, j2, j3, j4, rfl, j5, j6⟩
      cases todo with
      | nil => cases j1
      | cons l todo =>
      rw [List.map_cons, List.cons.injEq] at j1
      obtain ⟨rfl, rfl⟩ := j1
      have hm := j2 l (List.mem_cons_self ..)
      obtain ⟨ti, ty, et⟩ := ht l hm
      obtain ⟨hu1, hv1⟩ := hu l hm
      have ed : lawD l = .tup [.int (l.u : Nat), .int (l.v : Nat), .int l.b, .int (ti : Nat), .int (ty : Nat)] := by
        unfold lawD
        rw [et]
        rfl
      obtain ⟨a, ra, e1, e2, e3⟩ := j4.row hu1
      refine ⟨Ks.one j5, _, by rw [ed]; rfl, ?_⟩
      rw [show forB (b40.getD 2 .pass) = [CS.ifs _ _ _] from rfl]
      simp only [rules, bindG, bindGs, wipeE, placed, Nat.reduceAdd, Nat.reduceSub, Nat.reduceLeDiff, Nat.reduceLT, reduceIte, Int.reduceSub, Int.reduceAdd, Int.reduceMul, e1, e2 _ hv1, isN_od]
      have lna : ln ≠ a := by
        intro z
        have b1 : a ∈ rs := List.mem_of_getElem? ra
        have b2 := (i3 a b1).1
        have b3 : ln < h.length := (List.getElem?_eq_some_iff.mp hl).1
        omega
      have j3' : SP.tabL (gs todo) (SP.low T l.u l.v l.b) = SP.tabL (gs ls) SP.tab0 := j3
      have put : (T l.u l.v = none ∨ ∃ y, T l.u l.v = some y ∧ l.b < y) →
          wp (putD (.obj a) (.int (l.v : Nat)) (.int l.b)) h2 fun _ h' => invT2 n h.length ls ln h rs (SP.tabL (gs ls) SP.tab0) a3 a5 (todo.map lawD) [some (.int (n : Nat)), some (.obj ln), some (.obj h.length), a3, none, a5, some (.int (l.u : Nat)), some (.int (l.v : Nat)), some (.int l.b), some (.int (ti : Nat)), some (.int (ty : Nat)), none, none, none] h' := fun hc => by
        refine wp_put1 e3 (j := l.v) (by rw [rowD_len, ixN_nat (by omega) (by omega)]; rfl) fun h3 u3 g3 => ?_
        exact ⟨todo, _, _, _, _, _, _, rfl, fun l' hl' => j2 l' (List.mem_cons_of_mem _ hl'), by rw [up2_low hc]; exact j3', j4.upd ra u3 g3, rfl, u3.get j5 lna, u3.ex j6 (.inl (by have := (i3 a (List.mem_of_getElem? ra)).1; omega))⟩
      cases eT : T l.u l.v with
      | none =>
        simp only [Option.isNone, rules, bindG, bindGs, wipeE, placed, Nat.reduceAdd, Nat.reduceSub, Nat.reduceLeDiff, Nat.reduceLT, reduceIte, Int.reduceSub, Int.reduceAdd, Int.reduceMul, e1]
        exact put (.inl eT)
      | some y =>
        simp only [Option.isNone, od, rules, bindG, bindGs, wipeE, placed, Nat.reduceAdd, Nat.reduceSub, Nat.reduceLeDiff, Nat.reduceLT, reduceIte, Int.reduceSub, Int.reduceAdd, Int.reduceMul]
        by_cases z : l.b < y
        · simp only [decide_eq_true z, rules, bindG, bindGs, wipeE, placed, Nat.reduceAdd, Nat.reduceSub, Nat.reduceLeDiff, Nat.reduceLT, reduceIte, Int.reduceSub, Int.reduceAdd, Int.reduceMul, e1]
          exact put (.inr ⟨y, eT, z⟩)
        · simp only [decide_eq_false z, rules, bindG, bindGs, wipeE, placed, Nat.reduceAdd, Nat.reduceSub, Nat.reduceLeDiff, Nat.reduceLT, reduceIte, Int.reduceSub, Int.reduceAdd, Int.reduceMul]
          refine ⟨todo, T, _, _, _, _, _, rfl, fun l' hl' => j2 l' (List.mem_cons_of_mem _ hl'), ?_, j4, rfl, j5, j6⟩
          rw [SP.low_id eT z] at j3'
          exact j3'
    · rintro env h2 ⟨todo, T, a6, a7, a8, a9, a10, j1, j2, j3, j4, rfl, j5, j6⟩
      cases todo with
      | cons l todo => cases j1
      | nil =>
      replace j3 : T = SP.tabL (gs ls) SP.tab0 := j3
      have hug : ∀ l ∈ gs ls, l.u < n ∧ l.v < n := fun l hl => by
        obtain ⟨l', hl', rfl⟩ := List.mem_map.mp hl
        exact hu l' hl'
      have tb0 : SP.Tab (gs ls) n 0 T := by rw [j3]; exact SP.tab_start
      refine ⟨Ks.one j5, ?_⟩
      rw [show b40.drop 3 = CS.for _ _ (forB (b40.getD 3 .pass)) :: b40.drop 4 from rfl]
      simp only [rules, bindG, bindGs, wipeE, placed, Nat.reduceAdd, Nat.reduceSub, Nat.reduceLeDiff, Nat.reduceLT, reduceIte, Int.reduceSub, Int.reduceAdd, Int.reduceMul]
      rw [w_rng1']
      simp only [rules, bindG, bindGs, wipeE, placed, Nat.reduceAdd, Nat.reduceSub, Nat.reduceLeDiff, Nat.reduceLT, reduceIte, Int.reduceSub, Int.reduceAdd, Int.reduceMul]
      refine ⟨_, rfl, w62 (by omega) (by omega), ?_⟩
      rw [Int.toNat_natCast]
      have rsl : ∀ {i a : Nat}, rs[i]? = some a → h.length < a := fun e => (i3 _ (List.mem_of_getElem? e)).1
      refine wp_for (Inv := invT3 n h.length (gs ls) h rs (some (.obj ln)) a3 a5 a6 a7 a8 a9 a10) ?_ ?_ ⟨0, T, _, _, _, _, Nat.zero_le _, rfl, tb0, j4, rfl, j6⟩
      · rintro d ds env h3 ⟨b, T, a4, a11, a12, a13, k1, k2, k3, k4, rfl, k5⟩
        cases em : n - b with
        | zero => rw [em] at k2; cases k2
        | succ m =>
        rw [em, rngL_succ, List.cons.injEq] at k2
        obtain ⟨rfl, rfl⟩ := k2
        have hb : b < n := by omega
        refine ⟨Ks.nil, _, rfl, ?_⟩
        rw [show forB (b40.getD 3 .pass) = CS.for _ _ (forB ((forB (b40.getD 3 .pass)).getD 0 .pass)) :: (forB (b40.getD 3 .pass)).drop 1 from rfl]
        simp only [rules, bindG, bindGs, wipeE, placed, Nat.reduceAdd, Nat.reduceSub, Nat.reduceLeDiff, Nat.reduceLT, reduceIte, Int.reduceSub, Int.reduceAdd, Int.reduceMul]
        rw [w_rng1']
        simp only [rules, bindG, bindGs, wipeE, placed, Nat.reduceAdd, Nat.reduceSub, Nat.reduceLeDiff, Nat.reduceLT, reduceIte, Int.reduceSub, Int.reduceAdd, Int.reduceMul]
        refine ⟨_, rfl, w62 (by omega) (by omega), ?_⟩
        rw [Int.toNat_natCast, rngL_nats]
        refine wp_for (Inv := invT4 n h.length h rs (some (.obj ln)) a3 (some (.int (b : Nat))) a5 a6 a7 a8 a9 a10 (fun T i => SP.rowF n b i T) (SP.midF n b T)) ?_ ?_ ⟨List.range n, T, _, _, _, fun x hx => List.mem_range.mp hx, rfl, rfl, k4, rfl, k5⟩
        · rintro d ds env h4 ⟨todo, T4, b11, b12, b13, l1, l2, l3, l4, rfl, l5⟩
          cases todo with
          | nil => cases l2
          | cons i todo =>
          unfold nats at l2
          rw [List.map_cons, List.cons.injEq] at l2
          obtain ⟨rfl, rfl⟩ := l2
          have hi := l1 i (List.mem_cons_self ..)
          refine ⟨Ks.nil, _, rfl, ?_⟩
          rw [show forB ((forB (b40.getD 3 .pass)).getD 0 .pass) = [CS.for _ _ (forB ((forB ((forB (b40.getD 3 .pass)).getD 0 .pass)).getD 0 .pass))] from rfl]
          simp only [rules, bindG, bindGs, wipeE, placed, Nat.reduceAdd, Nat.reduceSub, Nat.reduceLeDiff, Nat.reduceLT, reduceIte, Int.reduceSub, Int.reduceAdd, Int.reduceMul]
          rw [w_rng1']
          simp only [rules, bindG, bindGs, wipeE, placed, Nat.reduceAdd, Nat.reduceSub, Nat.reduceLeDiff, Nat.reduceLT, reduceIte, Int.reduceSub, Int.reduceAdd, Int.reduceMul]
          refine ⟨_, rfl, w62 (by omega) (by omega), ?_⟩
          rw [Int.toNat_natCast, rngL_nats]
          refine wp_for (Inv := invT5 n h.length h rs (some (.obj ln)) a3 (some (.int (b : Nat))) a5 a6 a7 a8 a9 a10 (some (.int (i : Nat))) (fun T j => SP.stp T b i j) (SP.rowF n b i T4)) ?_ ?_ ⟨List.range n, T4, _, _, fun x hx => List.mem_range.mp hx, rfl, rfl, l4, rfl, l5⟩
          · rintro d ds env h5 ⟨todo5, T5, c12, c13, m1, m2, m3, m4, rfl, m5⟩
            cases todo5 with
            | nil => cases m2
            | cons j todo5 =>
            unfold nats at m2
            rw [List.map_cons, List.cons.injEq] at m2
            obtain ⟨rfl, rfl⟩ := m2
            have hj := m1 j (List.mem_cons_self ..)
            have m1' := fun x hx => m1 x (List.mem_cons_of_mem j hx)
            replace m3 : todo5.foldl (fun T j => SP.stp T b i j) (SP.stp T5 b i j) = SP.rowF n b i T4 := m3
            obtain ⟨a1, r1, p1, p2, p3⟩ := m4.row hi
            obtain ⟨a2, r2, s1, s2, s3⟩ := m4.row hb
            refine ⟨Ks.nil, _, rfl, ?_⟩
            rw [show forB ((forB ((forB (b40.getD 3 .pass)).getD 0 .pass)).getD 0 .pass) = [CS.ifs _ [CS.set _ _, CS.ifs _ _ _] _] from rfl]
            simp only [rules, bindG, bindGs, wipeE, placed, Nat.reduceAdd, Nat.reduceSub, Nat.reduceLeDiff, Nat.reduceLT, reduceIte, Int.reduceSub, Int.reduceAdd, Int.reduceMul, p1, p2 _ hb, s1, s2 _ hj, isN_od]
            cases e1 : T5 i b with
            | none =>
              simp only [Option.isNone, rules, bindG, bindGs, wipeE, placed, Nat.reduceAdd, Nat.reduceSub, Nat.reduceLeDiff, Nat.reduceLT, reduceIte, Int.reduceSub, Int.reduceAdd, Int.reduceMul]
              have : SP.stp T5 b i j = T5 := by unfold SP.stp; rw [e1]
              rw [this] at m3
              exact ⟨todo5, T5, _, _, m1', rfl, m3, m4, rfl, m5⟩
            | some x =>
              simp only [Option.isNone, rules, bindG, bindGs, wipeE, placed, Nat.reduceAdd, Nat.reduceSub, Nat.reduceLeDiff, Nat.reduceLT, reduceIte, Int.reduceSub, Int.reduceAdd, Int.reduceMul]
              cases e2 : T5 b j with
              | none =>
                simp only [Option.isNone, rules, bindG, bindGs, wipeE, placed, Nat.reduceAdd, Nat.reduceSub, Nat.reduceLeDiff, Nat.reduceLT, reduceIte, Int.reduceSub, Int.reduceAdd, Int.reduceMul]
                have : SP.stp T5 b i j = T5 := by unfold SP.stp; rw [e1, e2]
                rw [this] at m3
                exact ⟨todo5, T5, _, _, m1', rfl, m3, m4, rfl, m5⟩
              | some y =>
                have est : SP.stp T5 b i j = SP.low T5 i j (x + y) := by unfold SP.stp; rw [e1, e2]
                rw [est] at m3
                simp only [Option.isNone, od, rules, bindG, bindGs, wipeE, placed, Nat.reduceAdd, Nat.reduceSub, Nat.reduceLeDiff, Nat.reduceLT, reduceIte, Int.reduceSub, Int.reduceAdd, Int.reduceMul, p1, p2 _ hj, isN_od]
                have put : (T5 i j = none ∨ ∃ z, T5 i j = some z ∧ x + y < z) →
                    wp (putD (.obj a1) (.int (j : Nat)) (.int (x + y))) h5 fun _ h' => invT5 n h.length h rs (some (.obj ln)) a3 (some (.int (b : Nat))) a5 a6 a7 a8 a9 a10 (some (.int (i : Nat))) (fun T j => SP.stp T b i j) (SP.rowF n b i T4) (todo5.map fun i => .int (i : Nat)) [some (.int (n : Nat)), some (.obj ln), some (.obj h.length), a3, some (.int (b : Nat)), a5, a6, a7, a8, a9, a10, some (.int (i : Nat)), some (.int (j : Nat)), some (.int (x + y))] h' := fun hc => by
                  refine wp_put1 p3 (j := j) (by rw [rowD_len, ixN_nat (by omega) (by omega)]; rfl) fun h6 u6 g6 => ?_
                  exact ⟨todo5, _, _, _, m1', rfl, by rw [up2_low hc]; exact m3, m4.upd r1 u6 g6, rfl, u6.ex m5 (.inl (by have := rsl r1; omega))⟩
                cases eT : T5 i j with
                | none =>
                  simp only [Option.isNone, rules, bindG, bindGs, wipeE, placed, Nat.reduceAdd, Nat.reduceSub, Nat.reduceLeDiff, Nat.reduceLT, reduceIte, Int.reduceSub, Int.reduceAdd, Int.reduceMul]
                  exact put (.inl eT)
                | some z =>
                  simp only [Option.isNone, od, rules, bindG, bindGs, wipeE, placed, Nat.reduceAdd, Nat.reduceSub, Nat.reduceLeDiff, Nat.reduceLT, reduceIte, Int.reduceSub, Int.reduceAdd, Int.reduceMul]
                  by_cases zz : x + y < z
                  · simp only [decide_eq_true zz, rules, bindG, bindGs, wipeE, placed, Nat.reduceAdd, Nat.reduceSub, Nat.reduceLeDiff, Nat.reduceLT, reduceIte, Int.reduceSub, Int.reduceAdd, Int.reduceMul]
                    exact put (.inr ⟨z, eT, zz⟩)
                  · simp only [decide_eq_false zz, rules, bindG, bindGs, wipeE, placed, Nat.reduceAdd, Nat.reduceSub, Nat.reduceLeDiff, Nat.reduceLT, reduceIte, Int.reduceSub, Int.reduceAdd, Int.reduceMul]
                    rw [SP.low_id eT zz] at m3
                    exact ⟨todo5, T5, _, _, m1', rfl, m3, m4, rfl, m5⟩
          · rintro env h5 ⟨todo5, T5, c12, c13, m1, m2, m3, m4, rfl, m5⟩
            cases todo5 with
            | cons j todo5 => cases m2
            | nil =>
            refine ⟨Ks.nil, ?_⟩
            simp only [rules, bindG, bindGs, wipeE, placed, Nat.reduceAdd, Nat.reduceSub, Nat.reduceLeDiff, Nat.reduceLT, reduceIte, Int.reduceSub, Int.reduceAdd, Int.reduceMul]
            replace m3 : T5 = SP.rowF n b i T4 := m3
            subst m3
            exact ⟨todo, _, _, _, _, fun x hx => l1 x (List.mem_cons_of_mem _ hx), rfl, l3, m4, rfl, m5⟩
        · rintro env h4 ⟨todo, T4, b11, b12, b13, l1, l2, l3, l4, rfl, l5⟩
          cases todo with
          | cons i todo => cases l2
          | nil =>
          replace l3 : T4 = SP.midF n b T := l3
          obtain ⟨a1, r1, p1, p2, p3⟩ := l4.row hb
          obtain ⟨e0, f0, f1⟩ := k3.diag b hb
          obtain ⟨e, f2, f3⟩ := SP.midF_le (n := n) (k := b) (T := T) b b e0 f0
          refine ⟨Ks.nil, ?_⟩
          rw [show (forB (b40.getD 3 .pass)).drop 1 = [CS.ifs _ _ _] from rfl]
          simp only [rules, bindG, bindGs, wipeE, placed, Nat.reduceAdd, Nat.reduceSub, Nat.reduceLeDiff, Nat.reduceLT, reduceIte, Int.reduceSub, Int.reduceAdd, Int.reduceMul, p1, p2 _ hb]
          rw [← l3] at f2
          rw [f2]
          simp only [od, rules, bindG, bindGs, wipeE, placed, Nat.reduceAdd, Nat.reduceSub, Nat.reduceLeDiff, Nat.reduceLT, reduceIte, Int.reduceSub, Int.reduceAdd, Int.reduceMul]
          by_cases z : e < 0
          · simp only [decide_eq_true z, rules, bindG, bindGs, wipeE, placed, Nat.reduceAdd, Nat.reduceSub, Nat.reduceLeDiff, Nat.reduceLT, reduceIte, Int.reduceSub, Int.reduceAdd, Int.reduceMul]
            rw [l3] at f2
            exact q1 h4 (SP.Tab.neg (SP.midF_wk k3.wk) f2 z) l5
          · simp only [decide_eq_false z, rules, bindG, bindGs, wipeE, placed, Nat.reduceAdd, Nat.reduceSub, Nat.reduceLeDiff, Nat.reduceLT, reduceIte, Int.reduceSub, Int.reduceAdd, Int.reduceMul]
            refine ⟨b + 1, T4, _, _, _, _, hb, by rw [show n - (b + 1) = m by omega]; rfl, ?_, l4, rfl, l5⟩
            rw [l3]
            refine k3.mid hb fun y hy => ?_
            rw [f0] at hy
            cases hy
            omega
      · rintro env h3 ⟨b, T, a4, a11, a12, a13, k1, k2, k3, k4, rfl, k5⟩
        have hbn : b = n := by
          cases em : n - b with
          | zero => omega
          | succ m => rw [em, rngL_succ] at k2; cases k2
        subst hbn
        refine ⟨Ks.nil, ?_⟩
        rw [show b40.drop 4 = CS.for _ _ (forB (b40.getD 4 .pass)) :: b40.drop 5 from rfl]
        simp only [rules, bindG, bindGs, wipeE, placed, Nat.reduceAdd, Nat.reduceSub, Nat.reduceLeDiff, Nat.reduceLT, reduceIte, Int.reduceSub, Int.reduceAdd, Int.reduceMul]
        rw [w_rng1']
        simp only [rules, bindG, bindGs, wipeE, placed, Nat.reduceAdd, Nat.reduceSub, Nat.reduceLeDiff, Nat.reduceLT, reduceIte, Int.reduceSub, Int.reduceAdd, Int.reduceMul]
        refine ⟨_, rfl, w62 (by omega) (by omega), ?_⟩
        rw [Int.toNat_natCast]
        refine wp_for (Inv := invT6 b h.length h rs (some (.obj ln)) a4 a5 a6 a7 a8 a9 a10 a11 a12 a13 T) ?_ ?_ ⟨0, _, Nat.zero_le _, rfl, fun x hx => absurd hx (Nat.not_lt_zero _), k4, rfl, k5⟩
        · rintro d ds env h4 ⟨i, b3, l1, l2, l3, l4, rfl, l5⟩
          cases em : b - i with
          | zero => rw [em] at l2; cases l2
          | succ m =>
          rw [em, rngL_succ, List.cons.injEq] at l2
          obtain ⟨rfl, rfl⟩ := l2
          have hi : i < b := by omega
          obtain ⟨a1, r1, p1, p2, p3⟩ := l4.row hi
          obtain ⟨e, f0, f1⟩ := k3.diag i hi
          refine ⟨Ks.nil, _, rfl, ?_⟩
          rw [show forB (b40.getD 4 .pass) = [CS.ifs _ _ _] from rfl]
          simp only [rules, bindG, bindGs, wipeE, placed, Nat.reduceAdd, Nat.reduceSub, Nat.reduceLeDiff, Nat.reduceLT, reduceIte, Int.reduceSub, Int.reduceAdd, Int.reduceMul, p1, p2 _ hi]
          rw [f0]
          simp only [od, rules, bindG, bindGs, wipeE, placed, Nat.reduceAdd, Nat.reduceSub, Nat.reduceLeDiff, Nat.reduceLT, reduceIte, Int.reduceSub, Int.reduceAdd, Int.reduceMul]
          by_cases z : e < 0
          · simp only [decide_eq_true z, rules, bindG, bindGs, wipeE, placed, Nat.reduceAdd, Nat.reduceSub, Nat.reduceLeDiff, Nat.reduceLT, reduceIte, Int.reduceSub, Int.reduceAdd, Int.reduceMul]
            exact q1 h4 (SP.Tab.neg k3.wk f0 z) l5
          · simp only [decide_eq_false z, rules, bindG, bindGs, wipeE, placed, Nat.reduceAdd, Nat.reduceSub, Nat.reduceLeDiff, Nat.reduceLT, reduceIte, Int.reduceSub, Int.reduceAdd, Int.reduceMul]
            refine ⟨i + 1, _, hi, by rw [show b - (i + 1) = m by omega]; rfl, fun x hx y hy => ?_, l4, rfl, l5⟩
            by_cases zz : x < i
            · exact l3 x zz y hy
            · have : x = i := by omega
              subst this
              rw [f0] at hy
              cases hy
              omega
        · rintro env h4 ⟨i, b3, l1, l2, l3, l4, rfl, l5⟩
          have hin : i = b := by
            cases em : b - i with
            | zero => omega
            | succ m => rw [em, rngL_succ] at l2; cases l2
          subst hin
          refine ⟨Ks.nil, ?_⟩
          rw [show b40.drop 5 = [CS.ret _] from rfl]
          simp only [rules, bindG, bindGs, wipeE, placed, Nat.reduceAdd, Nat.reduceSub, Nat.reduceLeDiff, Nat.reduceLT, reduceIte, Int.reduceSub, Int.reduceAdd, Int.reduceMul]
          exact q2 h4 _ rs T (k3.free hug fun x hx y hy => l3 x hx y hy) (fun u v hu1 hv1 => k3.dist hug hu1 hv1) l4 l5
end K76

set_option maxHeartbeats 2000000
/-! MG: lots, the greatest, as the law has them. -/
namespace K76
open Mi
open PySem (Str PyData)
variable {w k : Nat} {h : MH} {Q : D → MH → Prop} {c : Ch}
theorem tie3' {t : Tie} : idxD t.d (.int 3) h = some (od t.lo) := at3
theorem btn_len (ok : c.Ok) : c.btn.length ≤ 1000 := by
  unfold Ch.btn
  rw [List.length_map]
  have := List.length_filter_le (fun p : Tie × Nat => bdT p.1) c.ts.zipIdx
  rw [List.length_zipIdx] at this
  have := ok.lt
  omega
theorem btn_range : c.btn = (List.range c.ts.length).filter fun i => match c.ts[i]? with
    | some t => bdT t
    | none => false := by
  unfold Ch.btn
  have e : (List.range c.ts.length) = c.ts.zipIdx.map (·.2) := by
    rw [List.zipIdx_eq_zip_range', List.map_snd_zip (by rw [List.length_range']; omega), List.range_eq_range']
  rw [e, List.filter_map]
  congr 1
  refine List.filter_congr fun p hp => ?_
  obtain ⟨t, i⟩ := p
  have := List.mk_mem_zipIdx_iff_getElem?.mp hp
  show _ = (match c.ts[i]? with | some t => bdT t | none => false)
  rw [this]
def invLj (hd : List Nat) (tn fn an xn : Nat) (held : List Nat) (h0 : MH) (e0 e1 e5 : Option D) (found last : List (List Nat)) (done : List (List Nat)) (lot : List Nat) (lb : Nat) (ds : List D) (env : Env) (h' : MH) : Prop := ∃ (pre todo : List Nat) (a8 : Option D), held = pre ++ todo ∧ ds = nats todo ∧
  env = [e0, e1, some (.obj tn), some (.obj fn), some (.obj an), e5, some (.obj xn), some (lotD lot), a8] ∧ h'[xn]? = some (.lst ((nextL held done ++ extL pre lot).map lotD)) ∧ h'[fn]? = some (.lst (found.map lotD)) ∧ h'[an]? = some (.lst (last.map lotD)) ∧ h'[tn]? = some (.lst (nats held)) ∧ Ex [] h0 h'
def invLk (tn fn an xn : Nat) (held : List Nat) (h0 : MH) (e0 e1 e5 : Option D) (found last : List (List Nat)) (ds : List D) (env : Env) (h' : MH) : Prop := ∃ (done todo : List (List Nat)) (a7 a8 : Option D), last = done ++ todo ∧ ds = todo.map lotD ∧
  env = [e0, e1, some (.obj tn), some (.obj fn), some (.obj an), e5, some (.obj xn), a7, a8] ∧ h'[xn]? = some (.lst ((nextL held done).map lotD)) ∧ h'[fn]? = some (.lst (found.map lotD)) ∧ h'[an]? = some (.lst (last.map lotD)) ∧ h'[tn]? = some (.lst (nats held)) ∧ Ex [] h0 h'
def invLl2 (tn : Nat) (held : List Nat) (h0 : MH) (e0 e1 : Option D) (F : List (List Nat)) (ds : List D) (env : Env) (h' : MH) : Prop := ∃ (found last : List (List Nat)) (fn an : Nat) (a5 a6 a7 a8 : Option D), lotsF held ds.length found last = F ∧ last.length ≤ F.length ∧
  env = [e0, e1, some (.obj tn), some (.obj fn), some (.obj an), a5, a6, a7, a8] ∧ h'[fn]? = some (.lst (found.map lotD)) ∧ h'[an]? = some (.lst (last.map lotD)) ∧ h'[tn]? = some (.lst (nats held)) ∧ h0.length ≤ fn ∧ h0.length ≤ an ∧ Ex [] h0 h'
theorem lots_mem {held : List Nat} : ∀ {K : Nat} {found last : List (List Nat)}, ∀ l ∈ found, l ∈ lotsF held K found last := by
  intro K
  induction K with
  | zero => exact fun l hl => hl
  | succ K ih => exact fun l hl => ih l (List.mem_append_left _ hl)
theorem extL_snoc {pre lot : List Nat} {x : Nat} : extL (pre ++ [x]) lot = extL pre lot ++ if tstL lot x then [lot ++ [x]] else [] := by
  unfold extL
  rw [List.filter_append, List.map_append]
  congr 1
  rw [List.filter_cons, List.filter_nil]
  split <;> rfl
theorem p_lawlots (ok : c.Ok) {most : Nat} (hm : most ≤ 1000) (hb : (lots c.btn most).length ≤ 1000000) (hlot : ∀ lot ∈ lots c.btn most, lot.length ≤ 1000)
    (q : ∀ h' n, h.length ≤ n → Ex [] h h' → h'[n]? = some (.lst ((lots c.btn most).map lotD)) → Q (.obj n) h') : wp (Gn cds w (k + 1) 41 [c.d, .int (most : Nat)]) h Q := by
  have lt := ok.lt
  rw [g41, w_run]
  refine ⟨rfl, ?_⟩
  rw [show b41 = CS.set _ _ :: CS.set _ _ :: CS.set _ _ :: CS.for _ _ (forB (b41.getD 3 .pass)) :: b41.drop 4 from rfl, s_cons]
  simp only [rules, bindG, bindGs, wipeE, placed, Nat.reduceAdd, Nat.reduceSub, Nat.reduceLeDiff, Nat.reduceLT, reduceIte, Int.reduceSub, Int.reduceAdd, Int.reduceMul]
  rw [w_rng1']
  simp only [rules, bindG, bindGs, wipeE, placed, Nat.reduceAdd, Nat.reduceSub, Nat.reduceLeDiff, Nat.reduceLT, reduceIte, Int.reduceSub, Int.reduceAdd, Int.reduceMul, cd2]
  refine ⟨_, rfl, by rw [List.length_map]; exact w62 (by omega) (by omega), ?_⟩
  rw [List.length_map, Int.toNat_natCast, rngL_nats]
  refine wp_filf (fun d => match d with | .int i => (match c.ts[i.toNat]? with | some t => bdT t | none => false) | _ => false) (fun d => d) h Ks.nil (by rw [nats_len, List.length_range]; omega) ?_ ?_
  · intro d hd h2 x2
    obtain ⟨i, hi, rfl⟩ := List.mem_map.mp hd
    have hi2 := List.mem_range.mp hi
    obtain ⟨t, ht⟩ : ∃ t, c.ts[i]? = some t := ⟨_, List.getElem?_eq_getElem hi2⟩
    refine ⟨_, rfl, ?_⟩
    simp only [rules, bindG, bindGs, wipeE, placed, Nat.reduceAdd, Nat.reduceSub, Nat.reduceLeDiff, Nat.reduceLT, reduceIte, Int.reduceSub, Int.reduceAdd, Int.reduceMul, cd2, ts_at ht, tie3, tie4, isN_od]
    rw [show ((i : Nat) : Int).toNat = i from rfl, ht]
    dsimp only
    unfold bdT
    cases t.lo <;> cases t.hi <;> simp only [Option.isNone, Option.isSome, rules, bindG, bindGs, wipeE, placed, Nat.reduceAdd, Nat.reduceSub, Nat.reduceLeDiff, Nat.reduceLT, reduceIte, Int.reduceSub, Int.reduceAdd, Int.reduceMul] <;> simp [Ex.refl]
  · intro h1 x1 e1
    rw [List.map_id'] at e1
    have ef : (List.filter (fun d : D => (match d with | .int i => (match c.ts[i.toNat]? with | some t => bdT t | none => false) | _ => false : Bool)) (nats (List.range c.ts.length))) = nats c.btn := by
      rw [btn_range]
      unfold nats
      rw [List.filter_map]
      rfl
    rw [ef] at e1
    have hlen := btn_len ok
    generalize c.btn = held at *
    have hl1 := x1.1
    have hl1' : h.length < h1.length := (List.getElem?_eq_some_iff.mp e1).1
    try simp only [rules, bindG, bindGs, wipeE, placed, Nat.reduceAdd, Nat.reduceSub, Nat.reduceLeDiff, Nat.reduceLT, reduceIte, Int.reduceSub, Int.reduceAdd, Int.reduceMul]
    rw [w_rng1']
    simp only [rules, bindG, bindGs, wipeE, placed, Nat.reduceAdd, Nat.reduceSub, Nat.reduceLeDiff, Nat.reduceLT, reduceIte, Int.reduceSub, Int.reduceAdd, Int.reduceMul]
    refine ⟨_, rfl, w62 (by omega) (by omega), ?_⟩
    rw [Int.toNat_natCast]
    have gl1 : (h1 ++ [MO.lst [D.tup []]]).length = h1.length + 1 := by rw [List.length_append]; rfl
    have E1 : (h1 ++ [MO.lst [D.tup []]] ++ [MO.lst [D.tup []]])[h1.length]? = some (.lst [D.tup []]) := by
      rw [List.getElem?_append_left (by rw [gl1]; omega), List.getElem?_concat_length]
    have E2 : (h1 ++ [MO.lst [D.tup []]] ++ [MO.lst [D.tup []]])[h1.length + 1]? = some (.lst [D.tup []]) := by rw [← gl1, List.getElem?_concat_length]
    have X1 : Ex [] h1 (h1 ++ [MO.lst [D.tup []]] ++ [MO.lst [D.tup []]]) := by rw [List.append_assoc]; exact Ex.app
    rw [gl1]
    generalize h1 ++ [MO.lst [D.tup []]] ++ [MO.lst [D.tup []]] = h2 at E1 E2 X1 ⊢
    have l0 : lotsF held most [[]] [[]] = lots held most := rfl
    have ge0 := lotsF_ge (held := held) most [[]] [[]]
    generalize hF : lots held most = F at hb hlot q l0
    rw [l0] at ge0
    refine wp_for (Inv := invLl2 h.length held h (some c.d) (some (.int (most : Nat))) F) ?_ ?_ ⟨[[]], [[]], h1.length, h1.length + 1, _, _, _, _, by rw [rngL_len]; exact l0, ge0, rfl, E1, E2, X1.at0 e1, hl1, by omega, x1.trans X1⟩
    · rintro d ds env h3 ⟨found, last, fn, an, a5, a6, a7, a8, f1, f2, rfl, f4, f5, f6, f7, f8, f9⟩
      refine ⟨Ks.nil, _, rfl, ?_⟩
      rw [List.length_cons] at f1
      replace f1 : lotsF held ds.length (found ++ nextL held last) (nextL held last) = F := f1
      have lge := lotsF_ge (held := held) ds.length (found ++ nextL held last) (nextL held last)
      rw [f1, List.length_append] at lge
      have nlot : ∀ l ∈ nextL held last, l.length ≤ 1000 := fun l hl => hlot l (by rw [← f1]; exact lots_mem l (List.mem_append_right _ hl))
      rw [show forB (b41.getD 3 .pass) = CS.set _ _ :: CS.for _ _ (forB ((forB (b41.getD 3 .pass)).getD 1 .pass)) :: (forB (b41.getD 3 .pass)).drop 2 from rfl, s_cons]
      simp only [rules, bindG, bindGs, wipeE, placed, Nat.reduceAdd, Nat.reduceSub, Nat.reduceLeDiff, Nat.reduceLT, reduceIte, Int.reduceSub, Int.reduceAdd, Int.reduceMul]
      rw [wp_items_obj]
      refine ⟨_, lstAt_iff.mpr ((Ex.app (S := [])).at0 f5), ?_⟩
      dsimp only
      have l5 : an < h3.length := (List.getElem?_eq_some_iff.mp f5).1
      have l4 : fn < h3.length := (List.getElem?_eq_some_iff.mp f4).1
      have l6 : h.length < h3.length := (List.getElem?_eq_some_iff.mp f6).1
      refine wp_for (Inv := invLk h.length fn an h3.length held h (some c.d) (some (.int (most : Nat))) (some d) found last) ?_ ?_ ⟨[], last, _, _, rfl, rfl, rfl, List.getElem?_concat_length .., (Ex.app (S := [])).at0 f4, (Ex.app (S := [])).at0 f5, (Ex.app (S := [])).at0 f6, f9.trans Ex.app⟩
      · rintro d2 ds2 env2 h4 ⟨done, todo, a7, a8, g1, g2, rfl, g4, g5, g6, g6', g7⟩
        cases todo with
        | nil => cases g2
        | cons lot todo =>
        rw [List.map_cons, List.cons.injEq] at g2
        obtain ⟨rfl, rfl⟩ := g2
        refine ⟨Ks.one g6, _, rfl, ?_⟩
        rw [show forB ((forB (b41.getD 3 .pass)).getD 1 .pass) = [CS.for _ _ (forB ((forB ((forB (b41.getD 3 .pass)).getD 1 .pass)).getD 0 .pass))] from rfl]
        have en : nextL held (done ++ [lot]) = nextL held done ++ extL held lot := by unfold nextL; rw [List.flatMap_append]; simp
        have el : nextL held last = nextL held (done ++ [lot]) ++ nextL held todo := by
          rw [g1]
          unfold nextL
          rw [← List.flatMap_append]
          simp
        have ll := congrArg List.length el
        rw [List.length_append, en, List.length_append] at ll
        have xl : ∀ x ∈ held.filter (tstL lot), lot.length + 1 ≤ 1000 := fun x hx => by
          have := nlot (lot ++ [x]) (by rw [el, en]; exact List.mem_append_left _ (List.mem_append_right _ (List.mem_map.mpr ⟨x, hx, rfl⟩)))
          rw [List.length_append] at this
          exact this
        simp only [rules, bindG, bindGs, wipeE, placed, Nat.reduceAdd, Nat.reduceSub, Nat.reduceLeDiff, Nat.reduceLT, reduceIte, Int.reduceSub, Int.reduceAdd, Int.reduceMul]
        rw [wp_items_obj]
        refine ⟨_, lstAt_iff.mpr g6', ?_⟩
        dsimp only
        refine wp_for (Inv := invLj held h.length fn an h3.length held h (some c.d) (some (.int (most : Nat))) (some d) found last done lot 0) ?_ ?_ ⟨[], held, _, rfl, rfl, rfl, by rw [show extL [] lot = [] from rfl, List.append_nil]; exact g4, g5, g6, g6', g7⟩
        · rintro d3 ds3 env3 h5 ⟨pre, todo3, a8, i1, i2, rfl, i4, i5, i6, i7, i8⟩
          cases todo3 with
          | nil => cases i2
          | cons x todo3 =>
          unfold nats at i2
          rw [List.map_cons, List.cons.injEq] at i2
          obtain ⟨rfl, rfl⟩ := i2
          refine ⟨Ks.one i7, _, rfl, ?_⟩
          rw [show forB ((forB ((forB (b41.getD 3 .pass)).getD 1 .pass)).getD 0 .pass) = [CS.ifs _ _ _] from rfl]
          have exl : extL held lot = extL (pre ++ [x]) lot ++ extL todo3 lot := by
            have : held = (pre ++ [x]) ++ todo3 := by rw [i1]; simp
            rw [this]
            unfold extL
            rw [List.filter_append, List.map_append]
          have exl2 := congrArg List.length exl
          rw [List.length_append] at exl2
          have g8l := i8.1
          have put : tstL lot x = true → ∃ u, isLst h5 (.obj h3.length) = some u ∧ wp (binD .add (lotD lot) (.tup [.int (x : Nat)])) h5 fun y h' => wp (appD (.obj h3.length) y) h' fun _ h' => invLj held h.length fn an h3.length held h (some c.d) (some (.int (most : Nat))) (some d) found last done lot 0 (todo3.map fun i => .int (i : Nat))
              [some c.d, some (.int (most : Nat)), some (.obj h.length), some (.obj fn), some (.obj an), some d, some (.obj h3.length), some (lotD lot), some (.int (x : Nat))] h' := fun ht => by
            rw [isLst_ok i4]
            refine ⟨(), rfl, ?_⟩
            have e9 : extL (pre ++ [x]) lot = extL pre lot ++ [lot ++ [x]] := by rw [extL_snoc, if_pos ht]
            have hx : x ∈ held.filter (tstL lot) := List.mem_filter.mpr ⟨by rw [i1]; simp, ht⟩
            have hxl := xl x hx
            rw [e9, List.length_append, List.length_singleton] at exl2
            show wp (binD .add (.tup (nats lot)) (.tup [.int (x : Nat)])) h5 _
            rw [o_catT]
            refine ⟨line_ge (by rw [nats_len]; simp only [List.length_cons, List.length_nil]; omega), ?_⟩
            refine wp_app1 i4 (line_gt (by rw [List.length_map, List.length_append]; omega)) fun h6 u6 e6 => ?_
            refine ⟨pre ++ [x], todo3, _, by rw [i1]; simp, rfl, rfl, ?_, u6.get i5 (by omega), u6.get i6 (by omega), u6.get i7 (by omega), u6.ex i8 (.inl f9.1)⟩
            rw [e6, e9, lotD_snoc, ← List.append_assoc, List.map_append (l₁ := nextL held done ++ extL pre lot)]
            rfl
          have skip : tstL lot x = false → invLj held h.length fn an h3.length held h (some c.d) (some (.int (most : Nat))) (some d) found last done lot 0 (todo3.map fun i => .int (i : Nat))
              [some c.d, some (.int (most : Nat)), some (.obj h.length), some (.obj fn), some (.obj an), some d, some (.obj h3.length), some (lotD lot), some (.int (x : Nat))] h5 := fun ht => by
            have e9 : extL (pre ++ [x]) lot = extL pre lot := by rw [extL_snoc, if_neg (by rw [ht]; decide), List.append_nil]
            exact ⟨pre ++ [x], todo3, _, by rw [i1]; simp, rfl, rfl, by rw [e9]; exact i4, i5, i6, i7, i8⟩
          rcases List.eq_nil_or_concat lot with rfl | ⟨l0, y, rfl⟩
          · have hn0 : ∀ g : MH, wp (bltD .len [lotD []]) g = wp (bltD .len [D.tup []]) g := fun g => rfl
            simp only [rules, bindG, bindGs, wipeE, placed, Nat.reduceAdd, Nat.reduceSub, Nat.reduceLeDiff, Nat.reduceLT, reduceIte, Int.reduceSub, Int.reduceAdd, Int.reduceMul, hn0]
            simp only [rules, bindG, bindGs, wipeE, placed, Nat.reduceAdd, Nat.reduceSub, Nat.reduceLeDiff, Nat.reduceLT, reduceIte, Int.reduceSub, Int.reduceAdd, Int.reduceMul, show (decide (((0 : Nat) : Int) = 0)) = true from rfl]
            exact put rfl
          · rw [List.concat_eq_append] at put skip ⊢
            have ts : tstL (l0 ++ [y]) x = decide (y < x) := by
              unfold tstL
              rw [isEmpty_snoc, List.getLast?_concat]
              rfl
            have e1 : ∀ g : MH, idxD (lotD (l0 ++ [y])) (.int (-1)) g = some (.int (y : Nat)) := fun g => by
              show atI (nats (l0 ++ [y])) (-1) = _
              exact at_neg1n
            have hn0 : ∀ g : MH, ∀ QQ : D → MH → Prop, wp (bltD .len [lotD (l0 ++ [y])]) g QQ ↔ QQ (.int ((l0.length + 1 : Nat) : Int)) g := fun g QQ => by
              unfold lotD
              rw [o_lenT, nats_len, List.length_append, List.length_singleton]
            simp only [rules, bindG, bindGs, wipeE, placed, Nat.reduceAdd, Nat.reduceSub, Nat.reduceLeDiff, Nat.reduceLT, reduceIte, Int.reduceSub, Int.reduceAdd, Int.reduceMul, hn0, decide_eq_false (show ¬ ((l0.length + 1 : Nat) : Int) = 0 by omega), e1]
            by_cases z : y < x
            · simp only [rules, bindG, bindGs, wipeE, placed, Nat.reduceAdd, Nat.reduceSub, Nat.reduceLeDiff, Nat.reduceLT, reduceIte, Int.reduceSub, Int.reduceAdd, Int.reduceMul, decide_eq_true (show ((y : Nat) : Int) < (x : Nat) by omega)]
              exact put (by rw [ts]; exact decide_eq_true z)
            · simp only [rules, bindG, bindGs, wipeE, placed, Nat.reduceAdd, Nat.reduceSub, Nat.reduceLeDiff, Nat.reduceLT, reduceIte, Int.reduceSub, Int.reduceAdd, Int.reduceMul, decide_eq_false (show ¬ ((y : Nat) : Int) < (x : Nat) by omega)]
              exact skip (by rw [ts]; exact decide_eq_false z)
        · rintro env3 h5 ⟨pre, todo3, a8, i1, i2, rfl, i4, i5, i6, i7, i8⟩
          cases todo3 with
          | cons x todo3 => cases i2
          | nil =>
          rw [List.append_nil] at i1
          subst i1
          refine ⟨Ks.one i7, ?_⟩
          simp only [rules, bindG, bindGs, wipeE, placed, Nat.reduceAdd, Nat.reduceSub, Nat.reduceLeDiff, Nat.reduceLT, reduceIte, Int.reduceSub, Int.reduceAdd, Int.reduceMul]
          exact ⟨done ++ [lot], todo, _, _, by rw [g1]; simp, rfl, rfl, by rw [en]; exact i4, i5, i6, i7, i8⟩
      · rintro env2 h4 ⟨done, todo, a7, a8, g1, g2, rfl, g4, g5, g6, g6', g7⟩
        cases todo with
        | cons lot todo => cases g2
        | nil =>
        rw [List.append_nil] at g1
        subst g1
        refine ⟨Ks.one g6, ?_⟩
        rw [show (forB (b41.getD 3 .pass)).drop 2 = [CS.set _ _, CS.set _ _] from rfl]
        simp only [rules, bindG, bindGs, wipeE, placed, Nat.reduceAdd, Nat.reduceSub, Nat.reduceLeDiff, Nat.reduceLT, reduceIte, Int.reduceSub, Int.reduceAdd, Int.reduceMul]
        refine o_catL' g5 g4 (line_ge (by rw [List.length_map, List.length_map]; omega)) fun h5 p lp x5 e5 => ?_
        try simp only [rules, bindG, bindGs, wipeE, placed, Nat.reduceAdd, Nat.reduceSub, Nat.reduceLeDiff, Nat.reduceLT, reduceIte, Int.reduceSub, Int.reduceAdd, Int.reduceMul]
        have h49 := g7.1
        have h39 := f9.1
        exact ⟨found ++ nextL held last, nextL held last, p, h3.length, _, _, _, _, f1, by omega, rfl, by rw [e5, List.map_append], x5.at0 g4, x5.at0 g6', by omega, by omega, g7.trans x5⟩
    · rintro env h3 ⟨found, last, fn, an, a5, a6, a7, a8, f1, f2, rfl, f4, f5, f6, f7, f8, f9⟩
      refine ⟨Ks.nil, ?_⟩
      rw [show b41.drop 4 = [CS.ret _] from rfl]
      simp only [rules, bindG, bindGs, wipeE, placed, Nat.reduceAdd, Nat.reduceSub, Nat.reduceLeDiff, Nat.reduceLT, reduceIte, Int.reduceSub, Int.reduceAdd, Int.reduceMul]
      replace f1 : found = F := f1
      rw [f1] at f4
      exact q h3 _ f7 f9 f4
/-- the greatest, as the law has it -/
def gwD : GW → D
  | .endless => .tup [.str "endless"]
  | .none => .tup [.str "none"]
  | .most x l => .tup [.str "greatest", .int x, lotD l]
def bestI : Option (Int × List Nat) → D
  | .none => .non
  | some (x, _) => .int x
def bestL : Option (Int × List Nat) → D
  | .none => .tup []
  | some (_, l) => lotD l
theorem legs_tag {l : Leg} (hl : l ∈ c.legs) : ∃ i y, l.tag = tagD i y := by
  unfold Ch.legs at hl
  obtain ⟨p, _, hp⟩ := List.mem_flatMap.mp hl
  unfold Ch.legsOf at hp
  rcases List.mem_append.mp hp with hp | hp
  · cases e : c.bd p.1 0 with
    | none => rw [e] at hp; cases hp
    | some b =>
      rw [e] at hp
      rw [List.mem_singleton.mp hp]
      exact ⟨_, _, rfl⟩
  · cases e : c.bd p.1 1 with
    | none => rw [e] at hp; cases hp
    | some b =>
      rw [e] at hp
      rw [List.mem_singleton.mp hp]
      exact ⟨_, _, rfl⟩
theorem strike_ps {lot : List Nat} : (c.strike lot).ps = c.ps := rfl
theorem p_table_of (ok : c.Ok) {ln : Nat} {lot : List Nat} (hl : h[ln]? = some (.lst ((c.strike lot).legs.map lawD)))
    (q1 : ∀ h', ¬ (c.strike lot).Free → Ex [] h h' → Q .non h')
    (q2 : ∀ h' tn rs T, (c.strike lot).Free → (∀ u v, u < c.ps.length → v < c.ps.length → T u v = dV (gs (c.strike lot).legs) u v) → TbH c.ps.length c.ps.length tn rs T h' → Ex [] h h' → Q (.obj tn) h') :
    wp (Gn cds w (k + 1) 40 [.int (c.ps.length : Nat), .obj ln]) h Q := by
  have ok' := ok.strike lot
  exact p_lawtable hl ok.lp (fun l hl => legs_u ok' l hl) (fun l hl => legs_tag hl) (fun h' hn x => q1 h' (fun z => z hn) x) fun h' tn rs T hn hd t x => q2 h' tn rs T hn (fun u v hu hv => dV_spec (hd u v hu hv)) t x
def invLgr (c : Ch) (one oth : Str) (many nn ln : Nat) (h0 : MH) (lts : List (List Nat)) (R : GW) (ds : List D) (env : Env) (h' : MH) : Prop := ∃ (todo : List (List Nat)) (b : Option (Int × List Nat)) (a9 a10 : Option D), ds = todo.map lotD ∧ gwF (resF c one oth) todo b = R ∧
  env = [some c.d, some (.str one), some (.str oth), some (.int (many : Nat)), some (.obj nn), some (.int (c.ix one : Nat)), some (.int (c.ix oth : Nat)), some (bestI b), some (bestL b), a9, a10, none] ∧ h'[ln]? = some (.lst (lts.map lotD)) ∧ h'[nn]? = some (.lst (c.names.map .str)) ∧ Ex [] h0 h'
theorem p_lawgreatest (ok : c.Ok) {one oth : Str} (h1 : one ∈ c.names) (h2 : oth ∈ c.names) {many : Nat} (hm : many ≤ 1000) (hb : (lots c.btn many).length ≤ 1000000) (hlot : ∀ lot ∈ lots c.btn many, lot.length ≤ 1000)
    (q : ∀ h', Ex [] h h' → Q (gwD (gwF (resF c one oth) (lots c.btn many) .none)) h') :
    wp (Gn cds w (k + 2) 42 [c.d, .str one, .str oth, .int (many : Nat)]) h Q := by
  rw [g42, w_run]
  refine ⟨rfl, ?_⟩
  rw [show b42 = CS.set _ _ :: CS.set _ _ :: CS.set _ _ :: CS.set _ _ :: CS.set _ _ :: CS.for _ _ (forB (b42.getD 5 .pass)) :: b42.drop 6 from rfl, s_cons]
  simp only [rules, bindG, bindGs, wipeE, placed, Nat.reduceAdd, Nat.reduceSub, Nat.reduceLeDiff, Nat.reduceLT, reduceIte, Int.reduceSub, Int.reduceAdd, Int.reduceMul, cd1]
  refine wp_nms ok (by simp) fun h3 x3 e3 => ?_
  simp only [rules, bindG, bindGs, wipeE, placed, Nat.reduceAdd, Nat.reduceSub, Nat.reduceLeDiff, Nat.reduceLT, reduceIte, Int.reduceSub, Int.reduceAdd, Int.reduceMul, isLst_ok e3]
  refine ⟨(), m_index e3 h1 ?_⟩
  simp only [rules, bindG, bindGs, wipeE, placed, Nat.reduceAdd, Nat.reduceSub, Nat.reduceLeDiff, Nat.reduceLT, reduceIte, Int.reduceSub, Int.reduceAdd, Int.reduceMul, isLst_ok e3]
  refine ⟨(), m_index e3 h2 ?_⟩
  try simp only [rules, bindG, bindGs, wipeE, placed, Nat.reduceAdd, Nat.reduceSub, Nat.reduceLeDiff, Nat.reduceLT, reduceIte, Int.reduceSub, Int.reduceAdd, Int.reduceMul]
  refine p_lawlots ok hm hb hlot fun h4 n4 l4 x4 e4 => ?_
  rw [wp_items_obj]
  refine ⟨_, lstAt_iff.mpr e4, ?_⟩
  dsimp only
  generalize hL : lots c.btn many = L at *
  generalize hR : gwF (resF c one oth) L .none = R at q
  have i1 := Ch.Ok.ix_lt h1
  have i2 := Ch.Ok.ix_lt h2
  refine wp_for (Inv := invLgr c one oth many h.length n4 h L R) ?_ ?_ ⟨L, .none, _, _, rfl, hR, rfl, e4, x4.at0 e3, x3.trans x4⟩
  · rintro d ds env h5 ⟨todo, b, a9, a10, f1, f2, rfl, f4, f5, f6⟩
    cases todo with
    | nil => cases f1
    | cons lot todo =>
    rw [List.map_cons, List.cons.injEq] at f1
    obtain ⟨rfl, rfl⟩ := f1
    refine ⟨Ks.one f4, _, rfl, ?_⟩
    rw [show forB (b42.getD 5 .pass) = CS.set _ _ :: [CS.ifs _ _ _] from rfl, s_cons]
    simp only [rules, bindG, bindGs, wipeE, placed, Nat.reduceAdd, Nat.reduceSub, Nat.reduceLeDiff, Nat.reduceLT, reduceIte, Int.reduceSub, Int.reduceAdd, Int.reduceMul]
    refine o_lenL f5 ?_
    rw [List.length_map, names_len]
    refine p_lawlegs ok fun h6 n6 l6 x6 e6 => ?_
    unfold gwF at f2
    refine p_table_of ok e6 (fun h7 hn x7 => ?_) fun h7 tn rs T hfr hT tb x7 => ?_
    · rw [resF_none hn] at f2
      dsimp only at f2
      simp only [nonD_non, rules, bindG, bindGs, wipeE, placed, Nat.reduceAdd, Nat.reduceSub, Nat.reduceLeDiff, Nat.reduceLT, reduceIte, Int.reduceSub, Int.reduceAdd, Int.reduceMul]
      exact ⟨todo, b, _, _, rfl, f2, rfl, x7.at0 (x6.at0 f4), x7.at0 (x6.at0 f5), f6.trans (x6.trans x7)⟩
    · rw [resF_some hfr, ← hT _ _ i1 i2] at f2
      obtain ⟨a, ra, p1, p2, p3⟩ := tb.row i1
      have j4 := x7.at0 (x6.at0 f4)
      have j5 := x7.at0 (x6.at0 f5)
      have j6 := f6.trans (x6.trans x7)
      simp only [nonD_obj, rules, bindG, bindGs, wipeE, placed, Nat.reduceAdd, Nat.reduceSub, Nat.reduceLeDiff, Nat.reduceLT, reduceIte, Int.reduceSub, Int.reduceAdd, Int.reduceMul, p1, p2 _ i2, isN_od]
      cases eT : T (c.ix one) (c.ix oth) with
      | none =>
        rw [eT] at f2
        simp only [Option.isNone, rules, bindG, bindGs, wipeE, placed, Nat.reduceAdd, Nat.reduceSub, Nat.reduceLeDiff, Nat.reduceLT, reduceIte, Int.reduceSub, Int.reduceAdd, Int.reduceMul]
        rw [← f2] at q
        exact q h7 j6
      | some x =>
        rw [eT] at f2
        dsimp only at f2
        simp only [Option.isNone, rules, bindG, bindGs, wipeE, placed, Nat.reduceAdd, Nat.reduceSub, Nat.reduceLeDiff, Nat.reduceLT, reduceIte, Int.reduceSub, Int.reduceAdd, Int.reduceMul]
        cases b with
        | none =>
          simp only [bestI, nonD_non, rules, bindG, bindGs, wipeE, placed, Nat.reduceAdd, Nat.reduceSub, Nat.reduceLeDiff, Nat.reduceLT, reduceIte, Int.reduceSub, Int.reduceAdd, Int.reduceMul, p1, p2 _ i2, eT, od]
          exact ⟨todo, some (x, lot), _, _, rfl, f2, rfl, j4, j5, j6⟩
        | some p =>
          obtain ⟨y, l⟩ := p
          dsimp only at f2
          simp only [bestI, nonD_int, rules, bindG, bindGs, wipeE, placed, Nat.reduceAdd, Nat.reduceSub, Nat.reduceLeDiff, Nat.reduceLT, reduceIte, Int.reduceSub, Int.reduceAdd, Int.reduceMul, p1, p2 _ i2, eT, od]
          by_cases z : y < x
          · rw [if_pos z] at f2
            simp only [decide_eq_true z, rules, bindG, bindGs, wipeE, placed, Nat.reduceAdd, Nat.reduceSub, Nat.reduceLeDiff, Nat.reduceLT, reduceIte, Int.reduceSub, Int.reduceAdd, Int.reduceMul, p1, p2 _ i2, eT, od]
            exact ⟨todo, some (x, lot), _, _, rfl, f2, rfl, j4, j5, j6⟩
          · rw [if_neg z] at f2
            simp only [decide_eq_false z, rules, bindG, bindGs, wipeE, placed, Nat.reduceAdd, Nat.reduceSub, Nat.reduceLeDiff, Nat.reduceLT, reduceIte, Int.reduceSub, Int.reduceAdd, Int.reduceMul]
            exact ⟨todo, some (y, l), _, _, rfl, f2, rfl, j4, j5, j6⟩
  · rintro env h5 ⟨todo, b, a9, a10, f1, f2, rfl, f4, f5, f6⟩
    cases todo with
    | cons lot todo => cases f1
    | nil =>
    refine ⟨Ks.one f4, ?_⟩
    rw [show b42.drop 6 = CS.ifs _ _ _ :: [CS.ret _] from rfl]
    cases b with
    | none =>
      simp only [bestI, nonD_non, rules, bindG, bindGs, wipeE, placed, Nat.reduceAdd, Nat.reduceSub, Nat.reduceLeDiff, Nat.reduceLT, reduceIte, Int.reduceSub, Int.reduceAdd, Int.reduceMul]
      rw [← show GW.none = R from f2] at q
      exact q h5 f6
    | some p =>
      obtain ⟨x, l⟩ := p
      simp only [bestI, bestL, nonD_int, rules, bindG, bindGs, wipeE, placed, Nat.reduceAdd, Nat.reduceSub, Nat.reduceLeDiff, Nat.reduceLT, reduceIte, Int.reduceSub, Int.reduceAdd, Int.reduceMul]
      rw [← show GW.most x l = R from f2] at q
      exact q h5 f6
end K76

set_option maxHeartbeats 2000000
/-! MH: what the law judges by. -/
namespace K76
open Mi
open PySem (Str PyData)
variable {w k : Nat} {h : MH} {Q : D → MH → Prop} {c : Ch}
theorem it_tup {xs : List D} : isinD .tuple (.tup xs) h = some true := rfl
theorem it_str {x : Str} : isinD .tuple (.str x) h = some false := rfl
theorem it_int {i : Int} : isinD .tuple (.int i) h = some false := rfl
theorem it_non : isinD .tuple .non h = some false := rfl
theorem is_tup {xs : List D} : isinD .str (.tup xs) h = some false := rfl
theorem is_str {x : Str} : isinD .str (.str x) h = some true := rfl
theorem is_int {i : Int} : isinD .str (.int i) h = some false := rfl
theorem is_non : isinD .str .non h = some false := rfl
theorem ii_int {i : Int} : isinD .int (.int i) h = some true := rfl
theorem ib_int {i : Int} : isinD .bool (.int i) h = some false := rfl
theorem ib_bl {b : Bool} : isinD .bool (.bl b) h = some true := rfl
theorem p_integer {i : Int} (q : Q (.bl true) h) : wp (Gn cds w (k + 1) 43 [.int i]) h Q := by
  rw [g43, b43]
  simp only [rules, bindG, bindGs, wipeE, placed, Nat.reduceAdd, Nat.reduceSub, Nat.reduceLeDiff, Nat.reduceLT, reduceIte, Int.reduceSub, Int.reduceAdd, Int.reduceMul, ii_int, ib_int]
  exact q
theorem p_says {a b : Bool} (e : a = b) (q : Q (.bl true) h) : wp (Gn cds w (k + 1) 46 [.bl a, .bl b]) h Q := by
  subst e
  rw [g46, b46]
  have ec : ∀ g : MH, cmpD .eq (.bl a) (.bl a) g = some true := fun g => by
    unfold cmpD
    dsimp only
    rw [eq_bl]
    simp
  simp only [rules, bindG, bindGs, wipeE, placed, Nat.reduceAdd, Nat.reduceSub, Nat.reduceLeDiff, Nat.reduceLT, reduceIte, Int.reduceSub, Int.reduceAdd, Int.reduceMul, ib_bl, ec]
  exact q
/-! ### how many ties are broken -/
theorem unfit_len {f : Nat → Int} : (unfitN c f).length = (c.ts.filter fun t => !keepsB t (dfT c f t)).length := by
  unfold unfitN
  rw [List.length_map]
  have go : ∀ (l : List Tie) (i : Nat), ((l.zipIdx i).filter fun p => !keepsB p.1 (dfT c f p.1)).length = (l.filter fun t => !keepsB t (dfT c f t)).length := by
    intro l
    induction l with
    | nil => exact fun _ => rfl
    | cons t l ih =>
      intro i
      rw [List.zipIdx_cons, List.filter_cons, List.filter_cons]
      dsimp only
      split
      · rw [List.length_cons, List.length_cons, ih]
      · exact ih _
  exact go c.ts 0
def invBr (c : Ch) (f : Nat → Int) (nn : Nat) (h0 : MH) (ds : List D) (env : Env) (h' : MH) : Prop := ∃ (done todo : List Tie) (a4 a5 a6 a7 a8 a9 a10 : Option D), c.ts = done ++ todo ∧ ds = todo.map Tie.d ∧
  env = [some c.d, some (.tup (rowD c.ps.length (intD f))), some (.obj nn), some (.int ((done.filter fun t => !keepsB t (dfT c f t)).length : Nat)), a4, a5, a6, a7, a8, a9, a10, none] ∧ h'[nn]? = some (.lst (c.names.map .str)) ∧ Ex [] h0 h'
theorem p_broken (ok : c.Ok) {f : Nat → Int} (q : ∀ h', Ex [] h h' → Q (.int ((unfitN c f).length : Nat)) h') : wp (Gn cds w (k + 1) 44 [c.d, .tup (rowD c.ps.length (intD f))]) h Q := by
  rw [g44, w_run]
  refine ⟨rfl, ?_⟩
  rw [show b44 = CS.set _ _ :: CS.set _ _ :: CS.for _ _ (forB (b44.getD 2 .pass)) :: b44.drop 3 from rfl, s_cons]
  simp only [rules, bindG, bindGs, wipeE, placed, Nat.reduceAdd, Nat.reduceSub, Nat.reduceLeDiff, Nat.reduceLT, reduceIte, Int.reduceSub, Int.reduceAdd, Int.reduceMul, cd1]
  refine wp_nms ok (by simp) fun h1 x1 e1 => ?_
  simp only [rules, bindG, bindGs, wipeE, placed, Nat.reduceAdd, Nat.reduceSub, Nat.reduceLeDiff, Nat.reduceLT, reduceIte, Int.reduceSub, Int.reduceAdd, Int.reduceMul, cd2]
  refine wp_for (Inv := invBr c f h.length h) ?_ ?_ ⟨[], c.ts, _, _, _, _, _, _, _, rfl, rfl, rfl, e1, x1⟩
  · rintro d ds env h2 ⟨done, todo, a4, a5, a6, a7, a8, a9, a10, i1, i2, rfl, i4, i5⟩
    cases todo with
    | nil => cases i2
    | cons t todo =>
    rw [List.map_cons, List.cons.injEq] at i2
    obtain ⟨rfl, rfl⟩ := i2
    have en := ok.ends t (by rw [i1]; simp)
    have l1 := Ch.Ok.ix_lt en.1
    have l2 := Ch.Ok.ix_lt en.2
    refine ⟨Ks.nil, _, rfl, ?_⟩
    rw [show forB (b44.getD 2 .pass) = CS.set _ _ :: [CS.set _ _] from rfl]
    have cnt : ((done ++ [t]).filter fun t => !keepsB t (dfT c f t)).length = (done.filter fun t => !keepsB t (dfT c f t)).length + if keepsB t (dfT c f t) then 0 else 1 := by
      rw [List.filter_append, List.length_append]
      congr 1
      rw [List.filter_cons, List.filter_nil]
      cases keepsB t (dfT c f t) <;> rfl
    have fin : ∀ (b : Bool) (a10 : Option D), b = !keepsB t (dfT c f t) → invBr c f h.length h (todo.map Tie.d) [some c.d, some (.tup (rowD c.ps.length (intD f))), some (.obj h.length), some (.int (((done.filter fun t => !keepsB t (dfT c f t)).length : Nat) + if b = true then 1 else 0)), some (.str t.nm), some (.str t.one), some (.str t.oth), some (od t.lo), some (od t.hi), some (.tup (t.pl.map pud)), a10, none] h2 := fun b a10 eb =>
      ⟨done ++ [t], todo, some (.str t.nm), some (.str t.one), some (.str t.oth), some (od t.lo), some (od t.hi), some (.tup (t.pl.map pud)), a10, by rw [i1]; simp, rfl, by
        subst eb
        have ei : ((if (!keepsB t (dfT c f t)) = true then 1 else 0 : Int)) = ((if keepsB t (dfT c f t) = true then 0 else 1 : Nat) : Int) := by cases keepsB t (dfT c f t) <;> rfl
        rw [cnt, ei, Int.natCast_add], i4, i5⟩
    simp only [rules, bindG, bindGs, wipeE, placed, Nat.reduceAdd, Nat.reduceSub, Nat.reduceLeDiff, Nat.reduceLT, reduceIte, Int.reduceSub, Int.reduceAdd, Int.reduceMul, isLst_ok i4]
    refine ⟨(), m_index i4 en.2 ?_⟩
    simp only [rules, bindG, bindGs, wipeE, placed, Nat.reduceAdd, Nat.reduceSub, Nat.reduceLeDiff, Nat.reduceLT, reduceIte, Int.reduceSub, Int.reduceAdd, Int.reduceMul, rowD_at l2, isLst_ok i4]
    refine ⟨(), m_index i4 en.1 ?_⟩
    simp only [rules, bindG, bindGs, wipeE, placed, Nat.reduceAdd, Nat.reduceSub, Nat.reduceLeDiff, Nat.reduceLT, reduceIte, Int.reduceSub, Int.reduceAdd, Int.reduceMul, rowD_at l1, isN_od, intD]
    have ek : keepsB t (dfT c f t) = ((t.lo.all fun b => decide (b ≤ dfT c f t)) && (t.hi.all fun b => decide (dfT c f t ≤ b))) := rfl
    have edf : f (c.ix t.oth) - f (c.ix t.one) = dfT c f t := rfl
    rw [edf]
    generalize dfT c f t = v at ek fin ⊢
    have neg : ∀ a b : Int, (!decide (a ≤ b)) = decide (b < a) := fun a b => by
      by_cases z : a ≤ b
      · rw [decide_eq_true z, decide_eq_false (by omega)]; rfl
      · rw [decide_eq_false z, decide_eq_true (by omega)]; rfl
    cases el : t.lo with
    | none =>
      cases eh : t.hi with
      | none =>
        simp only [Option.isNone, rules, bindG, bindGs, wipeE, placed, Nat.reduceAdd, Nat.reduceSub, Nat.reduceLeDiff, Nat.reduceLT, reduceIte, Int.reduceSub, Int.reduceAdd, Int.reduceMul]
        rw [el, eh] at fin ek
        exact fin false _ (by rw [ek]; rfl)
      | some b2 =>
        simp only [Option.isNone, od, rules, bindG, bindGs, wipeE, placed, Nat.reduceAdd, Nat.reduceSub, Nat.reduceLeDiff, Nat.reduceLT, reduceIte, Int.reduceSub, Int.reduceAdd, Int.reduceMul]
        rw [el, eh] at fin ek
        refine fin (decide (b2 < v)) _ ?_
        rw [ek]
        show _ = !(true && decide (v ≤ b2))
        rw [Bool.true_and, neg]
    | some b1 =>
      cases eh : t.hi with
      | none =>
        simp only [Option.isNone, od, rules, bindG, bindGs, wipeE, placed, Nat.reduceAdd, Nat.reduceSub, Nat.reduceLeDiff, Nat.reduceLT, reduceIte, Int.reduceSub, Int.reduceAdd, Int.reduceMul]
        rw [el, eh] at fin ek
        by_cases z : v < b1
        · simp only [decide_eq_true z, rules, bindG, bindGs, wipeE, placed, Nat.reduceAdd, Nat.reduceSub, Nat.reduceLeDiff, Nat.reduceLT, reduceIte, Int.reduceSub, Int.reduceAdd, Int.reduceMul]
          exact fin true _ (by rw [ek]; simp; omega)
        · simp only [decide_eq_false z, rules, bindG, bindGs, wipeE, placed, Nat.reduceAdd, Nat.reduceSub, Nat.reduceLeDiff, Nat.reduceLT, reduceIte, Int.reduceSub, Int.reduceAdd, Int.reduceMul]
          exact fin false _ (by rw [ek]; simp; omega)
      | some b2 =>
        simp only [Option.isNone, od, rules, bindG, bindGs, wipeE, placed, Nat.reduceAdd, Nat.reduceSub, Nat.reduceLeDiff, Nat.reduceLT, reduceIte, Int.reduceSub, Int.reduceAdd, Int.reduceMul]
        rw [el, eh] at fin ek
        by_cases z : v < b1
        · simp only [decide_eq_true z, rules, bindG, bindGs, wipeE, placed, Nat.reduceAdd, Nat.reduceSub, Nat.reduceLeDiff, Nat.reduceLT, reduceIte, Int.reduceSub, Int.reduceAdd, Int.reduceMul]
          exact fin true _ (by rw [ek]; simp; omega)
        · simp only [decide_eq_false z, rules, bindG, bindGs, wipeE, placed, Nat.reduceAdd, Nat.reduceSub, Nat.reduceLeDiff, Nat.reduceLT, reduceIte, Int.reduceSub, Int.reduceAdd, Int.reduceMul]
          refine fin (decide (b2 < v)) _ ?_
          rw [ek]
          show _ = !(decide (b1 ≤ v) && decide (v ≤ b2))
          rw [decide_eq_true (show b1 ≤ v by omega), Bool.true_and, neg]
  · rintro env h2 ⟨done, todo, a4, a5, a6, a7, a8, a9, a10, i1, i2, rfl, i4, i5⟩
    cases todo with
    | cons t todo => cases i2
    | nil =>
    rw [List.append_nil] at i1
    refine ⟨Ks.nil, ?_⟩
    rw [show b44.drop 3 = [CS.ret _] from rfl]
    simp only [rules, bindG, bindGs, wipeE, placed, Nat.reduceAdd, Nat.reduceSub, Nat.reduceLeDiff, Nat.reduceLT, reduceIte, Int.reduceSub, Int.reduceAdd, Int.reduceMul]
    have := q h2 i5
    rw [unfit_len] at this
    rw [← i1]
    exact this
/-! ### a land, rightly told -/
def invRi (c : Ch) (f : Nat → Int) (h0 : MH) (ds : List D) (env : Env) (h' : MH) : Prop := ∃ (i : Nat) (a2 : Option D), i ≤ c.ps.length ∧ ds = rngL (i : Nat) (c.ps.length - i) ∧ env = [some c.d, some (.tup (rowD c.ps.length (intD f))), a2] ∧ Ex [] h0 h'
theorem p_right (ok : c.Ok) {f : Nat → Int} (hf : ∀ v, v < c.ps.length → (f v - c.rn v) % c.m = 0) (q : ∀ h', Ex [] h h' → Q (.bl true) h') : wp (Gn cds w (k + 2) 45 [c.d, .tup (rowD c.ps.length (intD f))]) h Q := by
  have lp := ok.lp
  rw [g45, w_run]
  refine ⟨rfl, ?_⟩
  rw [show b45 = CS.ifs _ _ _ :: CS.for _ _ (forB (b45.getD 1 .pass)) :: b45.drop 2 from rfl, s_cons]
  simp only [rules, bindG, bindGs, wipeE, placed, Nat.reduceAdd, Nat.reduceSub, Nat.reduceLeDiff, Nat.reduceLT, reduceIte, Int.reduceSub, Int.reduceAdd, Int.reduceMul, it_tup, cd1, rowD_len]
  rw [show ((c.ps.map pd).length : Int) = (c.ps.length : Nat) by rw [List.length_map]]
  simp only [rules, bindG, bindGs, wipeE, placed, Nat.reduceAdd, Nat.reduceSub, Nat.reduceLeDiff, Nat.reduceLT, reduceIte, Int.reduceSub, Int.reduceAdd, Int.reduceMul, decide_eq_true (show ((c.ps.length : Nat) : Int) = (c.ps.length : Nat) from rfl)]
  rw [w_rng1']
  simp only [rules, bindG, bindGs, wipeE, placed, Nat.reduceAdd, Nat.reduceSub, Nat.reduceLeDiff, Nat.reduceLT, reduceIte, Int.reduceSub, Int.reduceAdd, Int.reduceMul, rowD_len]
  refine ⟨_, rfl, w62 (by omega) (by omega), ?_⟩
  rw [Int.toNat_natCast]
  refine wp_for (Inv := invRi c f h) ?_ ?_ ⟨0, _, Nat.zero_le _, rfl, rfl, Ex.refl⟩
  · rintro d ds env h2 ⟨i, a2, i1, i2, rfl, i3⟩
    cases em : c.ps.length - i with
    | zero => rw [em] at i2; cases i2
    | succ m =>
    rw [em, rngL_succ, List.cons.injEq] at i2
    obtain ⟨rfl, rfl⟩ := i2
    have hi : i < c.ps.length := by omega
    refine ⟨Ks.nil, _, rfl, ?_⟩
    rw [show forB (b45.getD 1 .pass) = [CS.ifs _ _ _] from rfl]
    simp only [rules, bindG, bindGs, wipeE, placed, Nat.reduceAdd, Nat.reduceSub, Nat.reduceLeDiff, Nat.reduceLT, reduceIte, Int.reduceSub, Int.reduceAdd, Int.reduceMul, rowD_at hi, intD]
    refine p_integer ?_
    simp only [rules, bindG, bindGs, wipeE, placed, Nat.reduceAdd, Nat.reduceSub, Nat.reduceLeDiff, Nat.reduceLT, reduceIte, Int.reduceSub, Int.reduceAdd, Int.reduceMul, rowD_at hi, intD, cd0, cd1, ps_at hi]
    refine o_mod.mpr ⟨ok.m, ?_⟩
    rw [hf i hi]
    simp only [rules, bindG, bindGs, wipeE, placed, Nat.reduceAdd, Nat.reduceSub, Nat.reduceLeDiff, Nat.reduceLT, reduceIte, Int.reduceSub, Int.reduceAdd, Int.reduceMul, show (decide ((0 : Int) = 0)) = true from rfl]
    exact ⟨i + 1, _, hi, by rw [show c.ps.length - (i + 1) = m by omega]; rfl, rfl, i3⟩
  · rintro env h2 ⟨i, a2, i1, i2, rfl, i3⟩
    refine ⟨Ks.nil, ?_⟩
    rw [show b45.drop 2 = [CS.ret _] from rfl]
    simp only [rules, bindG, bindGs, wipeE, placed, Nat.reduceAdd, Nat.reduceSub, Nat.reduceLeDiff, Nat.reduceLT, reduceIte, Int.reduceSub, Int.reduceAdd, Int.reduceMul]
    exact q h2 i3
/-! ### the struck chart -/
def invSt (c : Ch) (lot : List Nat) (rl : Nat) (h0 : MH) (ds : List D) (env : Env) (h' : MH) : Prop := ∃ (i : Nat) (a3 a4 a5 a6 a7 a8 a9 : Option D), i ≤ c.ts.length ∧ ds = rngL (i : Nat) (c.ts.length - i) ∧ env = [some c.d, some (lotD lot), some (.obj rl), a3, a4, a5, a6, a7, a8, a9] ∧
  h'[rl]? = some (.lst (((c.ts.zipIdx.map (strT lot)).take i).map Tie.d)) ∧ Ex [] h0 h'
theorem p_lawstruck (ok : c.Ok) {lot : List Nat} (q : ∀ h', Ex [] h h' → Q (c.strike lot).d h') : wp (Gn cds w (k + 1) 49 [c.d, lotD lot]) h Q := by
  have lt := ok.lt
  rw [g49, w_run]
  refine ⟨rfl, ?_⟩
  rw [show b49 = CS.set _ _ :: CS.for _ _ (forB (b49.getD 1 .pass)) :: b49.drop 2 from rfl, s_cons]
  simp only [rules, bindG, bindGs, wipeE, placed, Nat.reduceAdd, Nat.reduceSub, Nat.reduceLeDiff, Nat.reduceLT, reduceIte, Int.reduceSub, Int.reduceAdd, Int.reduceMul]
  rw [w_rng1']
  simp only [rules, bindG, bindGs, wipeE, placed, Nat.reduceAdd, Nat.reduceSub, Nat.reduceLeDiff, Nat.reduceLT, reduceIte, Int.reduceSub, Int.reduceAdd, Int.reduceMul, cd2]
  refine ⟨_, rfl, by rw [List.length_map]; exact w62 (by omega) (by omega), ?_⟩
  rw [List.length_map, Int.toNat_natCast]
  refine wp_for (Inv := invSt c lot h.length h) ?_ ?_ ⟨0, _, _, _, _, _, _, _, Nat.zero_le _, rfl, rfl, List.getElem?_concat_length .., Ex.app⟩
  · rintro d ds env g ⟨i, a3, a4, a5, a6, a7, a8, a9, i1, i2, rfl, i3, i4⟩
    cases em : c.ts.length - i with
    | zero => rw [em] at i2; cases i2
    | succ m =>
    rw [em, rngL_succ, List.cons.injEq] at i2
    obtain ⟨rfl, rfl⟩ := i2
    have hi : i < c.ts.length := by omega
    obtain ⟨t, ht⟩ : ∃ t, c.ts[i]? = some t := ⟨_, List.getElem?_eq_getElem hi⟩
    have et : (c.ts.zipIdx.map (strT lot))[i]? = some (strT lot (t, i)) := by
      rw [List.getElem?_map, List.getElem?_zipIdx, ht]
      simp
    refine ⟨Ks.nil, _, rfl, ?_⟩
    rw [show forB (b49.getD 1 .pass) = CS.asg _ _ :: CS.ifs _ _ _ :: [CS.exp _] from rfl]
    simp only [rules, bindG, bindGs, wipeE, placed, Nat.reduceAdd, Nat.reduceSub, Nat.reduceLeDiff, Nat.reduceLT, reduceIte, Int.reduceSub, Int.reduceAdd, Int.reduceMul, cd2, ts_at ht]
    rw [show t.d = .tup [.str t.nm, .str t.one, .str t.oth, od t.lo, od t.hi, .tup (t.pl.map pud)] from rfl]
    simp only [rules, bindG, bindGs, wipeE, placed, Nat.reduceAdd, Nat.reduceSub, Nat.reduceLeDiff, Nat.reduceLT, reduceIte, Int.reduceSub, Int.reduceAdd, Int.reduceMul, c_inL]
    have tl : ((c.ts.zipIdx.map (strT lot)).take i).length ≤ i := List.length_take_le ..
    have fin : ∀ (g2 : MH) (env : Env), (∃ a3 a4 a5 a6 a7 a8 a9, env = [some c.d, some (lotD lot), some (.obj h.length), a3, a4, a5, a6, a7, a8, a9]) → Upd h.length g g2 → g2[h.length]? = some (.lst (((c.ts.zipIdx.map (strT lot)).take i).map Tie.d ++ [(strT lot (t, i)).d])) → invSt c lot h.length h (rngL ((i : Int) + 1) m) env g2 := by
      rintro g2 env ⟨a3, a4, a5, a6, a7, a8, a9, rfl⟩ u e
      refine ⟨i + 1, _, _, _, _, _, _, _, hi, by rw [show c.ts.length - (i + 1) = m by omega]; rfl, rfl, ?_, u.ex i4 (.inl (Nat.le_refl _))⟩
      rw [e, List.take_succ, List.map_append, et]
      rfl
    by_cases z : i ∈ lot
    · simp only [decide_eq_true z, rules, bindG, bindGs, wipeE, placed, Nat.reduceAdd, Nat.reduceSub, Nat.reduceLeDiff, Nat.reduceLT, reduceIte, Int.reduceSub, Int.reduceAdd, Int.reduceMul, isLst_ok i3]
      refine ⟨(), wp_app1 i3 (line_gt (by rw [List.length_map]; omega)) fun g2 u2 e2 => ?_⟩
      refine fin g2 _ ⟨_, _, _, _, _, _, _, rfl⟩ u2 ?_
      rw [e2]
      unfold strT
      rw [if_pos z]
      rfl
    · simp only [decide_eq_false z, rules, bindG, bindGs, wipeE, placed, Nat.reduceAdd, Nat.reduceSub, Nat.reduceLeDiff, Nat.reduceLT, reduceIte, Int.reduceSub, Int.reduceAdd, Int.reduceMul, isLst_ok i3]
      refine ⟨(), wp_app1 i3 (line_gt (by rw [List.length_map]; omega)) fun g2 u2 e2 => ?_⟩
      refine fin g2 _ ⟨_, _, _, _, _, _, _, rfl⟩ u2 ?_
      rw [e2]
      unfold strT
      rw [if_neg z]
      rfl
  · rintro env g ⟨i, a3, a4, a5, a6, a7, a8, a9, i1, i2, rfl, i3, i4⟩
    have hi : c.ts.length ≤ i := by
      cases em : c.ts.length - i with
      | zero => omega
      | succ m => rw [em, rngL_succ] at i2; cases i2
    refine ⟨Ks.nil, ?_⟩
    rw [show b49.drop 2 = [CS.ret _] from rfl]
    simp only [rules, bindG, bindGs, wipeE, placed, Nat.reduceAdd, Nat.reduceSub, Nat.reduceLeDiff, Nat.reduceLT, reduceIte, Int.reduceSub, Int.reduceAdd, Int.reduceMul, cd0, cd1]
    refine o_tupL i3 ?_
    rw [List.take_of_length_le (by rw [List.length_map, List.length_zipIdx]; exact hi)]
    exact q g i4
end K76

set_option maxHeartbeats 2000000
/-! MI: the same, kinds and all. -/
namespace K76
open Mi
open PySem (Str PyData)
variable {w k : Nat} {h : MH} {Q : D → MH → Prop} {c : Ch}
mutual
def szD : D → Nat
  | .tup xs => 1 + szs xs
  | .obj _ => 1
  | .fl _ => 1
  | .str _ => 1
  | .non => 1
  | .bl _ => 1
  | .int _ => 1
def szs : List D → Nat
  | [] => 0
  | x :: xs => szD x + szs xs
end
mutual
def Nc : D → Prop
  | .tup xs => Ncs xs
  | .obj _ => False
  | .fl _ => False
  | .str x => PyData.strOk x = true
  | .non => True
  | .bl _ => False
  | .int _ => True
def Ncs : List D → Prop
  | [] => True
  | x :: xs => Nc x ∧ Ncs xs
end
theorem szs_nil : szs [] = 0 := by unfold szs; rfl
theorem szs_cons {x : D} {xs : List D} : szs (x :: xs) = szD x + szs xs := by rw [szs]
theorem szs_app : ∀ {xs ys : List D}, szs (xs ++ ys) = szs xs + szs ys
  | [], ys => by rw [szs_nil, List.nil_append, Nat.zero_add]
  | x :: xs, ys => by rw [List.cons_append, szs_cons, szs_cons, szs_app, Nat.add_assoc]
theorem szD_pos {d : D} : 1 ≤ szD d := by
  cases d <;> unfold szD <;> omega
theorem szs_len : ∀ {xs : List D}, xs.length ≤ szs xs
  | [] => Nat.zero_le _
  | x :: xs => by
    rw [szs_cons, List.length_cons]
    have := szD_pos (d := x)
    have := szs_len (xs := xs)
    omega
theorem szs_le {n : Nat} : ∀ {xs : List D}, (∀ x ∈ xs, szD x ≤ n) → szs xs ≤ n * xs.length
  | [], _ => by rw [szs_nil]; exact Nat.zero_le _
  | x :: xs, hx => by
    rw [szs_cons, List.length_cons, Nat.mul_succ]
    have := hx x (List.mem_cons_self ..)
    have := szs_le fun y hy => hx y (List.mem_cons_of_mem _ hy)
    omega
theorem Ncs.of : ∀ {xs : List D}, (∀ x ∈ xs, Nc x) → Ncs xs
  | [], _ => by unfold Ncs; trivial
  | x :: xs, hx => by
    unfold Ncs
    exact ⟨hx x (List.mem_cons_self ..), Ncs.of fun y hy => hx y (List.mem_cons_of_mem _ hy)⟩
theorem Ncs.mem : ∀ {xs : List D} {x : D}, Ncs xs → x ∈ xs → Nc x
  | y :: ys, x, hn, hm => by
    unfold Ncs at hn
    rcases List.mem_cons.mp hm with rfl | hm
    · exact hn.1
    · exact Ncs.mem hn.2 hm
def pr (d : D) : D := .tup [d, d]
def invSw (d0 : D) (ln : Nat) (h0 : MH) (N m : Nat) (env : Env) (h' : MH) : Prop := ∃ (st : List D) (a3 a4 a5 : Option D), szs st ≤ m ∧ m ≤ N ∧ (∀ d ∈ st, Nc d) ∧ env = [some d0, some d0, some (.obj ln), a3, a4, a5] ∧ h'[ln]? = some (.lst (st.map pr)) ∧ Ex [] h0 h'
def invSf (d0 : D) (ln : Nat) (h0 : MH) (st xs : List D) (ds : List D) (env : Env) (h' : MH) : Prop := ∃ (i : Nat) (a5 : Option D), i ≤ xs.length ∧ ds = rngL (i : Nat) (xs.length - i) ∧ env = [some d0, some d0, some (.obj ln), some (.tup xs), some (.tup xs), a5] ∧ h'[ln]? = some (.lst ((st ++ xs.take i).map pr)) ∧ Ex [] h0 h'
theorem p_lawsame {d0 : D} (hn : Nc d0) (hs : szD d0 ≤ 4000) (hw : 4001 ≤ w) (q : ∀ h', Ex [] h h' → Q (.bl true) h') : wp (Gn cds w (k + 2) 47 [d0, d0]) h Q := by
  rw [g47, w_run]
  refine ⟨rfl, ?_⟩
  rw [show b47 = CS.set _ _ :: CS.whl (whlT (b47.getD 1 .pass)) (whlB (b47.getD 1 .pass)) :: b47.drop 2 from rfl, s_cons]
  simp only [rules, bindG, bindGs, wipeE, placed, Nat.reduceAdd, Nat.reduceSub, Nat.reduceLeDiff, Nat.reduceLT, reduceIte, Int.reduceSub, Int.reduceAdd, Int.reduceMul]
  refine wp_whl (Inv := invSw d0 h.length h 4000) ?_ (m := szs [d0]) (by rw [szs_cons, szs_nil]; omega) ⟨[d0], _, _, _, Nat.le_refl _, by rw [szs_cons, szs_nil]; omega, fun d hd => by rw [List.mem_singleton.mp hd]; exact hn, rfl, List.getElem?_concat_length .., Ex.app⟩
  rintro m env h1 ⟨st, a3, a4, a5, i0, i1, i2, rfl, i3, i4⟩
  rw [show whlT (b47.getD 1 .pass) = CT.tru (.var 2) from rfl]
  simp only [rules, bindG, bindGs, wipeE, placed, Nat.reduceAdd, Nat.reduceSub, Nat.reduceLeDiff, Nat.reduceLT, reduceIte, Int.reduceSub, Int.reduceAdd, Int.reduceMul, t_lst i3, ex_some]
  rcases List.eq_nil_or_concat st with rfl | ⟨td, d, rfl⟩
  · simp only [List.map_nil, List.isEmpty_nil, rules, bindG, bindGs, wipeE, placed, Nat.reduceAdd, Nat.reduceSub, Nat.reduceLeDiff, Nat.reduceLT, reduceIte, Int.reduceSub, Int.reduceAdd, Int.reduceMul]
    rw [show b47.drop 2 = [CS.ret _] from rfl]
    simp only [rules, bindG, bindGs, wipeE, placed, Nat.reduceAdd, Nat.reduceSub, Nat.reduceLeDiff, Nat.reduceLT, reduceIte, Int.reduceSub, Int.reduceAdd, Int.reduceMul]
    exact q h1 i4
  · rw [List.concat_eq_append] at i0 i2 i3 ⊢
    rw [List.map_append] at i3
    have nd := i2 d (by simp)
    have szl := szs_len (xs := td)
    rw [szs_app, szs_cons, szs_nil, Nat.add_zero] at i0
    have pos := szD_pos (d := d)
    simp only [List.map_append, List.map_cons, List.map_nil, isEmpty_snoc, rules, bindG, bindGs, wipeE, placed, Nat.reduceAdd, Nat.reduceSub, Nat.reduceLeDiff, Nat.reduceLT, reduceIte, Int.reduceSub, Int.reduceAdd, Int.reduceMul]
    rw [show whlB (b47.getD 1 .pass) = CS.asg _ _ :: [CS.ifs _ [CS.ifs _ _ _, CS.for _ _ (forB ((thnB ((whlB (b47.getD 1 .pass)).getD 1 .pass)).getD 1 .pass))] _] from rfl, s_cons]
    simp only [rules, bindG, bindGs, wipeE, placed, Nat.reduceAdd, Nat.reduceSub, Nat.reduceLeDiff, Nat.reduceLT, reduceIte, Int.reduceSub, Int.reduceAdd, Int.reduceMul, isLst_ok i3]
    refine ⟨(), m_pop i3 fun h2 u2 e2 => ?_⟩
    have x2 := u2.ex i4 (.inl (Nat.le_refl _))
    unfold pr
    simp only [rules, bindG, bindGs, wipeE, placed, Nat.reduceAdd, Nat.reduceSub, Nat.reduceLeDiff, Nat.reduceLT, reduceIte, Int.reduceSub, Int.reduceAdd, Int.reduceMul]
    have done : ∀ (b3 b4 b5 : Option D), ∃ m', m' < m ∧ invSw d0 h.length h 4000 m' [some d0, some d0, some (.obj h.length), b3, b4, b5] h2 := fun b3 b4 b5 =>
      ⟨szs td, by omega, td, _, _, _, Nat.le_refl _, by omega, fun d hd => i2 d (List.mem_append_left _ hd), rfl, e2, x2⟩
    cases d with
    | obj n => unfold Nc at nd; exact nd.elim
    | fl xs => unfold Nc at nd; exact nd.elim
    | bl b => unfold Nc at nd; exact nd.elim
    | non =>
      simp only [rules, bindG, bindGs, wipeE, placed, Nat.reduceAdd, Nat.reduceSub, Nat.reduceLeDiff, Nat.reduceLT, reduceIte, Int.reduceSub, Int.reduceAdd, Int.reduceMul, it_non, is_non, nonD_non]
      exact done _ _ _
    | int i =>
      simp only [rules, bindG, bindGs, wipeE, placed, Nat.reduceAdd, Nat.reduceSub, Nat.reduceLeDiff, Nat.reduceLT, reduceIte, Int.reduceSub, Int.reduceAdd, Int.reduceMul, it_int, is_int, nonD_int]
      refine p_integer ?_
      simp only [rules, bindG, bindGs, wipeE, placed, Nat.reduceAdd, Nat.reduceSub, Nat.reduceLeDiff, Nat.reduceLT, reduceIte, Int.reduceSub, Int.reduceAdd, Int.reduceMul, decide_eq_true (show i = i from rfl)]
      exact done _ _ _
    | str x =>
      unfold Nc at nd
      simp only [rules, bindG, bindGs, wipeE, placed, Nat.reduceAdd, Nat.reduceSub, Nat.reduceLeDiff, Nat.reduceLT, reduceIte, Int.reduceSub, Int.reduceAdd, Int.reduceMul, it_str, is_str, c_neS nd nd, decide_eq_true (show x = x from rfl)]
      exact done _ _ _
    | tup xs =>
      unfold Nc at nd
      rw [szD] at i0
      have xl := szs_len (xs := xs)
      simp only [rules, bindG, bindGs, wipeE, placed, Nat.reduceAdd, Nat.reduceSub, Nat.reduceLeDiff, Nat.reduceLT, reduceIte, Int.reduceSub, Int.reduceAdd, Int.reduceMul, it_tup, decide_eq_true (show ((xs.length : Nat) : Int) = (xs.length : Nat) from rfl)]
      rw [w_rng1']
      simp only [rules, bindG, bindGs, wipeE, placed, Nat.reduceAdd, Nat.reduceSub, Nat.reduceLeDiff, Nat.reduceLT, reduceIte, Int.reduceSub, Int.reduceAdd, Int.reduceMul]
      refine ⟨_, rfl, w62 (by omega) (by omega), ?_⟩
      rw [Int.toNat_natCast]
      refine wp_for (Inv := invSf d0 h.length h td xs) ?_ ?_ ⟨0, _, Nat.zero_le _, rfl, rfl, by rw [List.take_zero, List.append_nil]; exact e2, x2⟩
      · rintro d ds env h3 ⟨i, b5, j1, j2, rfl, j3, j4⟩
        cases em : xs.length - i with
        | zero => rw [em] at j2; cases j2
        | succ m2 =>
        rw [em, rngL_succ, List.cons.injEq] at j2
        obtain ⟨rfl, rfl⟩ := j2
        have hi : i < xs.length := by omega
        have ea : atI xs ((i : Nat) : Int) = some xs[i] := by rw [at_nat' hi, List.getElem?_eq_getElem hi]
        refine ⟨Ks.nil, _, rfl, ?_⟩
        rw [show forB ((thnB ((whlB (b47.getD 1 .pass)).getD 1 .pass)).getD 1 .pass) = [CS.exp _] from rfl]
        simp only [rules, bindG, bindGs, wipeE, placed, Nat.reduceAdd, Nat.reduceSub, Nat.reduceLeDiff, Nat.reduceLT, reduceIte, Int.reduceSub, Int.reduceAdd, Int.reduceMul, isLst_ok j3, ea]
        have tl : (xs.take i).length ≤ i := List.length_take_le ..
        refine ⟨(), wp_app1 j3 (line_gt (by rw [List.length_map, List.length_append]; omega)) fun h4 u4 e4 => ?_⟩
        refine ⟨i + 1, _, hi, by rw [show xs.length - (i + 1) = m2 by omega]; rfl, rfl, ?_, u4.ex j4 (.inl (Nat.le_refl _))⟩
        rw [e4, List.take_succ, ← List.append_assoc, List.map_append (l₁ := td ++ xs.take i), List.getElem?_eq_getElem hi]
        rfl
      · rintro env h3 ⟨i, b5, j1, j2, rfl, j3, j4⟩
        have hi : xs.length ≤ i := by
          cases em : xs.length - i with
          | zero => omega
          | succ m2 => rw [em, rngL_succ] at j2; cases j2
        rw [List.take_of_length_le hi] at j3
        refine ⟨Ks.nil, ?_⟩
        simp only [rules, bindG, bindGs, wipeE, placed, Nat.reduceAdd, Nat.reduceSub, Nat.reduceLeDiff, Nat.reduceLT, reduceIte, Int.reduceSub, Int.reduceAdd, Int.reduceMul]
        refine ⟨szs td + szs xs, by omega, td ++ xs, _, _, _, by rw [szs_app]; exact Nat.le_refl _, by omega, fun d hd => ?_, rfl, j3, j4⟩
        rcases List.mem_append.mp hd with z | z
        · exact i2 d (List.mem_append_left _ z)
        · exact Ncs.mem nd z
/-- charts are nice -/
structure Ch.Nice (c : Ch) : Prop where
  nm : ∀ t ∈ c.ts, PyData.strOk t.nm = true ∧ t.pl.length ≤ 1
  lp : c.ps.length ≤ 30
  lt : c.ts.length ≤ 30
theorem ncs_nil : Ncs [] := by unfold Ncs; trivial
theorem ncs_cons {x : D} {xs : List D} (a : Nc x) (b : Ncs xs) : Ncs (x :: xs) := by unfold Ncs; exact ⟨a, b⟩
theorem nc_tup {xs : List D} (a : Ncs xs) : Nc (.tup xs) := by unfold Nc; exact a
theorem nc_int {i : Int} : Nc (.int i) := by unfold Nc; trivial
theorem nc_str {x : Str} (hx : PyData.strOk x = true) : Nc (.str x) := by unfold Nc; exact hx
theorem nc_od {o : Option Int} : Nc (od o) := by cases o <;> (unfold od Nc; trivial)
theorem sz_od {o : Option Int} : szD (od o) = 1 := by cases o <;> (unfold od; rw [szD])
theorem nc_pud {p : Int × Int × Int} : Nc (pud p) := nc_tup (ncs_cons nc_int (ncs_cons nc_int (ncs_cons nc_int ncs_nil)))
theorem sz_pud {p : Int × Int × Int} : szD (pud p) ≤ 4 := by
  unfold pud
  rw [szD, szs_cons, szs_cons, szs_cons, szs_nil, szD, szD, szD]
  omega
theorem nc_pd {p : Str × Int} (hp : PyData.strOk p.1 = true) : Nc (pd p) := nc_tup (ncs_cons (nc_str hp) (ncs_cons nc_int ncs_nil))
theorem sz_pd {p : Str × Int} : szD (pd p) ≤ 3 := by
  unfold pd
  rw [szD, szs_cons, szs_cons, szs_nil, szD, szD]
  omega
theorem nc_tie {t : Tie} (h1 : PyData.strOk t.nm = true) (h2 : PyData.strOk t.one = true) (h3 : PyData.strOk t.oth = true) : Nc t.d :=
  nc_tup (ncs_cons (nc_str h1) (ncs_cons (nc_str h2) (ncs_cons (nc_str h3) (ncs_cons nc_od (ncs_cons nc_od (ncs_cons (nc_tup (Ncs.of fun x hx => by
    obtain ⟨p, _, rfl⟩ := List.mem_map.mp hx
    exact nc_pud)) ncs_nil))))))
theorem sz_tie {t : Tie} (h1 : t.pl.length ≤ 1) : szD t.d ≤ 11 := by
  unfold Tie.d
  have e := szs_le (n := 4) (xs := t.pl.map pud) fun x hx => by
    obtain ⟨p, _, rfl⟩ := List.mem_map.mp hx
    exact sz_pud
  rw [List.length_map] at e
  rw [szD, szs_cons, szs_cons, szs_cons, szs_cons, szs_cons, szs_cons, szs_nil, szD, szD, szD, sz_od, sz_od, szD]
  omega
theorem Ch.Nice.nc (n : c.Nice) (ok : c.Ok) : Nc c.d ∧ szD c.d ≤ 4000 := by
  constructor
  · refine nc_tup (ncs_cons nc_int (ncs_cons (nc_tup (Ncs.of fun x hx => ?_)) (ncs_cons (nc_tup (Ncs.of fun x hx => ?_)) ncs_nil)))
    · obtain ⟨p, hp, rfl⟩ := List.mem_map.mp hx
      exact nc_pd (ok.str _ (List.mem_map.mpr ⟨p, hp, rfl⟩))
    · obtain ⟨t, ht, rfl⟩ := List.mem_map.mp hx
      exact nc_tie (n.nm t ht).1 (ok.str _ (ok.ends t ht).1) (ok.str _ (ok.ends t ht).2)
  · have e1 := szs_le (n := 3) (xs := c.ps.map pd) fun x hx => by
      obtain ⟨p, _, rfl⟩ := List.mem_map.mp hx
      exact sz_pd
    have e2 := szs_le (n := 11) (xs := c.ts.map Tie.d) fun x hx => by
      obtain ⟨t, ht, rfl⟩ := List.mem_map.mp hx
      exact sz_tie (n.nm t ht).2
    rw [List.length_map] at e1 e2
    have := n.lp
    have := n.lt
    unfold Ch.d
    rw [szD, szs_cons, szs_cons, szs_cons, szs_nil, szD, szD, szD]
    omega
theorem Ch.Nice.strike (n : c.Nice) (lot : List Nat) : (c.strike lot).Nice := by
  refine ⟨fun t ht => ?_, n.lp, ?_⟩
  · obtain ⟨p, hp, rfl⟩ := List.mem_map.mp (show t ∈ c.ts.zipIdx.map (strT lot) from ht)
    have hm : p.1 ∈ c.ts := by
      obtain ⟨t, i⟩ := p
      exact List.mem_of_getElem? (List.mk_mem_zipIdx_iff_getElem?.mp hp)
    have := n.nm p.1 hm
    unfold strT
    split
    · exact this
    · exact this
  · show (c.ts.zipIdx.map (strT lot)).length ≤ 30
    rw [List.length_map, List.length_zipIdx]
    exact n.lt
end K76

set_option maxHeartbeats 2000000
/-! MJ: what is told, judged. -/
namespace K76
open Mi
open PySem (Str PyData)
variable {w k : Nat} {h : MH} {Q : D → MH → Prop} {c : Ch}
theorem len_sub : ∀ {xs ys : List Nat}, xs.Nodup → (∀ x ∈ xs, x ∈ ys) → xs.length ≤ ys.length
  | [], ys, _, _ => Nat.zero_le _
  | x :: xs, ys, nd, hs => by
    rw [List.nodup_cons] at nd
    have hx := hs x (List.mem_cons_self ..)
    have ih := len_sub (ys := ys.erase x) nd.2 fun y hy => (List.mem_erase_of_ne (fun z => nd.1 (by rw [← z]; exact hy))).mpr (hs y (List.mem_cons_of_mem _ hy))
    rw [List.length_erase_of_mem hx] at ih
    have := List.length_pos_of_mem hx
    rw [List.length_cons]
    omega
theorem unfit_nodup {f : Nat → Int} : (unfitN c f).Nodup := by
  unfold unfitN
  have e : (c.ts.zipIdx.map (·.2)).Nodup := by
    rw [List.zipIdx_eq_zip_range', List.map_snd_zip (by rw [List.length_range']; omega)]
    exact List.nodup_range'
  exact (List.filter_sublist.map _).nodup e
theorem told_unfit {lot : List Nat} {f : Nat → Int} (t : Told (c.strike lot) f) : (unfitN c f).length ≤ lot.length := by
  refine len_sub unfit_nodup fun i hi => ?_
  unfold unfitN at hi
  obtain ⟨⟨t1, j⟩, hm, rfl⟩ := List.mem_map.mp hi
  obtain ⟨m1, m2⟩ := List.mem_filter.mp hm
  refine Classical.byContradiction fun hn => ?_
  have := t.keep t1 (List.mem_map.mpr ⟨(t1, j), m1, by unfold strT; rw [if_neg hn]⟩)
  have e : keepsB t1 (dfT c f t1) = true := this
  dsimp only at m2
  rw [e] at m2
  cases m2
/-! ### lots, plainly -/
theorem next_mem {held : List Nat} {last : List (List Nat)} {l : List Nat} : l ∈ nextL held last ↔ ∃ lot ∈ last, ∃ x ∈ held, tstL lot x = true ∧ l = lot ++ [x] := by
  unfold nextL extL
  rw [List.mem_flatMap]
  constructor
  · rintro ⟨lot, h1, h2⟩
    obtain ⟨x, h3, rfl⟩ := List.mem_map.mp h2
    obtain ⟨h4, h5⟩ := List.mem_filter.mp h3
    exact ⟨lot, h1, x, h4, h5, rfl⟩
  · rintro ⟨lot, h1, x, h2, h3, rfl⟩
    exact ⟨lot, h1, List.mem_map.mpr ⟨x, List.mem_filter.mpr ⟨h2, h3⟩, rfl⟩⟩
theorem lotsF_mem {held : List Nat} {l : List Nat} : ∀ {k : Nat} {found last : List (List Nat)} {n : Nat}, (∀ l ∈ found, l.length ≤ n) → (∀ l ∈ last, l.length = n) → l ∈ lotsF held k found last → l.length ≤ n + k
  | 0, found, last, n, h1, _, h3 => h1 l h3
  | k + 1, found, last, n, h1, h2, h3 => by
    have hn : ∀ l ∈ nextL held last, l.length = n + 1 := fun l hl => by
      obtain ⟨lot, a, x, _, _, rfl⟩ := next_mem.mp hl
      rw [List.length_append, h2 lot a, List.length_singleton]
    have := lotsF_mem (n := n + 1) (k := k) (fun l hl => (List.mem_append.mp hl).elim (fun z => Nat.le_succ_of_le (h1 l z)) fun z => Nat.le_of_eq (hn l z)) hn h3
    omega
theorem lots_le {held : List Nat} {m : Nat} {l : List Nat} (hl : l ∈ lots held m) : l.length ≤ m := by
  have := lotsF_mem (n := 0) (fun l hl => by rw [List.mem_singleton.mp hl]; exact Nat.le_refl _) (fun l hl => by rw [List.mem_singleton.mp hl]; rfl) hl
  omega
theorem extL_len {held lot : List Nat} : (extL held lot).length ≤ held.length := by
  unfold extL
  rw [List.length_map]
  exact List.length_filter_le ..
theorem nextL_len {held : List Nat} {last : List (List Nat)} : (nextL held last).length ≤ held.length * last.length := flat_len (fun _ => extL_len) _
theorem lots_count {held : List Nat} {m : Nat} (hm : m ≤ 2) (hh : held.length ≤ 30) : (lots held m).length ≤ 1000 := by
  have e1 : (nextL held [[]]).length ≤ held.length * 1 := nextL_len
  have e2 : (nextL held (nextL held [[]])).length ≤ held.length * (nextL held [[]]).length := nextL_len
  have e3 : held.length * (nextL held [[]]).length ≤ 30 * 30 := Nat.mul_le_mul hh (by omega)
  match m, hm with
  | 0, _ => exact (by decide : 1 ≤ 1000)
  | 1, _ =>
    show ([[]] ++ nextL held [[]]).length ≤ 1000
    rw [List.length_append, List.length_singleton]
    omega
  | 2, _ =>
    show (([[]] ++ nextL held [[]]) ++ nextL held (nextL held [[]])).length ≤ 1000
    rw [List.length_append, List.length_append, List.length_singleton]
    omega
def dueD : GW → D
  | .endless => .str "endless"
  | .none => .str "none"
  | .most x _ => .int x
theorem intD_at {f : Nat → Int} {v : Nat} : intD f v = .int (f v) := rfl
theorem c_gtI' {i j : Int} : cmpD .gt (.int i) (.int j) h = some (decide (j < i)) := rfl
theorem o_max1 {n : Nat} {i : Int} {is : List Int} (e : h[n]? = some (.lst ((i :: is).map .int))) (q : ∀ x, Q (.int x) h) : wp (bltD .max1 [.obj n]) h Q := by
  unfold bltD
  dsimp only
  rw [wp_bnd, wp_rd]
  have ei : ∀ l : List Int, intsOf (l.map .int) = some l := by
    intro l
    induction l with
    | nil => rfl
    | cons a l ih =>
      show (intsOf (l.map .int)).map (a :: ·) = _
      rw [ih]
      rfl
  refine ⟨is.foldl max i, ?_, wp_ret.mpr (q _)⟩
  rw [lstAt_iff.mpr e]
  show (intsOf ((i :: is).map .int)).bind mostI = _
  rw [ei]
  rfl
def invTl (c : Ch) (e0 : D) (x : Int) (f : Nat → Int) (e1 e2 e3 e4 e6 : Option D) (h0 : MH) (ds : List D) (env : Env) (h' : MH) : Prop := ∃ (i : Nat) (a7 : Option D), i ≤ 3 ∧ ds = rngL (i : Nat) (3 - i) ∧
  env = [some c.d, e1, e2, e3, e4, some e0, e6, a7, none, none] ∧ Ex [] h0 h'
theorem p_told (hw : 4000 ≤ w) (ok : c.Ok) {one oth : Str} (h1 : one ∈ c.names) (h2 : oth ∈ c.names) (hne : one ≠ oth) {many : Nat} (hm : many ≤ 2) (hlt : c.ts.length ≤ 30) {due : D} (hd : due = dueD (gwF (resF c one oth) (lots c.btn many) .none))
    (q : ∀ h', Ex [] h h' → Q (.bl true) h') : wp (Gn cds w (k + 9) 48 [c.d, .str one, .str oth, .int (many : Nat), due]) h Q := by
  have lp := ok.lp
  have hbl : c.btn.length ≤ 30 := by
    unfold Ch.btn
    rw [List.length_map]
    have := List.length_filter_le (fun p : Tie × Nat => bdT p.1) c.ts.zipIdx
    rw [List.length_zipIdx] at this
    omega
  have hcnt := lots_count hm hbl
  rw [g48, w_run]
  refine ⟨rfl, ?_⟩
  rw [show b48 = CS.set _ _ :: b48.drop 1 from rfl, s_cons]
  simp only [rules, bindG, bindGs, wipeE, placed, Nat.reduceAdd, Nat.reduceSub, Nat.reduceLeDiff, Nat.reduceLT, reduceIte, Int.reduceSub, Int.reduceAdd, Int.reduceMul]
  have sE : PyData.strOk ("endless" : Str) = true := by decide +kernel
  have sN : PyData.strOk ("none" : Str) = true := by decide +kernel
  have sG : PyData.strOk ("greatest" : Str) = true := by decide +kernel
  refine p_greatest_within hw ok h1 h2 hne (by omega) (by omega) (fun lot hl => by have := lots_le hl; omega) (fun h3 hR x3 => ?_) (fun h3 hR x3 => ?_) fun h3 x l f hR hl tf ef x3 => ?_
  · rw [hR] at hd
    subst hd
    unfold dueD
    rw [show b48.drop 1 = CS.ifs _ _ _ :: CS.ifs _ _ _ :: b48.drop 3 from rfl]
    simp only [rules, bindG, bindGs, wipeE, placed, Nat.reduceAdd, Nat.reduceSub, Nat.reduceLeDiff, Nat.reduceLT, reduceIte, Int.reduceSub, Int.reduceAdd, Int.reduceMul, it_tup, is_str]
    simp only [rules, bindG, bindGs, wipeE, placed, Nat.reduceAdd, Nat.reduceSub, Nat.reduceLeDiff, Nat.reduceLT, reduceIte, Int.reduceSub, Int.reduceAdd, Int.reduceMul, it_tup, is_str, c_eqS sE sE, decide_eq_true (show (("endless" : Str) = "endless") from rfl), show (decide (((1 : Nat) : Int) = 0)) = false from rfl, show (decide (((1 : Nat) : Int) = 1)) = true from rfl]
    exact q h3 x3
  · rw [hR] at hd
    subst hd
    unfold dueD
    rw [show b48.drop 1 = CS.ifs _ _ _ :: CS.ifs _ _ _ :: b48.drop 3 from rfl]
    simp only [rules, bindG, bindGs, wipeE, placed, Nat.reduceAdd, Nat.reduceSub, Nat.reduceLeDiff, Nat.reduceLT, reduceIte, Int.reduceSub, Int.reduceAdd, Int.reduceMul, it_tup, is_str]
    simp only [rules, bindG, bindGs, wipeE, placed, Nat.reduceAdd, Nat.reduceSub, Nat.reduceLeDiff, Nat.reduceLT, reduceIte, Int.reduceSub, Int.reduceAdd, Int.reduceMul, it_tup, is_str, c_eqS sN sN, decide_eq_true (show (("none" : Str) = "none") from rfl), show (decide (((1 : Nat) : Int) = 0)) = false from rfl, show (decide (((1 : Nat) : Int) = 1)) = true from rfl]
    exact q h3 x3
  · rw [hR] at hd
    subst hd
    unfold dueD
    have lps : 0 < c.ps.length := by have := Ch.Ok.ix_lt h1; omega
    have i1 := Ch.Ok.ix_lt h1
    have i2 := Ch.Ok.ix_lt h2
    rw [show b48.drop 1 = CS.ifs _ _ _ :: CS.ifs _ _ _ :: CS.ifs _ _ _ :: b48.drop 4 from rfl]
    simp only [rules, bindG, bindGs, wipeE, placed, Nat.reduceAdd, Nat.reduceSub, Nat.reduceLeDiff, Nat.reduceLT, reduceIte, Int.reduceSub, Int.reduceAdd, Int.reduceMul, it_tup, is_str, is_int]
    simp only [rules, bindG, bindGs, wipeE, placed, Nat.reduceAdd, Nat.reduceSub, Nat.reduceLeDiff, Nat.reduceLT, reduceIte, Int.reduceSub, Int.reduceAdd, Int.reduceMul, it_tup, is_str, is_int, c_neS sG sG, decide_eq_true (show (("greatest" : Str) = "greatest") from rfl), show (decide (((3 : Nat) : Int) = 0)) = false from rfl, show (decide (((3 : Nat) : Int) = 3)) = true from rfl]
    simp only [rules, bindG, bindGs, wipeE, placed, Nat.reduceAdd, Nat.reduceSub, Nat.reduceLeDiff, Nat.reduceLT, reduceIte, Int.reduceSub, Int.reduceAdd, Int.reduceMul, decide_true]
    refine p_integer ?_
    simp only [rules, bindG, bindGs, wipeE, placed, Nat.reduceAdd, Nat.reduceSub, Nat.reduceLeDiff, Nat.reduceLT, reduceIte, Int.reduceSub, Int.reduceAdd, Int.reduceMul, decide_true]
    rw [show b48.drop 4 = CS.ifs _ _ _ :: CS.set _ _ :: CS.ifs _ _ _ :: CS.ifs _ _ _ :: CS.for _ _ (forB (b48.getD 8 .pass)) :: b48.drop 9 from rfl]
    simp only [rules, bindG, bindGs, wipeE, placed, Nat.reduceAdd, Nat.reduceSub, Nat.reduceLeDiff, Nat.reduceLT, reduceIte, Int.reduceSub, Int.reduceAdd, Int.reduceMul]
    refine p_right ok (fun v hv => tf.cong v hv) fun h4 x4 => ?_
    try simp only [rules, bindG, bindGs, wipeE, placed, Nat.reduceAdd, Nat.reduceSub, Nat.reduceLeDiff, Nat.reduceLT, reduceIte, Int.reduceSub, Int.reduceAdd, Int.reduceMul]
    refine p_broken ok fun h5 x5 => ?_
    have ub := told_unfit tf
    have lb := lots_le hl
    simp only [rules, bindG, bindGs, wipeE, placed, Nat.reduceAdd, Nat.reduceSub, Nat.reduceLeDiff, Nat.reduceLT, reduceIte, Int.reduceSub, Int.reduceAdd, Int.reduceMul, decide_eq_false (show ¬ (((many : Nat) : Int) < ((unfitN c f).length : Nat)) by omega), cd1]
    refine wp_nms ok (by simp) fun h6 x6 e6 => ?_
    simp only [rules, bindG, bindGs, wipeE, placed, Nat.reduceAdd, Nat.reduceSub, Nat.reduceLeDiff, Nat.reduceLT, reduceIte, Int.reduceSub, Int.reduceAdd, Int.reduceMul, isLst_ok e6]
    refine ⟨(), m_index e6 h2 ?_⟩
    simp only [rules, bindG, bindGs, wipeE, placed, Nat.reduceAdd, Nat.reduceSub, Nat.reduceLeDiff, Nat.reduceLT, reduceIte, Int.reduceSub, Int.reduceAdd, Int.reduceMul, rowD_at i2, isLst_ok e6, intD_at]
    refine ⟨(), m_index e6 h1 ?_⟩
    simp only [rules, bindG, bindGs, wipeE, placed, Nat.reduceAdd, Nat.reduceSub, Nat.reduceLeDiff, Nat.reduceLT, reduceIte, Int.reduceSub, Int.reduceAdd, Int.reduceMul, rowD_at i1, intD_at, ef, decide_true]
    have lp0 : c.ps.length ≤ 900 := lp
    refine wp_mapf (fun d => match d with | .int i => .int (if i < 0 then -i else i) | _ => .non) h6 Ks.nil ?_ ?_ ?_
    · rw [rowD_len]
      omega
    · intro d hd h7 x7
      obtain ⟨v, _, rfl⟩ := List.mem_map.mp hd
      refine ⟨_, rfl, ?_⟩
      unfold intD
      simp only [rules, bindG, bindGs, wipeE, placed, Nat.reduceAdd, Nat.reduceSub, Nat.reduceLeDiff, Nat.reduceLT, reduceIte, Int.reduceSub, Int.reduceAdd, Int.reduceMul]
      first | exact Ex.refl | exact ⟨rfl, Ex.refl⟩
    · intro h7 x7 e7
      obtain ⟨i, is, ei⟩ : ∃ (i : Int) (is : List Int), List.map (fun d : D => (match d with | .int i => .int (if i < 0 then -i else i) | _ => .non : D)) (rowD c.ps.length (intD f)) = (i :: is).map .int := by
        refine ⟨(if f 0 < 0 then - f 0 else f 0), ((List.range' 1 (c.ps.length - 1)).map fun v => if f v < 0 then - f v else f v), ?_⟩
        unfold rowD intD
        obtain ⟨n, en⟩ : ∃ n, c.ps.length = n + 1 := ⟨c.ps.length - 1, by omega⟩
        rw [en, List.range_eq_range', List.range'_succ, List.map_map, List.map_cons, List.map_cons, List.map_map]
        rfl
      rw [ei] at e7
      refine o_max1 e7 fun mx => ?_
      try simp only [rules, bindG, bindGs, wipeE, placed, Nat.reduceAdd, Nat.reduceSub, Nat.reduceLeDiff, Nat.reduceLT, reduceIte, Int.reduceSub, Int.reduceAdd, Int.reduceMul]
      refine o_pow (by decide) (by decide) (by decide) ?_
      have x37 := (((x3.trans x4).trans x5).trans x6).trans x7
      simp only [rules, bindG, bindGs, wipeE, placed, Nat.reduceAdd, Nat.reduceSub, Nat.reduceLeDiff, Nat.reduceLT, reduceIte, Int.reduceSub, Int.reduceAdd, Int.reduceMul]
      by_cases z : (10 : Int) ^ (6 : Int).toNat < mx
      · rw [decide_eq_true z]
        simp only [rules, bindG, bindGs, wipeE, placed, Nat.reduceAdd, Nat.reduceSub, Nat.reduceLeDiff, Nat.reduceLT, reduceIte, Int.reduceSub, Int.reduceAdd, Int.reduceMul]
        exact q h7 x37
      · rw [decide_eq_false z]
        simp only [rules, bindG, bindGs, wipeE, placed, Nat.reduceAdd, Nat.reduceSub, Nat.reduceLeDiff, Nat.reduceLT, reduceIte, Int.reduceSub, Int.reduceAdd, Int.reduceMul]
        rw [w_rng1']
        simp only [rules, bindG, bindGs, wipeE, placed, Nat.reduceAdd, Nat.reduceSub, Nat.reduceLeDiff, Nat.reduceLT, reduceIte, Int.reduceSub, Int.reduceAdd, Int.reduceMul]
        refine ⟨_, rfl, w62 (by decide) (by decide), ?_⟩
        refine wp_for (Inv := invTl c (D.tup [D.str (Str.ofString "greatest"), D.int x, D.tup (rowD c.ps.length (intD f))]) x f (some (.str one)) (some (.str oth)) (some (.int (many : Nat))) (some (.int x)) (some (.obj h5.length)) h) ?_ ?_ ⟨0, _, by decide, rfl, rfl, x37⟩
        · rintro d ds env g ⟨i, a7, j1, j2, rfl, j3⟩
          cases em : 3 - i with
          | zero => rw [em] at j2; cases j2
          | succ m =>
          rw [em, rngL_succ, List.cons.injEq] at j2
          obtain ⟨rfl, rfl⟩ := j2
          refine ⟨Ks.nil, _, rfl, ?_⟩
          rw [show forB (b48.getD 8 .pass) = [CS.ifs _ _ _] from rfl]
          simp only [rules, bindG, bindGs, wipeE, placed, Nat.reduceAdd, Nat.reduceSub, Nat.reduceLeDiff, Nat.reduceLT, reduceIte, Int.reduceSub, Int.reduceAdd, Int.reduceMul]
          refine p_is_within ok fun g2 y2 => ?_
          try simp only [rules, bindG, bindGs, wipeE, placed, Nat.reduceAdd, Nat.reduceSub, Nat.reduceLeDiff, Nat.reduceLT, reduceIte, Int.reduceSub, Int.reduceAdd, Int.reduceMul]
          refine p_broken ok fun g3 y3 => ?_
          simp only [rules, bindG, bindGs, wipeE, placed, Nat.reduceAdd, Nat.reduceSub, Nat.reduceLeDiff, Nat.reduceLT, reduceIte, Int.reduceSub, Int.reduceAdd, Int.reduceMul]
          refine p_says rfl ?_
          simp only [rules, bindG, bindGs, wipeE, placed, Nat.reduceAdd, Nat.reduceSub, Nat.reduceLeDiff, Nat.reduceLT, reduceIte, Int.reduceSub, Int.reduceAdd, Int.reduceMul]
          exact ⟨i + 1, _, by omega, by rw [show 3 - (i + 1) = m by omega]; rfl, rfl, (j3.trans y2).trans y3⟩
        · rintro env g ⟨i, a7, j1, j2, rfl, j3⟩
          refine ⟨Ks.nil, ?_⟩
          rw [show b48.drop 9 = [CS.ret _] from rfl]
          simp only [rules, bindG, bindGs, wipeE, placed, Nat.reduceAdd, Nat.reduceSub, Nat.reduceLeDiff, Nat.reduceLT, reduceIte, Int.reduceSub, Int.reduceAdd, Int.reduceMul]
          exact q g j3
end K76

set_option maxHeartbeats 2000000
/-! MK: what is asked of a chart. -/
namespace K76
open Mi
open PySem (Str PyData)
variable {w k : Nat} {h : MH} {Q : D → MH → Prop} {c : Ch}
theorem ints_row {is : List Int} {n : Nat} (hl : is.length = n) : is.map D.int = rowD n (intD fun v => (is[v]?).getD 0) := by
  unfold rowD intD
  refine List.ext_getElem? fun i => ?_
  rw [List.getElem?_map, List.getElem?_map]
  by_cases z : i < n
  · rw [List.getElem?_range z, List.getElem?_eq_getElem (show i < is.length by omega)]
    show some (D.int is[i]) = some (D.int ((is[i]?).getD 0))
    rw [List.getElem?_eq_getElem (show i < is.length by omega)]
    rfl
  · rw [List.getElem?_eq_none (by omega), List.getElem?_eq_none (by rw [List.length_range]; omega)]
    rfl
theorem gwD_word {R : GW} : ∃ xs, gwD R = .tup xs := by cases R <;> exact ⟨_, rfl⟩
def invA1 (f : Po) (c : Ch) (one oth : Str) (h0 : MH) (ds : List D) (env : Env) (h' : MH) : Prop := ∃ (i : Nat) (a4 a10 a11 : Option D), i ≤ 3 ∧ ds = rngL (i : Nat) (3 - i) ∧
  env = [some (.obj f.p), some c.d, some (.str one), some (.str oth), a4, none, none, none, none, none, a10, a11, none, none, none] ∧ Pool f h' ∧ Ex [f.p] h0 h'
def invA2 (f : Po) (c : Ch) (land : D) (e2 e3 e5 e6 e7 e8 e10 e11 e12 : Option D) (h0 : MH) (ds : List D) (env : Env) (h' : MH) : Prop := ∃ (i : Nat) (a4 : Option D), i ≤ 3 ∧ ds = rngL (i : Nat) (3 - i) ∧
  env = [some (.obj f.p), some c.d, e2, e3, a4, e5, e6, e7, e8, some land, e10, e11, e12, none, none] ∧ Pool f h' ∧ Ex [f.p] h0 h'
theorem p_asked (hw : 5000 ≤ w) (ok : c.Ok) (nc : c.Nice) (m1000 : c.m ≤ 1000) {f : Po} (ff : Pool f h) {one oth : Str} (h1 : one ∈ c.names) (h2 : oth ∈ c.names) (hne : one ≠ oth)
    (q : ∀ h', Pool f h' → Ex [f.p] h h' → Q (.bl true) h') : wp (Gn cds w (k + 10) 50 [.obj f.p, c.d, .str one, .str oth]) h Q := by
  have lp := ok.lp
  have lt := ok.lt
  have lt30 := nc.lt
  have hbl : c.btn.length ≤ 30 := by
    unfold Ch.btn
    rw [List.length_map]
    have := List.length_filter_le (fun p : Tie × Nat => bdT p.1) c.ts.zipIdx
    rw [List.length_zipIdx] at this
    omega
  have i1 := Ch.Ok.ix_lt h1
  have i2 := Ch.Ok.ix_lt h2
  rw [g50, w_run]
  refine ⟨rfl, ?_⟩
  rw [show b50 = CS.for _ _ (forB (b50.getD 0 .pass)) :: b50.drop 1 from rfl, s_cons]
  simp only [rules, bindG, bindGs, wipeE, placed, Nat.reduceAdd, Nat.reduceSub, Nat.reduceLeDiff, Nat.reduceLT, reduceIte, Int.reduceSub, Int.reduceAdd, Int.reduceMul]
  rw [w_rng1']
  simp only [rules, bindG, bindGs, wipeE, placed, Nat.reduceAdd, Nat.reduceSub, Nat.reduceLeDiff, Nat.reduceLT, reduceIte, Int.reduceSub, Int.reduceAdd, Int.reduceMul]
  refine ⟨_, rfl, w62 (by decide) (by decide), ?_⟩
  refine wp_for (Inv := invA1 f c one oth h) ?_ ?_ ⟨0, _, _, _, by decide, rfl, rfl, ff, Ex.refl⟩
  · rintro d ds env g ⟨i, a4, a10, a11, j1, j2, rfl, j3, j4⟩
    cases em : 3 - i with
    | zero => rw [em] at j2; cases j2
    | succ m =>
    rw [em, rngL_succ, List.cons.injEq] at j2
    obtain ⟨rfl, rfl⟩ := j2
    refine ⟨Ks.nil, _, rfl, ?_⟩
    rw [show forB (b50.getD 0 .pass) = CS.set _ _ :: CS.set _ _ :: CS.ifs _ _ _ :: [CS.ifs _ _ _] from rfl]
    have hm : i ≤ 2 := by omega
    have hcnt := lots_count hm hbl
    have sE : PyData.strOk ("endless" : Str) = true := by decide +kernel
    have sN : PyData.strOk ("none" : Str) = true := by decide +kernel
    have sG : PyData.strOk ("greatest" : Str) = true := by decide +kernel
    have nE : ("endless" : Str) ≠ "greatest" := by decide +kernel
    have nN : ("none" : Str) ≠ "greatest" := by decide +kernel
    simp only [rules, bindG, bindGs, wipeE, placed, Nat.reduceAdd, Nat.reduceSub, Nat.reduceLeDiff, Nat.reduceLT, reduceIte, Int.reduceSub, Int.reduceAdd, Int.reduceMul]
    refine p_lawgreatest ok h1 h2 (by omega) (by omega) (fun lot hl => by have := lots_le hl; omega) fun g2 y2 => ?_
    have fin : ∀ (g3 : MH) (b10 b11 : Option D), Ex [] g2 g3 → invA1 f c one oth h (rngL ((i : Int) + 1) m) [some (.obj f.p), some c.d, some (.str one), some (.str oth), some (.int (i : Nat)), none, none, none, none, none, b10, b11, none, none, none] g3 := fun g3 b10 b11 y3 =>
      ⟨i + 1, _, _, _, by omega, by rw [show 3 - (i + 1) = m by omega]; rfl, rfl, j3.ex (y2.trans y3), j4.trans (y2.trans y3).mono⟩
    cases hR : gwF (resF c one oth) (lots c.btn i) .none with
    | endless =>
      unfold gwD
      simp only [rules, bindG, bindGs, wipeE, placed, Nat.reduceAdd, Nat.reduceSub, Nat.reduceLeDiff, Nat.reduceLT, reduceIte, Int.reduceSub, Int.reduceAdd, Int.reduceMul, c_eqS sE sG, decide_eq_false nE]
      refine p_told (by omega) ok h1 h2 hne hm lt30 (by rw [hR]; rfl) fun g3 y3 => ?_
      simp only [rules, bindG, bindGs, wipeE, placed, Nat.reduceAdd, Nat.reduceSub, Nat.reduceLeDiff, Nat.reduceLT, reduceIte, Int.reduceSub, Int.reduceAdd, Int.reduceMul]
      exact fin g3 _ _ y3
    | none =>
      unfold gwD
      simp only [rules, bindG, bindGs, wipeE, placed, Nat.reduceAdd, Nat.reduceSub, Nat.reduceLeDiff, Nat.reduceLT, reduceIte, Int.reduceSub, Int.reduceAdd, Int.reduceMul, c_eqS sN sG, decide_eq_false nN]
      refine p_told (by omega) ok h1 h2 hne hm lt30 (by rw [hR]; rfl) fun g3 y3 => ?_
      simp only [rules, bindG, bindGs, wipeE, placed, Nat.reduceAdd, Nat.reduceSub, Nat.reduceLeDiff, Nat.reduceLT, reduceIte, Int.reduceSub, Int.reduceAdd, Int.reduceMul]
      exact fin g3 _ _ y3
    | most x l =>
      unfold gwD
      simp only [rules, bindG, bindGs, wipeE, placed, Nat.reduceAdd, Nat.reduceSub, Nat.reduceLeDiff, Nat.reduceLT, reduceIte, Int.reduceSub, Int.reduceAdd, Int.reduceMul, c_eqS sG sG, decide_true]
      refine p_told (by omega) ok h1 h2 hne hm lt30 (by rw [hR]; rfl) fun g3 y3 => ?_
      simp only [rules, bindG, bindGs, wipeE, placed, Nat.reduceAdd, Nat.reduceSub, Nat.reduceLeDiff, Nat.reduceLT, reduceIte, Int.reduceSub, Int.reduceAdd, Int.reduceMul]
      exact fin g3 _ _ y3
  · rintro env g ⟨i, a4, a10, a11, j1, j2, rfl, j3, j4⟩
    refine ⟨Ks.nil, ?_⟩
    rw [show b50.drop 1 = CS.set _ _ :: CS.set _ _ :: CS.ifs _ _ _ :: b50.drop 4 from rfl]
    simp only [rules, bindG, bindGs, wipeE, placed, Nat.reduceAdd, Nat.reduceSub, Nat.reduceLeDiff, Nat.reduceLT, reduceIte, Int.reduceSub, Int.reduceAdd, Int.reduceMul]
    rw [w_rng1']
    simp only [rules, bindG, bindGs, wipeE, placed, Nat.reduceAdd, Nat.reduceSub, Nat.reduceLeDiff, Nat.reduceLT, reduceIte, Int.reduceSub, Int.reduceAdd, Int.reduceMul, cd2]
    refine ⟨_, rfl, by rw [List.length_map]; exact w62 (by omega) (by omega), ?_⟩
    rw [List.length_map, Int.toNat_natCast, rngL_nats]
    refine wp_subP g j3 Ks.nil (fun p hp => nomatch hp) (by rw [nats_len, List.length_range]; omega) ?_ ?_
    · intro d hd g2 j5 y5
      obtain ⟨v, _, rfl⟩ := List.mem_map.mp hd
      refine ⟨_, rfl, ?_⟩
      simp only [rules, bindG, bindGs, wipeE, placed, Nat.reduceAdd, Nat.reduceSub, Nat.reduceLeDiff, Nat.reduceLT, reduceIte, Int.reduceSub, Int.reduceAdd, Int.reduceMul]
      refine p_take j5 (by decide) fun g3 r j6 y6 _ _ => ?_
      simp only [rules, bindG, bindGs, wipeE, placed, Nat.reduceAdd, Nat.reduceSub, Nat.reduceLeDiff, Nat.reduceLT, reduceIte, Int.reduceSub, Int.reduceAdd, Int.reduceMul]
      exact ⟨j6, y6, fun _ => by first | trivial | rfl | exact ⟨rfl, rfl⟩⟩
    · intro g2 ys j5 y5 hsub e5
      obtain ⟨lot, hlot, rfl⟩ := List.sublist_map_iff.mp (show ys.Sublist ((List.range c.ts.length).map fun i => .int (i : Nat)) from hsub)
      have lotl : lot.length ≤ 1000 := by
        have := hlot.length_le
        rw [List.length_range] at this
        omega
      refine o_tupL e5 ?_
      rw [show D.tup (lot.map fun i => .int (i : Nat)) = lotD lot from rfl]
      try simp only [rules, bindG, bindGs, wipeE, placed, Nat.reduceAdd, Nat.reduceSub, Nat.reduceLeDiff, Nat.reduceLT, reduceIte, Int.reduceSub, Int.reduceAdd, Int.reduceMul]
      refine p_lawstruck ok fun g3 y3 => ?_
      try simp only [rules, bindG, bindGs, wipeE, placed, Nat.reduceAdd, Nat.reduceSub, Nat.reduceLeDiff, Nat.reduceLT, reduceIte, Int.reduceSub, Int.reduceAdd, Int.reduceMul]
      refine p_struck_chart ok (by omega) fun g4 y4 => ?_
      try simp only [rules, bindG, bindGs, wipeE, placed, Nat.reduceAdd, Nat.reduceSub, Nat.reduceLeDiff, Nat.reduceLT, reduceIte, Int.reduceSub, Int.reduceAdd, Int.reduceMul]
      obtain ⟨n1, n2⟩ := (nc.strike lot).nc (ok.strike lot)
      refine p_lawsame n1 n2 (by omega) fun g5 y6 => ?_
      simp only [rules, bindG, bindGs, wipeE, placed, Nat.reduceAdd, Nat.reduceSub, Nat.reduceLeDiff, Nat.reduceLT, reduceIte, Int.reduceSub, Int.reduceAdd, Int.reduceMul]
      rw [show b50.drop 4 = CS.set _ _ :: CS.set _ _ :: CS.ifs _ _ _ :: b50.drop 7 from rfl]
      simp only [rules, bindG, bindGs, wipeE, placed, Nat.reduceAdd, Nat.reduceSub, Nat.reduceLeDiff, Nat.reduceLT, reduceIte, Int.reduceSub, Int.reduceAdd, Int.reduceMul, cd1]
      refine wp_nms ok (by simp) fun g6 y7 e6 => ?_
      try simp only [rules, bindG, bindGs, wipeE, placed, Nat.reduceAdd, Nat.reduceSub, Nat.reduceLeDiff, Nat.reduceLT, reduceIte, Int.reduceSub, Int.reduceAdd, Int.reduceMul]
      refine o_lenL e6 ?_
      rw [List.length_map, names_len]
      refine p_lawlegs ok fun g7 n7 l7 y8 e7 => ?_
      have y27 := (((y3.trans y4).trans y6).trans y7).trans y8
      have fin : ∀ (g8 : MH) (b8 b10 b11 b12 : Option D), Ex [] g7 g8 → ∀ QS : Out × Env → MH → Prop, (∀ g' env, Pool f g' → Ex [f.p] h g' → QS (.ret (.bl true), env) g') → wp (evSs (Gn cds w (k + 9)) w (b50.drop 7)
          [some (.obj f.p), some c.d, some (.str one), some (.str oth), a4, some (lotD lot), some (c.strike lot).d, some (.obj g5.length), b8, none, b10, b11, b12, none, none]) g8 QS := fun g8 b8 b10 b11 b12 y9 QS qs => by
        rw [show b50.drop 7 = CS.set _ _ :: CS.for _ _ (forB (b50.getD 8 .pass)) :: b50.drop 9 from rfl, s_cons]
        simp only [rules, bindG, bindGs, wipeE, placed, Nat.reduceAdd, Nat.reduceSub, Nat.reduceLeDiff, Nat.reduceLT, reduceIte, Int.reduceSub, Int.reduceAdd, Int.reduceMul, cd1]
        have jp : Pool f g8 := j5.ex (y27.trans y9)
        have yp : Ex [f.p] h g8 := (j4.trans y5).trans (y27.trans y9).mono
        refine wp_lcP (fun _ y => ∃ v : Int, y = .int v) g8 jp Ks.nil (fun p hp => nomatch hp) (by rw [List.length_map]; omega) ?_ ?_
        · intro d hd g9 j9 z9
          obtain ⟨p, _, rfl⟩ := List.mem_map.mp hd
          refine ⟨_, rfl, ?_⟩
          unfold pd
          simp only [rules, bindG, bindGs, wipeE, placed, Nat.reduceAdd, Nat.reduceSub, Nat.reduceLeDiff, Nat.reduceLT, reduceIte, Int.reduceSub, Int.reduceAdd, Int.reduceMul, cd0]
          refine p_take j9 (by decide) fun g10 r j10 z10 r0 r1 => ?_
          try simp only [rules, bindG, bindGs, wipeE, placed, Nat.reduceAdd, Nat.reduceSub, Nat.reduceLeDiff, Nat.reduceLT, reduceIte, Int.reduceSub, Int.reduceAdd, Int.reduceMul]
          refine o_mul.mpr ⟨sm_r (by omega) (by omega), ?_⟩
          try simp only [rules, bindG, bindGs, wipeE, placed, Nat.reduceAdd, Nat.reduceSub, Nat.reduceLeDiff, Nat.reduceLT, reduceIte, Int.reduceSub, Int.reduceAdd, Int.reduceMul]
          exact ⟨⟨_, rfl⟩, j10, z10⟩
        · intro g9 ys j9 z9 p9 e9
          obtain ⟨is, rfl⟩ : ∃ ls : List Int, ys = ls.map .int := ints_of fun y hy => by
            obtain ⟨d, _, v, rfl⟩ := p9.mem hy
            exact ⟨v, rfl⟩
          have isl : is.length = c.ps.length := by
            have := p9.1
            rw [List.length_map, List.length_map] at this
            exact this
          refine o_tupL e9 ?_
          rw [ints_row isl]
          generalize (fun v : Nat => (is[v]?).getD 0) = F
          try simp only [rules, bindG, bindGs, wipeE, placed, Nat.reduceAdd, Nat.reduceSub, Nat.reduceLeDiff, Nat.reduceLT, reduceIte, Int.reduceSub, Int.reduceAdd, Int.reduceMul]
          rw [w_rng1']
          simp only [rules, bindG, bindGs, wipeE, placed, Nat.reduceAdd, Nat.reduceSub, Nat.reduceLeDiff, Nat.reduceLT, reduceIte, Int.reduceSub, Int.reduceAdd, Int.reduceMul]
          refine ⟨_, rfl, w62 (by decide) (by decide), ?_⟩
          refine wp_for (Inv := invA2 f c (.tup (rowD c.ps.length (intD F))) (some (.str one)) (some (.str oth)) (some (lotD lot)) (some (c.strike lot).d) (some (.obj g5.length)) b8 b10 b11 b12 h) ?_ ?_ ⟨0, _, by decide, rfl, rfl, j9, yp.trans z9⟩
          · rintro d ds env gA ⟨i, a4, k1, k2, rfl, k3, k4⟩
            cases em : 3 - i with
            | zero => rw [em] at k2; cases k2
            | succ m =>
            rw [em, rngL_succ, List.cons.injEq] at k2
            obtain ⟨rfl, rfl⟩ := k2
            refine ⟨Ks.nil, _, rfl, ?_⟩
            rw [show forB (b50.getD 8 .pass) = [CS.ifs _ _ _] from rfl]
            simp only [rules, bindG, bindGs, wipeE, placed, Nat.reduceAdd, Nat.reduceSub, Nat.reduceLeDiff, Nat.reduceLT, reduceIte, Int.reduceSub, Int.reduceAdd, Int.reduceMul]
            refine p_is_within ok fun gB zB => ?_
            try simp only [rules, bindG, bindGs, wipeE, placed, Nat.reduceAdd, Nat.reduceSub, Nat.reduceLeDiff, Nat.reduceLT, reduceIte, Int.reduceSub, Int.reduceAdd, Int.reduceMul]
            refine p_broken ok fun gC zC => ?_
            simp only [rules, bindG, bindGs, wipeE, placed, Nat.reduceAdd, Nat.reduceSub, Nat.reduceLeDiff, Nat.reduceLT, reduceIte, Int.reduceSub, Int.reduceAdd, Int.reduceMul]
            refine p_says rfl ?_
            simp only [rules, bindG, bindGs, wipeE, placed, Nat.reduceAdd, Nat.reduceSub, Nat.reduceLeDiff, Nat.reduceLT, reduceIte, Int.reduceSub, Int.reduceAdd, Int.reduceMul]
            exact ⟨i + 1, _, by omega, by rw [show 3 - (i + 1) = m by omega]; rfl, rfl, k3.ex (zB.trans zC), k4.trans (zB.trans zC).mono⟩
          · rintro env gA ⟨i, a4, k1, k2, rfl, k3, k4⟩
            refine ⟨Ks.nil, ?_⟩
            rw [show b50.drop 9 = [CS.ret _] from rfl]
            simp only [rules, bindG, bindGs, wipeE, placed, Nat.reduceAdd, Nat.reduceSub, Nat.reduceLeDiff, Nat.reduceLT, reduceIte, Int.reduceSub, Int.reduceAdd, Int.reduceMul]
            exact qs gA _ k3 k4
      have qret : ∀ g' env, Pool f g' → Ex [f.p] h g' → (fun (r : Out × Env) (h : MH) => match r.1 with | .ret x => Q x h | .nx => Q .non h | _ => False) (.ret (.bl true), env) g' := fun g' env a b => q g' a b
      refine p_table_of ok e7 (fun g8 hn y9 => ?_) fun g8 tn rs T hfr hT tb y9 => ?_
      · simp only [nonD_non, rules, bindG, bindGs, wipeE, placed, Nat.reduceAdd, Nat.reduceSub, Nat.reduceLeDiff, Nat.reduceLT, reduceIte, Int.reduceSub, Int.reduceAdd, Int.reduceMul]
        exact fin g8 _ _ _ _ y9 _ fun g' env a b => q g' a b
      · have e8 := y9.at0 (y8.at0 e6)
        obtain ⟨a, ra, p1, p2, p3⟩ := tb.row i1
        simp only [nonD_obj, rules, bindG, bindGs, wipeE, placed, Nat.reduceAdd, Nat.reduceSub, Nat.reduceLeDiff, Nat.reduceLT, reduceIte, Int.reduceSub, Int.reduceAdd, Int.reduceMul, isLst_ok e8]
        refine ⟨(), m_index e8 h1 ?_⟩
        simp only [rules, bindG, bindGs, wipeE, placed, Nat.reduceAdd, Nat.reduceSub, Nat.reduceLeDiff, Nat.reduceLT, reduceIte, Int.reduceSub, Int.reduceAdd, Int.reduceMul, p1, isLst_ok e8]
        refine ⟨(), m_index e8 h2 ?_⟩
        simp only [rules, bindG, bindGs, wipeE, placed, Nat.reduceAdd, Nat.reduceSub, Nat.reduceLeDiff, Nat.reduceLT, reduceIte, Int.reduceSub, Int.reduceAdd, Int.reduceMul, p2 _ i2]
        refine p_greatest (by omega) (ok.strike lot) hfr h1 h2 hne fun g9 o hd yA => ?_
        have eo : o = T (c.ix one) (c.ix oth) := (dV_spec hd).trans (hT _ _ i1 i2).symm
        rw [← eo]
        cases o with
        | none =>
          simp only [od, nonD_non, rules, bindG, bindGs, wipeE, placed, Nat.reduceAdd, Nat.reduceSub, Nat.reduceLeDiff, Nat.reduceLT, reduceIte, Int.reduceSub, Int.reduceAdd, Int.reduceMul]
          exact fin g9 _ _ _ _ (y9.trans yA) _ fun g' env a b => q g' a b
        | some x =>
          simp only [od, nonD_int, rules, bindG, bindGs, wipeE, placed, Nat.reduceAdd, Nat.reduceSub, Nat.reduceLeDiff, Nat.reduceLT, reduceIte, Int.reduceSub, Int.reduceAdd, Int.reduceMul]
          refine p_integer ?_
          simp only [rules, bindG, bindGs, wipeE, placed, Nat.reduceAdd, Nat.reduceSub, Nat.reduceLeDiff, Nat.reduceLT, reduceIte, Int.reduceSub, Int.reduceAdd, Int.reduceMul, decide_true]
          exact fin g9 _ _ _ _ (y9.trans yA) _ fun g' env a b => q g' a b
end K76

set_option maxHeartbeats 2000000
/-! ML: plain: lots, the greatest of them, two places. -/
namespace K76
open Mi
open PySem (Str PyData)
variable {w k : Nat} {h : MH} {Q : D → MH → Prop} {c : Ch}
/-! ### which lots there are -/
theorem lotsF_has {held l : List Nat} : ∀ (k : Nat) (found last : List (List Nat)), l ∈ found → l ∈ lotsF held k found last
  | 0, _, _, h => h
  | k + 1, found, last, h => lotsF_has k _ _ (List.mem_append_left _ h)
/-- lots of rising members -/
inductive Lay (held : List Nat) : Nat → List Nat → Prop
  | nil : Lay held 0 []
  | snoc {j : Nat} {l : List Nat} {x : Nat} : Lay held j l → x ∈ held → tstL l x = true → Lay held (j + 1) (l ++ [x])
theorem lay_lotsF {held : List Nat} : ∀ (k j n : Nat) (found last : List (List Nat)) (l : List Nat), (∀ l, Lay held n l → l ∈ last) → (∀ i, i ≤ n → ∀ l, Lay held i l → l ∈ found) → Lay held j l → j ≤ n + k → l ∈ lotsF held k found last
  | 0, j, n, found, last, l, _, h2, h3, h4 => h2 j h4 l h3
  | k + 1, j, n, found, last, l, h1, h2, h3, h4 => by
    have hn : ∀ l, Lay held (n + 1) l → l ∈ nextL held last := fun l hl => by
      cases hl with
      | snoc a b c => exact next_mem.mpr ⟨_, h1 _ a, _, b, c, rfl⟩
    refine lay_lotsF k j (n + 1) (found ++ nextL held last) (nextL held last) l hn (fun i hi l hl => ?_) h3 (by omega)
    by_cases z : i ≤ n
    · exact List.mem_append_left _ (h2 i z l hl)
    · have : i = n + 1 := by omega
      subst this
      exact List.mem_append_right _ (hn l hl)
theorem lay_lots {held l : List Nat} {j m : Nat} (hl : Lay held j l) (hj : j ≤ m) : l ∈ lots held m := by
  refine lay_lotsF m j 0 [[]] [[]] l (fun l hl => ?_) (fun i hi l hl => ?_) hl (by omega)
  · cases hl
    exact List.mem_singleton.mpr rfl
  · have : i = 0 := by omega
    subst this
    cases hl
    exact List.mem_singleton.mpr rfl
theorem lay_filter {p : Nat → Bool} : ∀ (n N : Nat), n ≤ N → Lay (List.range N) ((List.range n).filter p).length ((List.range n).filter p)
  | 0, N, _ => Lay.nil
  | n + 1, N, hn => by
    have ih := lay_filter (p := p) n N (by omega)
    rw [List.range_succ, List.filter_append, List.filter_cons, List.filter_nil]
    by_cases z : p n = true
    · rw [if_pos z, List.length_append, List.length_singleton]
      refine Lay.snoc ih (List.mem_range.mpr (by omega)) ?_
      unfold tstL
      rw [Bool.or_eq_true]
      rcases List.eq_nil_or_concat ((List.range n).filter p) with e | ⟨l0, y, e⟩
      · rw [e]
        exact .inl rfl
      · refine .inr ?_
        rw [e, List.concat_eq_append, List.getLast?_concat]
        have hy : y ∈ (List.range n).filter p := by rw [e, List.concat_eq_append]; simp
        have := List.mem_range.mp (List.mem_filter.mp hy).1
        exact decide_eq_true this
    · rw [if_neg z, List.append_nil]
      exact ih
theorem filter_lots {p : Nat → Bool} {n m : Nat} (hm : ((List.range n).filter p).length ≤ m) : (List.range n).filter p ∈ lots (List.range n) m := lay_lots (lay_filter n n (Nat.le_refl _)) hm
/-! ### the greatest -/
theorem gw_endless {r : List Nat → Option (Option Int)} : ∀ {ls : List (List Nat)} {b : Option (Int × List Nat)} {lot : List Nat}, lot ∈ ls → r lot = some none → gwF r ls b = .endless
  | l :: ls, b, lot, hm, hr => by
    unfold gwF
    rcases List.mem_cons.mp hm with rfl | hm
    · rw [hr]
    · cases e : r l with
      | none => exact gw_endless hm hr
      | some o =>
        cases o with
        | none => rfl
        | some x => exact gw_endless hm hr
theorem gw_none {r : List Nat → Option (Option Int)} : ∀ {ls : List (List Nat)}, (∀ lot ∈ ls, r lot = none) → gwF r ls none = .none
  | [], _ => rfl
  | l :: ls, h => by
    unfold gwF
    rw [h l (List.mem_cons_self ..)]
    exact gw_none fun lot hl => h lot (List.mem_cons_of_mem _ hl)
theorem gw_most {r : List Nat → Option (Option Int)} {x : Int} : ∀ {ls : List (List Nat)} {b : Option (Int × List Nat)}, (∀ lot ∈ ls, r lot = none ∨ ∃ y, r lot = some (some y) ∧ y ≤ x) → (∀ y l, b = some (y, l) → y ≤ x) →
    ((∃ lot ∈ ls, r lot = some (some x)) ∨ ∃ l, b = some (x, l)) → ∃ l, gwF r ls b = .most x l
  | [], b, _, _, h3 => by
    rcases h3 with ⟨l, hl, _⟩ | ⟨l, rfl⟩
    · cases hl
    · exact ⟨l, rfl⟩
  | l :: ls, b, h1, h2, h3 => by
    have h1' := fun lot hl => h1 lot (List.mem_cons_of_mem l hl)
    unfold gwF
    rcases h1 l (List.mem_cons_self ..) with e | ⟨y, e, hy⟩
    · rw [e]
      refine gw_most h1' h2 ?_
      rcases h3 with ⟨lot, hm, hr⟩ | h3
      · rcases List.mem_cons.mp hm with rfl | hm
        · rw [e] at hr; cases hr
        · exact .inl ⟨lot, hm, hr⟩
      · exact .inr h3
    · rw [e]
      dsimp only
      cases b with
      | none =>
        refine gw_most h1' (fun y' l' e' => by cases e'; exact hy) ?_
        rcases h3 with ⟨lot, hm, hr⟩ | ⟨l', h3⟩
        · rcases List.mem_cons.mp hm with rfl | hm
          · rw [e] at hr
            cases hr
            exact .inr ⟨_, rfl⟩
          · exact .inl ⟨lot, hm, hr⟩
        · cases h3
      | some p =>
        obtain ⟨z, lz⟩ := p
        have hz := h2 z lz rfl
        dsimp only
        by_cases c : z < y
        · rw [if_pos c]
          refine gw_most h1' (fun y' l' e' => by cases e'; exact hy) ?_
          rcases h3 with ⟨lot, hm, hr⟩ | ⟨l', h3⟩
          · rcases List.mem_cons.mp hm with rfl | hm
            · rw [e] at hr
              cases hr
              exact .inr ⟨_, rfl⟩
            · exact .inl ⟨lot, hm, hr⟩
          · cases h3
            omega
        · rw [if_neg c]
          refine gw_most h1' h2 ?_
          rcases h3 with ⟨lot, hm, hr⟩ | ⟨l', h3⟩
          · rcases List.mem_cons.mp hm with rfl | hm
            · rw [e] at hr
              cases hr
              have : z = x := by omega
              subst this
              exact .inr ⟨_, rfl⟩
            · exact .inl ⟨lot, hm, hr⟩
          · exact .inr ⟨l', h3⟩
/-! ### charts of two places -/
abbrev N1 : Str := "n1"
abbrev N2 : Str := "n2"
structure Two (c : Ch) (lo hi : Nat → Int) : Prop where
  ps : ∃ r1 r2, c.ps = [(N1, r1), (N2, r2)]
  ts : ∀ i t, c.ts[i]? = some t → t.one = N1 ∧ t.oth = N2 ∧ t.lo = some (lo i) ∧ t.hi = some (hi i)
theorem n12 : N1 ≠ N2 := by decide +kernel
section
variable {lo hi : Nat → Int}
theorem Two.i1 (t : Two c lo hi) : c.ix N1 = 0 := by
  obtain ⟨r1, r2, e⟩ := t.ps
  unfold Ch.ix Ch.names
  rw [e]
  show List.idxOf N1 [N1, N2] = 0
  rw [List.idxOf_cons, show (N1 == N1) = true from beq_self_eq_true _]
  rfl
theorem Two.i2 (t : Two c lo hi) : c.ix N2 = 1 := by
  obtain ⟨r1, r2, e⟩ := t.ps
  unfold Ch.ix Ch.names
  rw [e]
  show List.idxOf (N2 : Str) [N1, N2] = 1
  rw [List.idxOf_cons, show (N1 == N2) = false from beq_eq_false_iff_ne.mpr n12, List.idxOf_cons, show (N2 == N2) = true from beq_self_eq_true _]
  rfl
def Ch.rest (c : Ch) : Int := c.rd N2 - c.rd N1
def Ch.top (c : Ch) (hi : Nat → Int) (i : Nat) : Int := hi i - (hi i - c.rest) % c.m
def Ch.low (c : Ch) (lo : Nat → Int) (i : Nat) : Int := lo i + (c.rest - lo i) % c.m
theorem Two.leg (t : Two c lo hi) {lot : List Nat} {l : SP.Lg} (hl : l ∈ gs (c.strike lot).legs) : ∃ i, i < c.ts.length ∧ i ∉ lot ∧ (l = ⟨0, 1, c.top hi i⟩ ∨ l = ⟨1, 0, -c.low lo i⟩) := by
  obtain ⟨g, hg, rfl⟩ := List.mem_map.mp hl
  obtain ⟨t1, ht, e⟩ := legs_of hg
  obtain ⟨⟨t0, i⟩, hm, rfl⟩ := List.mem_map.mp (show t1 ∈ c.ts.zipIdx.map (strT lot) from ht)
  have hi2 := List.mk_mem_zipIdx_iff_getElem?.mp hm
  obtain ⟨a1, a2, a3, a4⟩ := t.ts i t0 hi2
  refine ⟨i, (List.getElem?_eq_some_iff.mp hi2).1, ?_⟩
  by_cases z : i ∈ lot
  · exfalso
    have es : strT lot (t0, i) = t0.bare := if_pos z
    rw [es] at e
    rcases e with ⟨_, _, e⟩ | ⟨_, _, e⟩
    · cases e
    · cases e
  · refine ⟨z, ?_⟩
    have es : strT lot (t0, i) = t0 := if_neg z
    rw [es, a1, a2] at e
    have j1 : (c.strike lot).ix N1 = 0 := t.i1
    have j2 : (c.strike lot).ix N2 = 1 := t.i2
    rw [j1, j2] at e
    have b0 : (c.strike lot).bd t0 0 = some (c.top hi i) := by
      rw [bd0, a1, a2, a4]
      rfl
    have b1 : (c.strike lot).bd t0 1 = some (-c.low lo i) := by
      rw [bd1, a1, a2, a3]
      show some (0 - lo i - ((c.rd N2 - c.rd N1) - lo i) % c.m) = _
      unfold Ch.low Ch.rest
      congr 1
      omega
    obtain ⟨gu, gv, gb, gt⟩ := g
    rcases e with ⟨e1, e2, e3⟩ | ⟨e1, e2, e3⟩
    · rw [b0] at e3
      cases e3
      dsimp only at e1 e2
      subst e1 e2
      exact .inl rfl
    · rw [b1] at e3
      cases e3
      dsimp only at e1 e2
      subst e1 e2
      exact .inr rfl
theorem Two.has (t : Two c lo hi) {lot : List Nat} {i : Nat} (h1 : i < c.ts.length) (h2 : i ∉ lot) : (⟨0, 1, c.top hi i⟩ : SP.Lg) ∈ gs (c.strike lot).legs ∧ (⟨1, 0, -c.low lo i⟩ : SP.Lg) ∈ gs (c.strike lot).legs := by
  obtain ⟨t0, ht⟩ : ∃ t0, c.ts[i]? = some t0 := ⟨_, List.getElem?_eq_getElem h1⟩
  obtain ⟨a1, a2, a3, a4⟩ := t.ts i t0 ht
  have hm : t0 ∈ (c.strike lot).ts := List.mem_map.mpr ⟨(t0, i), List.mk_mem_zipIdx_iff_getElem?.mpr ht, if_neg h2⟩
  have b0 : (c.strike lot).bd t0 0 = some (c.top hi i) := by
    rw [bd0, a1, a2, a4]
    rfl
  have b1 : (c.strike lot).bd t0 1 = some (-c.low lo i) := by
    rw [bd1, a1, a2, a3]
    show some (0 - lo i - ((c.rd N2 - c.rd N1) - lo i) % c.m) = _
    unfold Ch.low Ch.rest
    congr 1
    omega
  have j1 : (c.strike lot).ix N1 = 0 := t.i1
  have j2 : (c.strike lot).ix N2 = 1 := t.i2
  obtain ⟨l1, m1, u1, v1, w1⟩ := legs_has hm (.inl rfl) b0
  obtain ⟨l2, m2, u2, v2, w2⟩ := legs_has hm (.inr rfl) b1
  rw [if_pos rfl, a1, j1] at u1
  rw [if_pos rfl, a2, j2] at v1
  rw [if_neg (by decide), a2, j2] at u2
  rw [if_neg (by decide), a1, j1] at v2
  obtain ⟨x1, x2, x3⟩ := l1
  obtain ⟨y1, y2, y3⟩ := l2
  dsimp only at u1 v1 w1 u2 v2 w2
  subst u1 v1 w1 u2 v2 w2
  exact ⟨m1, m2⟩
/-- heights 0 and M -/
theorem Two.pot (t : Two c lo hi) {lot : List Nat} {M : Int} (h : ∀ i, i < c.ts.length → i ∉ lot → c.low lo i ≤ M ∧ M ≤ c.top hi i) : SP.Pot (gs (c.strike lot).legs) fun v => if v = 1 then M else 0 := by
  intro l hl
  obtain ⟨i, h1, h2, e | e⟩ := t.leg hl
  · subst e
    have := h i h1 h2
    show M ≤ 0 + c.top hi i
    omega
  · subst e
    have := h i h1 h2
    show 0 ≤ M + -c.low lo i
    omega
theorem Two.free (t : Two c lo hi) {lot : List Nat} {M : Int} (h : ∀ i, i < c.ts.length → i ∉ lot → c.low lo i ≤ M ∧ M ≤ c.top hi i) : (c.strike lot).Free := (t.pot h).neg
theorem Two.res_some (t : Two c lo hi) {lot : List Nat} {i : Nat} (h1 : i < c.ts.length) (h2 : i ∉ lot) (h : ∀ j, j < c.ts.length → j ∉ lot → c.low lo j ≤ c.top hi i ∧ c.top hi i ≤ c.top hi j) : resF c N1 N2 lot = some (some (c.top hi i)) := by
  rw [resF_some (t.free h)]
  congr 1
  have hd : SP.Dist (gs (c.strike lot).legs) 0 1 (some (c.top hi i)) := by
    refine ⟨fun x e => ?_, fun x hw => ⟨_, rfl, ?_⟩⟩
    · cases e
      exact .one (t.has h1 h2).1
    · have := (t.pot h).wk hw
      rw [if_pos rfl, if_neg (by decide)] at this
      omega
  rw [show c.ix N1 = 0 from t.i1, show c.ix N2 = 1 from t.i2]
  exact (dV_spec hd).symm
theorem Two.res_all (t : Two c lo hi) {lot : List Nat} (h : ∀ i, i < c.ts.length → i ∈ lot) : resF c N1 N2 lot = some none := by
  have hn : ∀ l, l ∉ gs (c.strike lot).legs := fun l hl => by
    obtain ⟨i, h1, h2, _⟩ := t.leg hl
    exact h2 (h i h1)
  have hf : (c.strike lot).Free := by
    have P : SP.Pot (gs (c.strike lot).legs) fun _ => 0 := fun l hl => absurd hl (hn l)
    exact P.neg
  rw [resF_some hf]
  congr 1
  have hd : SP.Dist (gs (c.strike lot).legs) 0 1 none := by
    refine ⟨fun x e => (nomatch e), fun x hw => ?_⟩
    generalize hu : 0 = u at hw
    generalize hv : 1 = v at hw
    cases hw with
    | nil => omega
    | cons hl _ => exact absurd hl (hn _)
  rw [show c.ix N1 = 0 from t.i1, show c.ix N2 = 1 from t.i2]
  exact (dV_spec hd).symm
theorem Two.res_bar (t : Two c lo hi) {lot : List Nat} {i j : Nat} (h1 : i < c.ts.length) (h2 : i ∉ lot) (h3 : j < c.ts.length) (h4 : j ∉ lot) (hlt : c.top hi i < c.low lo j) : resF c N1 N2 lot = none := by
  refine resF_none fun z => z ⟨0, c.top hi i + -c.low lo j, ?_, by omega⟩
  exact (SP.Wk.one (t.has h1 h2).1).trans (.one (t.has h3 h4).2)
theorem Two.btn (t : Two c lo hi) : c.btn = List.range c.ts.length := by
  rw [btn_range]
  refine List.filter_eq_self.mpr fun i hi => ?_
  have h1 := List.mem_range.mp hi
  rw [List.getElem?_eq_getElem h1]
  obtain ⟨_, _, a3, _⟩ := t.ts i _ (List.getElem?_eq_getElem h1)
  show bdT c.ts[i] = true
  unfold bdT
  rw [a3]
  rfl
end
end K76

set_option maxHeartbeats 2000000
/-! MM: plain: bundles and clashes by formula. -/
namespace K76
open Mi
open PySem (Str PyData)
variable {w k : Nat} {h : MH} {Q : D → MH → Prop} {c : Ch}
theorem arg_min {P : Nat → Prop} {V : Nat → Int} : ∀ T : Nat, (∃ i, i < T ∧ P i) → ∃ i, i < T ∧ P i ∧ ∀ j, j < T → P j → V i ≤ V j
  | 0, ⟨i, hi, _⟩ => absurd hi (Nat.not_lt_zero _)
  | T + 1, ⟨i, hi, hp⟩ => by
    by_cases z : ∃ i, i < T ∧ P i
    · obtain ⟨a, a1, a2, a3⟩ := arg_min T z
      by_cases y : P T ∧ V T < V a
      · refine ⟨T, by omega, y.1, fun j hj hpj => ?_⟩
        by_cases e : j = T
        · subst e
          exact Int.le_refl _
        · exact Int.le_trans (Int.le_of_lt y.2) (a3 j (by omega) hpj)
      · refine ⟨a, by omega, a2, fun j hj hpj => ?_⟩
        by_cases e : j = T
        · subst e
          by_cases y2 : V j < V a
          · exact absurd ⟨hpj, y2⟩ y
          · omega
        · exact a3 j (by omega) hpj
    · have e : i = T := by
        refine Classical.byContradiction fun ne => z ⟨i, by omega, hp⟩
      subst e
      refine ⟨i, hi, hp, fun j hj hpj => ?_⟩
      by_cases e : j = i
      · subst e
        exact Int.le_refl _
      · exact absurd ⟨j, by omega, hpj⟩ z
theorem some_out {n : Nat} {lot : List Nat} (h : lot.length < n) : ∃ i, i < n ∧ i ∉ lot := by
  refine Classical.byContradiction fun z => ?_
  have hs : ∀ x ∈ List.range n, x ∈ lot := fun x hx => by
    refine Classical.byContradiction fun y => z ⟨x, List.mem_range.mp hx, y⟩
  have := len_sub List.nodup_range hs
  rw [List.length_range] at this
  omega
theorem out_of {n : Nat} {lot : List Nat} {p : Nat → Bool} (h : lot.length < ((List.range n).filter p).length) : ∃ i, i < n ∧ i ∉ lot ∧ p i = true := by
  refine Classical.byContradiction fun z => ?_
  have hs : ∀ x ∈ (List.range n).filter p, x ∈ lot := fun x hx => by
    obtain ⟨a, b⟩ := List.mem_filter.mp hx
    refine Classical.byContradiction fun y => z ⟨x, List.mem_range.mp a, y, b⟩
  have := len_sub ((List.filter_sublist).nodup List.nodup_range) hs
  omega
section
variable {lo hi : Nat → Int}
theorem Two.all (t : Two c lo hi) {many : Nat} (hm : c.ts.length ≤ many) : gwF (resF c N1 N2) (lots c.btn many) none = .endless := by
  rw [t.btn]
  have e : (List.range c.ts.length).filter (fun _ => true) = List.range c.ts.length := List.filter_eq_self.mpr fun _ _ => rfl
  have hl := filter_lots (p := fun _ => true) (n := c.ts.length) (m := many) (by rw [e, List.length_range]; exact hm)
  rw [e] at hl
  exact gw_endless hl (t.res_all fun i hi => List.mem_range.mpr hi)
theorem map_filter_len {V : Nat → Int} {p : Int → Bool} {n : Nat} {s : List Int} (hp : s.Perm ((List.range n).map V)) : ((List.range n).filter fun i => p (V i)).length = (s.filter p).length := by
  rw [(hp.filter p).length_eq, List.filter_map, List.length_map]
  rfl
/-- the next one of the sorted tops -/
theorem Two.next (t : Two c lo hi) {many : Nat} {s : List Int} (hp : s.Perm ((List.range c.ts.length).map (c.top hi))) (hs : s.Pairwise (· ≤ ·)) (hlo : ∀ i j, i < c.ts.length → j < c.ts.length → c.low lo i ≤ c.top hi j)
    {X : Int} (hX : s[many]? = some X) : ∃ l, gwF (resF c N1 N2) (lots c.btn many) none = .most X l := by
  rw [t.btn]
  obtain ⟨hml, hX2⟩ := List.getElem?_eq_some_iff.mp hX
  have es : s = s.take many ++ X :: s.drop (many + 1) := by
    rw [← hX2, List.getElem_cons_drop, List.take_append_drop]
  have hs2 := hs
  rw [es, List.pairwise_append, List.pairwise_cons] at hs2
  obtain ⟨_, ⟨d1, _⟩, d3⟩ := hs2
  have small : (s.filter fun v => decide (v < X)).length ≤ many := by
    rw [es, List.filter_append, List.length_append]
    have e0 : (X :: s.drop (many + 1)).filter (fun v => decide (v < X)) = [] := List.filter_eq_nil_iff.mpr fun v hv => by
      rcases List.mem_cons.mp hv with rfl | hv
      · simp
      · have := d1 v hv
        simp
        omega
    rw [e0, List.length_nil]
    have := List.length_filter_le (fun v => decide (v < X)) (s.take many)
    have := List.length_take_le many s
    omega
  have big : many + 1 ≤ (s.filter fun v => decide (v ≤ X)).length := by
    have e1 : s = s.take (many + 1) ++ s.drop (many + 1) := (List.take_append_drop ..).symm
    have e2 : (s.take (many + 1)).filter (fun v => decide (v ≤ X)) = s.take (many + 1) := List.filter_eq_self.mpr fun v hv => by
      rw [List.take_succ, hX] at hv
      rcases List.mem_append.mp hv with hv | hv
      · exact decide_eq_true (d3 v hv X (List.mem_cons_self ..))
      · have : v = X := by simpa using hv
        subst this
        simp
    have e3 := congrArg (fun l => (l.filter fun v => decide (v ≤ X)).length) e1
    try dsimp only at e3
    rw [e3, List.filter_append, List.length_append, e2, List.length_take]
    omega
  have fs : ((List.range c.ts.length).filter fun i => decide (c.top hi i < X)).length ≤ many := by
    have := map_filter_len (p := fun v => decide (v < X)) hp
    omega
  have fb : many + 1 ≤ ((List.range c.ts.length).filter fun i => decide (c.top hi i ≤ X)).length := by
    have := map_filter_len (p := fun v => decide (v ≤ X)) hp
    omega
  refine gw_most (fun lot hl => .inr ?_) (fun y l e => nomatch e) (.inl ⟨_, filter_lots fs, ?_⟩)
  · have ll := lots_le hl
    obtain ⟨i0, a1, a2, a3⟩ := out_of (lot := lot) (n := c.ts.length) (p := fun i => decide (c.top hi i ≤ X)) (by omega)
    obtain ⟨i, b1, b2, b3⟩ := arg_min (P := fun i => i ∉ lot) (V := c.top hi) c.ts.length ⟨i0, a1, a2⟩
    refine ⟨_, t.res_some b1 b2 fun j hj hjl => ⟨hlo j i hj b1, b3 j hj hjl⟩, ?_⟩
    have := b3 i0 a1 a2
    have := of_decide_eq_true a3
    omega
  · have hx : X ∈ (List.range c.ts.length).map (c.top hi) := hp.mem_iff.mp (List.mem_of_getElem? hX)
    obtain ⟨i, hi2, rfl⟩ := List.mem_map.mp hx
    have hi3 := List.mem_range.mp hi2
    have out : ∀ j, j ∉ (List.range c.ts.length).filter (fun j => decide (c.top hi j < c.top hi i)) → j < c.ts.length → c.top hi i ≤ c.top hi j := fun j hj hl => by
      refine Classical.byContradiction fun z => hj (List.mem_filter.mpr ⟨List.mem_range.mpr hl, decide_eq_true (by omega)⟩)
    exact t.res_some hi3 (fun z => by have := of_decide_eq_true (List.mem_filter.mp z).2; omega) fun j hj hjl => ⟨hlo j i hj hi3, out j hjl hj⟩
/-- ties that clash each with each -/
theorem Two.clash_none (t : Two c lo hi) {many : Nat} (he : ∀ i j, i < c.ts.length → j < c.ts.length → i ≠ j → c.top hi i < c.low lo j ∨ c.top hi j < c.low lo i) (hn : many + 2 ≤ c.ts.length) : gwF (resF c N1 N2) (lots c.btn many) none = .none := by
  rw [t.btn]
  refine gw_none fun lot hl => ?_
  have ll := lots_le hl
  obtain ⟨i, i1, i2⟩ := some_out (n := c.ts.length) (lot := lot) (by omega)
  obtain ⟨j, j1, j2⟩ := some_out (n := c.ts.length) (lot := i :: lot) (by rw [List.length_cons]; omega)
  have j3 : j ∉ lot := fun z => j2 (List.mem_cons_of_mem _ z)
  have ne : i ≠ j := fun z => j2 (by rw [z]; exact List.mem_cons_self ..)
  rcases he i j i1 j1 ne with e | e
  · exact t.res_bar i1 i2 j1 j3 e
  · exact t.res_bar j1 j3 i1 i2 e
theorem Two.clash_one (t : Two c lo hi) {many : Nat} (he : ∀ i j, i < c.ts.length → j < c.ts.length → i ≠ j → c.top hi i < c.low lo j ∨ c.top hi j < c.low lo i) (hl : ∀ i, i < c.ts.length → c.low lo i ≤ c.top hi i) (hn : many + 1 = c.ts.length)
    {X : Int} (h1 : ∀ i, i < c.ts.length → c.top hi i ≤ X) {a : Nat} (ha : a < c.ts.length) (h2 : c.top hi a = X) : ∃ l, gwF (resF c N1 N2) (lots c.btn many) none = .most X l := by
  rw [t.btn]
  have fl : ((List.range c.ts.length).filter fun i => decide (i ≠ a)).length ≤ many := by
    have nd : (a :: (List.range c.ts.length).filter fun i => decide (i ≠ a)).Nodup := List.nodup_cons.mpr ⟨fun z => of_decide_eq_true (List.mem_filter.mp z).2 rfl, (List.filter_sublist).nodup List.nodup_range⟩
    have := len_sub (ys := List.range c.ts.length) nd fun x hx => by
      rcases List.mem_cons.mp hx with rfl | hx
      · exact List.mem_range.mpr ha
      · exact (List.mem_filter.mp hx).1
    rw [List.length_cons, List.length_range] at this
    omega
  refine gw_most (fun lot hl2 => ?_) (fun y l e => nomatch e) (.inl ⟨_, filter_lots fl, ?_⟩)
  · have ll := lots_le hl2
    obtain ⟨i, i1, i2⟩ := some_out (n := c.ts.length) (lot := lot) (by omega)
    by_cases z : ∃ j, j < c.ts.length ∧ j ∉ lot ∧ i ≠ j
    · obtain ⟨j, j1, j3, ne⟩ := z
      refine .inl ?_
      rcases he i j i1 j1 ne with e | e
      · exact t.res_bar i1 i2 j1 j3 e
      · exact t.res_bar j1 j3 i1 i2 e
    · refine .inr ⟨_, t.res_some i1 i2 fun j hj hjl => ?_, h1 i i1⟩
      have e : i = j := Classical.byContradiction fun ne => z ⟨j, hj, hjl, ne⟩
      subst e
      exact ⟨hl i i1, Int.le_refl _⟩
  · rw [← h2]
    refine t.res_some ha (fun z => of_decide_eq_true (List.mem_filter.mp z).2 rfl) fun j hj hjl => ?_
    have e : j = a := Classical.byContradiction fun ne => hjl (List.mem_filter.mpr ⟨List.mem_range.mpr hj, decide_eq_true ne⟩)
    subst e
    exact ⟨hl j hj, Int.le_refl _⟩
end
end K76

set_option maxHeartbeats 2000000
/-! MN: bundles. -/
namespace K76
open Mi
open PySem (Str PyData)
variable {w k : Nat} {h : MH} {Q : D → MH → Prop} {c : Ch}
theorem sN1 : PyData.strOk N1 = true := by decide +kernel
theorem sN2 : PyData.strOk N2 = true := by decide +kernel
theorem o_sortI {n : Nat} {is : List Int} (e : h[n]? = some (.lst (is.map .int))) (q : ∀ h' p (s : List Int), s.Perm is → s.Pairwise (· ≤ ·) → Ex [] h h' → h'[p]? = some (.lst (s.map .int)) → Q (.obj p) h') : wp (bltD .sorted [.obj n]) h Q := by
  unfold bltD
  dsimp only
  rw [wp_bnd, wp_rd]
  have ei : ∀ l : List Int, intsOf (l.map .int) = some l := by
    intro l
    induction l with
    | nil => rfl
    | cons a l ih =>
      show (intsOf (l.map .int)).map (a :: ·) = _
      rw [ih]
      rfl
  refine ⟨(is.mergeSort fun a b => decide (a ≤ b)).map .int, ?_, wp_new.mpr (q _ _ (is.mergeSort fun a b => decide (a ≤ b)) (List.mergeSort_perm ..) ?_ Ex.app (List.getElem?_concat_length ..))⟩
  · rw [lstAt_iff.mpr e]
    show sortD (is.map .int) = _
    unfold sortD
    rw [ei]
  · have := List.pairwise_mergeSort (le := fun a b : Int => decide (a ≤ b)) (fun a b c h1 h2 => by simp only [decide_eq_true_eq] at *; omega) (fun a b => by simp only [Bool.or_eq_true, decide_eq_true_eq]; omega) is
    exact this.imp fun h => of_decide_eq_true h
def row2 (lo hi : Nat → Int) (i : Nat) : Tie := ⟨"k" ++ numS (10 + i), N1, N2, some (lo i), some (hi i), []⟩
def two (m r1 r2 : Int) (n : Nat) (lo hi : Nat → Int) : Ch := ⟨m, [(N1, r1), (N2, r2)], (List.range n).map (row2 lo hi)⟩
section
variable {m r1 r2 : Int} {n : Nat} {lo hi : Nat → Int}
theorem two_row {i : Nat} {t : Tie} (h : (two m r1 r2 n lo hi).ts[i]? = some t) : i < n ∧ t = row2 lo hi i := by
  unfold two at h
  rw [List.getElem?_map] at h
  by_cases z : i < n
  · rw [List.getElem?_range z] at h
    cases h
    exact ⟨z, rfl⟩
  · rw [List.getElem?_eq_none (by rw [List.length_range]; omega)] at h
    cases h
theorem two_len : (two m r1 r2 n lo hi).ts.length = n := by
  show ((List.range n).map _).length = n
  rw [List.length_map, List.length_range]
theorem two_two : Two (two m r1 r2 n lo hi) lo hi := ⟨⟨r1, r2, rfl⟩, fun i t h => by
  obtain ⟨_, rfl⟩ := two_row h
  exact ⟨rfl, rfl, rfl, rfl⟩⟩
theorem two_ok (m0 : 0 < m) (m1 : m ≤ 1000) (a : 0 ≤ r1 ∧ r1 < m) (b : 0 ≤ r2 ∧ r2 < m) (hn : n ≤ 30) : (two m r1 r2 n lo hi).Ok := by
  refine ⟨m0, by show m ≤ 100000; omega, ?_, ?_, ?_, ?_, ?_, by show 2 ≤ 900; omega, by rw [two_len]; omega⟩
  · show [N1, N2].Nodup
    exact List.nodup_cons.mpr ⟨fun z => n12 (List.mem_singleton.mp z), List.nodup_cons.mpr ⟨List.not_mem_nil, List.nodup_nil⟩⟩
  · intro x hx
    rcases List.mem_cons.mp (show x ∈ [N1, N2] from hx) with rfl | hx
    · exact sN1
    · rw [List.mem_singleton.mp hx]
      exact sN2
  · intro p hp
    rcases List.mem_cons.mp (show p ∈ [(N1, r1), (N2, r2)] from hp) with rfl | hp
    · exact a
    · rw [List.mem_singleton.mp hp]
      exact b
  · intro t ht
    obtain ⟨i, hi⟩ := List.getElem?_of_mem ht
    obtain ⟨_, rfl⟩ := two_row hi
    exact ⟨List.mem_cons_self .., List.mem_cons_of_mem _ (List.mem_cons_self ..)⟩
  · intro t ht
    obtain ⟨i, hi⟩ := List.getElem?_of_mem ht
    obtain ⟨_, rfl⟩ := two_row hi
    exact n12
theorem two_rest : (two m r1 r2 n lo hi).rest = r2 - r1 := by
  unfold Ch.rest Ch.rd
  rw [show (two m r1 r2 n lo hi).ix N1 = 0 from two_two.i1, show (two m r1 r2 n lo hi).ix N2 = 1 from two_two.i2]
  rfl
theorem two_n1 : N1 ∈ (two m r1 r2 n lo hi).names := List.mem_cons_self ..
theorem two_n2 : N2 ∈ (two m r1 r2 n lo hi).names := List.mem_cons_of_mem _ (List.mem_cons_self ..)
theorem two_d : (two m r1 r2 n lo hi).d = .tup [.int m, .tup [.tup [.str N1, .int r1], .tup [.str N2, .int r2]], .tup ((List.range n).map fun i => (row2 lo hi i).d)] := by
  unfold Ch.d two
  rw [List.map_map]
  rfl
end
theorem k_ok : ("k" : Str).length = 1 := by decide +kernel
/-- _law_bundle -/
theorem p_bundle {f : Po} {tn : Nat} {m : Int} {tops : List Int} (ff : Pool f h) (ht : h[tn]? = some (.lst (tops.map .int))) (hne : tn ≠ f.p) (hl : tops.length ≤ 20) (m0 : 0 < m) (m1 : m ≤ 1000)
    (q : ∀ h' r1 r2 (vals : List Int), Pool f h' → Ex [f.p] h h' → vals.Perm tops → 0 ≤ r1 ∧ r1 < m → 0 ≤ r2 ∧ r2 < m → Q (two m r1 r2 tops.length (fun _ => 0) (fun i => (vals[i]?).getD 0)).d h') :
    wp (Gn cds w (k + 3) 38 [.obj f.p, .obj tn, .int m]) h Q := by
  have fl := ff.lt
  rw [g38, w_run]
  refine ⟨rfl, ?_⟩
  rw [show b38 = CS.set _ _ :: CS.set _ _ :: CS.set _ _ :: b38.drop 3 from rfl, s_cons]
  simp only [rules, bindG, bindGs, wipeE, placed, Nat.reduceAdd, Nat.reduceSub, Nat.reduceLeDiff, Nat.reduceLT, reduceIte, Int.reduceSub, Int.reduceAdd, Int.reduceMul]
  refine p_take ff m0 fun h1 r1 f1 x1 a0 a1 => ?_
  try simp only [rules, bindG, bindGs, wipeE, placed, Nat.reduceAdd, Nat.reduceSub, Nat.reduceLeDiff, Nat.reduceLT, reduceIte, Int.reduceSub, Int.reduceAdd, Int.reduceMul]
  refine p_take f1 m0 fun h2 r2 f2 x2 b0 b1 => ?_
  have t2 := (x1.trans x2).at (by simp only [List.mem_singleton]; exact hne) ht
  have ht2 : tn < h2.length := (List.getElem?_eq_some_iff.mp t2).1
  have hl2 := (x1.trans x2).1
  try simp only [rules, bindG, bindGs, wipeE, placed, Nat.reduceAdd, Nat.reduceSub, Nat.reduceLeDiff, Nat.reduceLT, reduceIte, Int.reduceSub, Int.reduceAdd, Int.reduceMul]
  refine o_lenL ((Ex.app (S := [])).at0 t2) ?_
  try simp only [rules, bindG, bindGs, wipeE, placed, Nat.reduceAdd, Nat.reduceSub, Nat.reduceLeDiff, Nat.reduceLT, reduceIte, Int.reduceSub, Int.reduceAdd, Int.reduceMul]
  rw [List.length_map]
  refine p_shuffled f2.app (by omega) fun h3 on os f3 x3 l3 e3 p3 => ?_
  have osl : os.length = tops.length := by rw [p3.length_eq, List.length_range]
  have r3 := x3.at (by simp only [List.mem_singleton]; omega) (List.getElem?_concat_length (l := h2) (a := MO.lst [.int r1, .int r2]))
  have t3 := x3.at (by simp only [List.mem_singleton]; exact hne) ((Ex.app (S := [])).at0 t2)
  try simp only [rules, bindG, bindGs, wipeE, placed, Nat.reduceAdd, Nat.reduceSub, Nat.reduceLeDiff, Nat.reduceLT, reduceIte, Int.reduceSub, Int.reduceAdd, Int.reduceMul]
  rw [w_rng1']
  simp only [rules, bindG, bindGs, wipeE, placed, Nat.reduceAdd, Nat.reduceSub, Nat.reduceLeDiff, Nat.reduceLT, reduceIte, Int.reduceSub, Int.reduceAdd, Int.reduceMul]
  refine o_lenL t3 ?_
  rw [List.length_map]
  refine ⟨_, rfl, w62 (by omega) (by omega), ?_⟩
  rw [Int.toNat_natCast, rngL_nats]
  have oslt : ∀ i, i < tops.length → ∃ j, os[i]? = some j ∧ j < tops.length := fun i hi => by
    have hi' : i < os.length := by omega
    refine ⟨os[i], List.getElem?_eq_getElem hi', List.mem_range.mp (p3.mem_iff.mp (List.getElem_mem hi'))⟩
  have vp : (os.map fun j => (tops[j]?).getD 0).Perm tops := by
    refine (p3.map fun j => (tops[j]?).getD 0).trans (List.Perm.of_eq ?_)
    refine List.ext_getElem? fun i => ?_
    rw [List.getElem?_map]
    by_cases z : i < tops.length
    · rw [List.getElem?_range z, List.getElem?_eq_getElem z]
      show some ((tops[i]?).getD 0) = _
      rw [List.getElem?_eq_getElem z]
      rfl
    · rw [List.getElem?_eq_none (by rw [List.length_range]; omega), List.getElem?_eq_none (show tops.length ≤ i by omega)]
      rfl
  generalize hv : (os.map fun j => (tops[j]?).getD 0) = vals at vp
  have vat : ∀ i j : Nat, os[i]? = some j → (vals[i]?).getD 0 = (tops[j]?).getD 0 := fun i j e => by
    rw [← hv, List.getElem?_map, e]
    rfl
  refine wp_mapf (fun d => match d with | .int i => (row2 (fun _ => 0) (fun i => (vals[i]?).getD 0) i.toNat).d | _ => .non) h3 Ks.nil (by rw [nats_len, List.length_range]; omega) ?_ ?_
  · intro d hd h4 x4
    obtain ⟨i, hi, rfl⟩ := List.mem_map.mp hd
    have hi2 := List.mem_range.mp hi
    obtain ⟨j, ej, lj⟩ := oslt i hi2
    have ao : atI (nats os) ((i : Nat) : Int) = some (.int (j : Nat)) := by
      unfold nats
      rw [at_nat' (by rw [List.length_map]; omega), List.getElem?_map, ej]
      rfl
    refine ⟨_, rfl, ?_⟩
    simp only [rules, bindG, bindGs, wipeE, placed, Nat.reduceAdd, Nat.reduceSub, Nat.reduceLeDiff, Nat.reduceLT, reduceIte, Int.reduceSub, Int.reduceAdd, Int.reduceMul]
    rw [show (10 : Int) + (i : Nat) = ((10 + i : Nat) : Int) by omega]
    refine o_str2 (by omega) (by omega) ?_
    refine o_catS.mpr ⟨line_ge (by rw [k_ok]; show 1 + 2 ≤ 10000000; decide), ?_⟩
    simp only [rules, bindG, bindGs, wipeE, placed, Nat.reduceAdd, Nat.reduceSub, Nat.reduceLeDiff, Nat.reduceLT, reduceIte, Int.reduceSub, Int.reduceAdd, Int.reduceMul, ix_lst (x4.at0 t3), ix_lst (x4.at0 e3), ao, ints_at lj]
    rw [show ((i : Nat) : Int).toNat = i from rfl]
    refine ⟨?_, Ex.refl⟩
    unfold row2 Tie.d
    dsimp only
    rw [vat i j ej, List.getElem?_eq_getElem lj]
    rfl
  · intro h4 x4 e4
    rw [show b38.drop 3 = [CS.ret _] from rfl]
    simp only [rules, bindG, bindGs, wipeE, placed, Nat.reduceAdd, Nat.reduceSub, Nat.reduceLeDiff, Nat.reduceLT, reduceIte, Int.reduceSub, Int.reduceAdd, Int.reduceMul, ix_lst (x4.at0 r3)]
    refine o_tupL e4 ?_
    have := q h4 r1 r2 vals (f3.ex x4) ((((x1.trans x2).trans Ex.app).trans x3).trans x4.mono) vp ⟨a0, a1⟩ ⟨b0, b1⟩
    rw [two_d] at this
    unfold nats
    rw [List.map_map]
    exact this
def invBd (f : Po) (ch : Ch) (m : Int) (tn sn : Nat) (s : List Int) (e4 : Option D) (h0 : MH) (ds : List D) (env : Env) (h' : MH) : Prop := ∃ (i : Nat) (a6 a7 : Option D), i ≤ 3 ∧ ds = rngL (i : Nat) (3 - i) ∧
  env = [some (.obj f.p), some (.int m), some (.obj tn), some ch.d, e4, some (.obj sn), a6, a7, none, none] ∧ Pool f h' ∧ Ex [f.p] h0 h' ∧ h'[sn]? = some (.lst (s.map .int))
theorem p_bundled (hw : 5000 ≤ w) {f : Po} (ff : Pool f h) (q : ∀ h', Pool f h' → Ex [f.p] h h' → Q (.bl true) h') : wp (Gn cds w (k + 10) 51 [.obj f.p]) h Q := by
  have fl := ff.lt
  rw [g51, w_run]
  refine ⟨rfl, ?_⟩
  rw [show b51 = CS.set _ _ :: CS.set _ _ :: CS.set _ _ :: CS.set _ _ :: CS.set _ _ :: CS.for _ _ (forB (b51.getD 5 .pass)) :: b51.drop 6 from rfl, s_cons]
  simp only [rules, bindG, bindGs, wipeE, placed, Nat.reduceAdd, Nat.reduceSub, Nat.reduceLeDiff, Nat.reduceLT, reduceIte, Int.reduceSub, Int.reduceAdd, Int.reduceMul]
  refine p_take ff (by decide) fun h1 r f1 x1 r0 r1 => ?_
  obtain ⟨m, em⟩ : ∃ m, 1 + r = m := ⟨_, rfl⟩
  try simp only [rules, bindG, bindGs, wipeE, placed, Nat.reduceAdd, Nat.reduceSub, Nat.reduceLeDiff, Nat.reduceLT, reduceIte, Int.reduceSub, Int.reduceAdd, Int.reduceMul]
  rw [em]
  rw [w_rng1']
  simp only [rules, bindG, bindGs, wipeE, placed, Nat.reduceAdd, Nat.reduceSub, Nat.reduceLeDiff, Nat.reduceLT, reduceIte, Int.reduceSub, Int.reduceAdd, Int.reduceMul]
  refine p_take f1 (by decide) fun h2 n f2 x2 n0 n1 => ?_
  have hl1 := x1.1
  have hl2 := x2.1
  try simp only [rules, bindG, bindGs, wipeE, placed, Nat.reduceAdd, Nat.reduceSub, Nat.reduceLeDiff, Nat.reduceLT, reduceIte, Int.reduceSub, Int.reduceAdd, Int.reduceMul]
  refine ⟨_, rfl, w62 (by omega) (by omega), ?_⟩
  rw [rngL_nats]
  refine wp_lcP (fun _ y => ∃ v : Int, y = .int v ∧ m ≤ v) h2 f2 Ks.nil (fun p hp => nomatch hp) (by rw [nats_len, List.length_range]; omega) ?_ ?_
  · intro d hd h3 f3 x3
    obtain ⟨i, _, rfl⟩ := List.mem_map.mp hd
    refine ⟨_, rfl, ?_⟩
    simp only [rules, bindG, bindGs, wipeE, placed, Nat.reduceAdd, Nat.reduceSub, Nat.reduceLeDiff, Nat.reduceLT, reduceIte, Int.reduceSub, Int.reduceAdd, Int.reduceMul]
    refine p_take f3 (by decide) fun h4 v f4 x4 v0 v1 => ?_
    try simp only [rules, bindG, bindGs, wipeE, placed, Nat.reduceAdd, Nat.reduceSub, Nat.reduceLeDiff, Nat.reduceLT, reduceIte, Int.reduceSub, Int.reduceAdd, Int.reduceMul]
    exact ⟨⟨_, rfl, by omega⟩, f4, x4⟩
  · intro h3 ys f3 x3 p3 e3
    obtain ⟨tops, rfl⟩ : ∃ ls : List Int, ys = ls.map .int := ints_of fun y hy => by
      obtain ⟨d, _, v, rfl, _⟩ := p3.mem hy
      exact ⟨v, rfl⟩
    have tb : ∀ v ∈ tops, m ≤ v := by
      intro v hv
      obtain ⟨d, _, u, eu, b⟩ := p3.mem (List.mem_map.mpr ⟨v, hv, rfl⟩)
      injection eu with eu
      rw [eu]
      exact b
    have tl : tops.length ≤ 20 := by
      have := p3.1
      rw [List.length_map, nats_len, List.length_range] at this
      omega
    try simp only [rules, bindG, bindGs, wipeE, placed, Nat.reduceAdd, Nat.reduceSub, Nat.reduceLeDiff, Nat.reduceLT, reduceIte, Int.reduceSub, Int.reduceAdd, Int.reduceMul]
    refine p_bundle f3 e3 (by omega) tl (by omega) (by omega) fun h4 r1 r2 vals f4 x4 pv a b => ?_
    have e4 := x4.at (by simp only [List.mem_singleton]; omega) e3
    have vl := pv.length_eq
    have m0 : 0 < m := by omega
    obtain ⟨c, ec⟩ : ∃ c, c = two m r1 r2 tops.length (fun _ => 0) (fun i => (vals[i]?).getD 0) := ⟨_, rfl⟩
    have tw : Two c (fun _ => 0) (fun i => (vals[i]?).getD 0) := by rw [ec]; exact two_two
    have ok : c.Ok := by rw [ec]; exact two_ok m0 (by omega) a b (by omega)
    have cl : c.ts.length = tops.length := by rw [ec]; exact two_len
    have crest : c.rest = r2 - r1 := by rw [ec]; exact two_rest
    have cm : c.m = m := by rw [ec]; rfl
    have c1 : N1 ∈ c.names := by rw [ec]; exact two_n1
    have c2 : N2 ∈ c.names := by rw [ec]; exact two_n2
    have cps : idxD c.d (.int 1) h4 = some (.tup [.tup [.str N1, .int r1], .tup [.str N2, .int r2]]) := by rw [ec, two_d]; rfl
    rw [← ec]
    simp only [rules, bindG, bindGs, wipeE, placed, Nat.reduceAdd, Nat.reduceSub, Nat.reduceLeDiff, Nat.reduceLT, reduceIte, Int.reduceSub, Int.reduceAdd, Int.reduceMul, cps]
    rw [wp_items_obj]
    refine ⟨_, lstAt_iff.mpr e4, ?_⟩
    dsimp only
    refine wp_mapf (fun d => match d with | .int v => .int (v - (v - (r2 - r1)) % m) | _ => .non) h4 (Ks.one e4) (by rw [List.length_map]; omega) ?_ ?_
    · intro d hd h5 x5
      obtain ⟨v, _, rfl⟩ := List.mem_map.mp hd
      refine ⟨_, rfl, ?_⟩
      simp only [rules, bindG, bindGs, wipeE, placed, Nat.reduceAdd, Nat.reduceSub, Nat.reduceLeDiff, Nat.reduceLT, reduceIte, Int.reduceSub, Int.reduceAdd, Int.reduceMul]
      refine o_mod.mpr ⟨m0, ?_⟩
      try simp only [rules, bindG, bindGs, wipeE, placed, Nat.reduceAdd, Nat.reduceSub, Nat.reduceLeDiff, Nat.reduceLT, reduceIte, Int.reduceSub, Int.reduceAdd, Int.reduceMul]
      first | exact ⟨rfl, Ex.refl⟩ | exact Ex.refl
    · intro h5 x5 e5
      have e5' : h5[h4.length]? = some (.lst ((tops.map fun v => v - (v - (r2 - r1)) % m).map .int)) := by
        rw [e5, List.map_map, List.map_map]
        rfl
      refine o_sortI e5' fun h6 sn s ps ss x6 e6 => ?_
      have hp : s.Perm ((List.range c.ts.length).map (c.top fun i => (vals[i]?).getD 0)) := by
        refine ps.trans ?_
        refine ((pv.map fun v => v - (v - (r2 - r1)) % m).symm).trans (List.Perm.of_eq ?_)
        refine List.ext_getElem? fun i => ?_
        rw [List.getElem?_map, List.getElem?_map, cl]
        by_cases z : i < tops.length
        · rw [List.getElem?_range z, List.getElem?_eq_getElem (show i < vals.length by omega)]
          show some _ = some (c.top (fun i => (vals[i]?).getD 0) i)
          unfold Ch.top
          rw [crest, cm]
          dsimp only
          rw [List.getElem?_eq_getElem (show i < vals.length by omega)]
          rfl
        · rw [List.getElem?_eq_none (by omega), List.getElem?_eq_none (by rw [List.length_range]; omega)]
          rfl
      have sl : s.length = tops.length := by rw [hp.length_eq, List.length_map, List.length_range, cl]
      have hlo : ∀ i j, i < c.ts.length → j < c.ts.length → c.low (fun _ => 0) i ≤ c.top (fun i => (vals[i]?).getD 0) j := fun i j hi hj => by
        unfold Ch.low Ch.top
        rw [cm]
        have hj2 : j < vals.length := by omega
        have v1 := tb _ (pv.mem_iff.mp (List.getElem_mem hj2))
        dsimp only
        rw [List.getElem?_eq_getElem hj2]
        show 0 + (c.rest - 0) % m ≤ vals[j] - (vals[j] - c.rest) % m
        have u0 := Int.emod_nonneg (c.rest - 0) (show m ≠ 0 by omega)
        have u1 := Int.emod_lt_of_pos (c.rest - 0) m0
        have w0 := Int.emod_nonneg (vals[j] - c.rest) (show m ≠ 0 by omega)
        have w1 := Int.emod_lt_of_pos (vals[j] - c.rest) m0
        have g1 := Int.emod_emod_of_dvd (c.rest - 0) (Int.dvd_refl m)
        have d1 := Int.emod_add_mul_ediv (c.rest - 0) m
        have d2 := Int.emod_add_mul_ediv (vals[j] - c.rest) m
        generalize hq1 : (c.rest - 0) / m = q1 at d1
        generalize hq2 : (vals[j] - c.rest) / m = q2 at d2
        generalize (c.rest - 0) % m = u at *
        generalize (vals[j] - c.rest) % m = v at *
        -- the difference is a multiple of m that lies above minus m
        have key : vals[j] - v - u = m * (q2 + q1) := by
          rw [Int.mul_add]
          omega
        have : 0 ≤ q2 + q1 := by
          refine Classical.byContradiction fun z => ?_
          have z1 : q2 + q1 ≤ -1 := by omega
          have z2 : m * (q2 + q1) ≤ m * (-1) := Int.mul_le_mul_of_nonneg_left z1 (by omega)
          omega
        have z2 : 0 ≤ m * (q2 + q1) := Int.mul_nonneg (by omega) this
        omega
      try simp only [rules, bindG, bindGs, wipeE, placed, Nat.reduceAdd, Nat.reduceSub, Nat.reduceLeDiff, Nat.reduceLT, reduceIte, Int.reduceSub, Int.reduceAdd, Int.reduceMul]
      rw [w_rng1']
      simp only [rules, bindG, bindGs, wipeE, placed, Nat.reduceAdd, Nat.reduceSub, Nat.reduceLeDiff, Nat.reduceLT, reduceIte, Int.reduceSub, Int.reduceAdd, Int.reduceMul]
      refine ⟨_, rfl, w62 (by decide) (by decide), ?_⟩
      have xall : Ex [f.p] h h6 := (((x1.trans x2).trans x3).trans x4).trans (x5.trans x6).mono
      have l3 := x3.1
      have l4 := x4.1
      have l5 := x5.1
      refine wp_for (Inv := invBd f c m h2.length sn s (some (.int (r2 - r1))) h) ?_ ?_ ⟨0, _, _, by decide, rfl, rfl, f4.ex (x5.trans x6), xall, e6⟩
      · rintro d ds env g ⟨i, a6, a7, j1, j2, rfl, j3, j4, j5⟩
        cases em : 3 - i with
        | zero => rw [em] at j2; cases j2
        | succ mm =>
        rw [em, rngL_succ, List.cons.injEq] at j2
        obtain ⟨rfl, rfl⟩ := j2
        refine ⟨Ks.nil, _, rfl, ?_⟩
        rw [show forB (b51.getD 5 .pass) = CS.set _ _ :: CS.ifs _ _ _ :: [CS.ifs _ _ _] from rfl]
        simp only [rules, bindG, bindGs, wipeE, placed, Nat.reduceAdd, Nat.reduceSub, Nat.reduceLeDiff, Nat.reduceLT, reduceIte, Int.reduceSub, Int.reduceAdd, Int.reduceMul]
        refine o_lenL j5 ?_
        rw [List.length_map]
        have fin : ∀ (g2 : MH) (b7 : Option D), Ex [] g g2 → invBd f c m h2.length sn s (some (.int (r2 - r1))) h (rngL ((i : Int) + 1) mm) [some (.obj f.p), some (.int m), some (.obj h2.length), some c.d, some (.int (r2 - r1)), some (.obj sn), some (.int (i : Nat)), b7, none, none] g2 := fun g2 b7 y =>
          ⟨i + 1, _, _, by omega, by rw [show 3 - (i + 1) = mm by omega]; rfl, rfl, j3.ex y, j4.trans y.mono, y.at0 j5⟩
        by_cases z : i < s.length
        · simp only [rules, bindG, bindGs, wipeE, placed, Nat.reduceAdd, Nat.reduceSub, Nat.reduceLeDiff, Nat.reduceLT, reduceIte, Int.reduceSub, Int.reduceAdd, Int.reduceMul, decide_eq_true (show ((i : Nat) : Int) < (s.length : Nat) by omega), ix_lst j5, ints_at z]
          obtain ⟨l, hl⟩ := tw.next hp ss hlo (List.getElem?_eq_getElem z)
          refine p_told (by omega) ok c1 c2 n12 (by omega) (by omega) (by rw [hl]; rfl) fun g2 y2 => ?_
          simp only [rules, bindG, bindGs, wipeE, placed, Nat.reduceAdd, Nat.reduceSub, Nat.reduceLeDiff, Nat.reduceLT, reduceIte, Int.reduceSub, Int.reduceAdd, Int.reduceMul]
          exact fin g2 _ y2
        · simp only [rules, bindG, bindGs, wipeE, placed, Nat.reduceAdd, Nat.reduceSub, Nat.reduceLeDiff, Nat.reduceLT, reduceIte, Int.reduceSub, Int.reduceAdd, Int.reduceMul, decide_eq_false (show ¬ ((i : Nat) : Int) < (s.length : Nat) by omega)]
          refine p_told (by omega) ok c1 c2 n12 (by omega) (by omega) (by rw [tw.all (by omega)]; rfl) fun g2 y2 => ?_
          simp only [rules, bindG, bindGs, wipeE, placed, Nat.reduceAdd, Nat.reduceSub, Nat.reduceLeDiff, Nat.reduceLT, reduceIte, Int.reduceSub, Int.reduceAdd, Int.reduceMul]
          exact fin g2 _ y2
      · rintro env g ⟨i, a6, a7, j1, j2, rfl, j3, j4, j5⟩
        refine ⟨Ks.nil, ?_⟩
        rw [show b51.drop 6 = [CS.ret _] from rfl]
        simp only [rules, bindG, bindGs, wipeE, placed, Nat.reduceAdd, Nat.reduceSub, Nat.reduceLeDiff, Nat.reduceLT, reduceIte, Int.reduceSub, Int.reduceAdd, Int.reduceMul]
        exact q g j3 j4
end K76

set_option maxHeartbeats 2000000
/-! MO: clashes, the law. -/
namespace K76
open Mi
open PySem (Str PyData)
variable {w k : Nat} {h : MH} {Q : D → MH → Prop} {c : Ch}
theorem mul_mod0 {m x y : Int} : (y + m * x - y) % m = 0 := by
  rw [show y + m * x - y = m * x by omega]
  exact Int.mul_emod_right m x
theorem mul_mod0' {m x y : Int} : (y - (y + m * x)) % m = 0 := by
  rw [show y - (y + m * x) = m * (-x) by rw [Int.mul_neg]; omega]
  exact Int.mul_emod_right m (-x)
def invCr (f : Po) (m : Int) (n on rn rl : Nat) (os : List Nat) (rest : Int) (V : Nat → Int) (h0 : MH) (ds : List D) (env : Env) (h' : MH) : Prop := ∃ (i : Nat) (a7 a10 : Option D), i ≤ n ∧ ds = rngL (i : Nat) (n - i) ∧
  env = [some (.obj f.p), some (.int m), some (.int (n : Nat)), some (.obj on), some (.obj rn), some (.int rest), some (.obj rl), a7, none, none, a10, none] ∧ h'[rl]? = some (.lst ((List.range i).map fun i => (row2 V V i).d)) ∧ h'[on]? = some (.lst (nats os)) ∧ Pool f h' ∧ Ex [f.p] h0 h' ∧ h0.length ≤ rl ∧
  ∃ r1 r2 : Int, h'[rn]? = some (.lst [.int r1, .int r2]) ∧ rest = r2 - r1 ∧ (0 ≤ r1 ∧ r1 < m) ∧ (0 ≤ r2 ∧ r2 < m)
def invCf (f : Po) (ch : Ch) (m : Int) (n : Nat) (rest : Int) (e3 e4 e6 e7 e10 : Option D) (h0 : MH) (ds : List D) (env : Env) (h' : MH) : Prop := ∃ (i : Nat) (a9 a11 : Option D), i ≤ 3 ∧ ds = rngL (i : Nat) (3 - i) ∧
  env = [some (.obj f.p), some (.int m), some (.int (n : Nat)), e3, e4, some (.int rest), e6, e7, some ch.d, a9, e10, a11] ∧ Pool f h' ∧ Ex [f.p] h0 h'
theorem p_clashing (hw : 5000 ≤ w) {f : Po} (ff : Pool f h) (q : ∀ h', Pool f h' → Ex [f.p] h h' → Q (.bl true) h') : wp (Gn cds w (k + 10) 52 [.obj f.p]) h Q := by
  have fl := ff.lt
  rw [g52, w_run]
  refine ⟨rfl, ?_⟩
  rw [show b52 = CS.set _ _ :: CS.set _ _ :: CS.set _ _ :: CS.set _ _ :: CS.set _ _ :: CS.set _ _ :: CS.for _ _ (forB (b52.getD 6 .pass)) :: b52.drop 7 from rfl, s_cons]
  simp only [rules, bindG, bindGs, wipeE, placed, Nat.reduceAdd, Nat.reduceSub, Nat.reduceLeDiff, Nat.reduceLT, reduceIte, Int.reduceSub, Int.reduceAdd, Int.reduceMul]
  refine p_take ff (by decide) fun h1 r f1 x1 r0 r1 => ?_
  try simp only [rules, bindG, bindGs, wipeE, placed, Nat.reduceAdd, Nat.reduceSub, Nat.reduceLeDiff, Nat.reduceLT, reduceIte, Int.reduceSub, Int.reduceAdd, Int.reduceMul]
  obtain ⟨m, em⟩ : ∃ m, 1 + r = m := ⟨_, rfl⟩
  rw [em]
  refine p_take f1 (by decide) fun h2 r' f2 x2 n0 n1 => ?_
  try simp only [rules, bindG, bindGs, wipeE, placed, Nat.reduceAdd, Nat.reduceSub, Nat.reduceLeDiff, Nat.reduceLT, reduceIte, Int.reduceSub, Int.reduceAdd, Int.reduceMul]
  obtain ⟨n, en⟩ : ∃ n : Nat, 1 + r' = (n : Nat) := ⟨(1 + r').toNat, by omega⟩
  rw [en]
  have m0 : 0 < m := by omega
  refine p_shuffled f2 (by omega) fun h3 on os f3 x3 l3 e3 p3 => ?_
  try simp only [rules, bindG, bindGs, wipeE, placed, Nat.reduceAdd, Nat.reduceSub, Nat.reduceLeDiff, Nat.reduceLT, reduceIte, Int.reduceSub, Int.reduceAdd, Int.reduceMul]
  refine p_take f3 m0 fun h4 ra f4 x4 a0 a1 => ?_
  try simp only [rules, bindG, bindGs, wipeE, placed, Nat.reduceAdd, Nat.reduceSub, Nat.reduceLeDiff, Nat.reduceLT, reduceIte, Int.reduceSub, Int.reduceAdd, Int.reduceMul]
  refine p_take f4 m0 fun h5 rb f5 x5 b0 b1 => ?_
  have hl1 := x1.1
  have hl2 := x2.1
  have hl3 := x3.1
  have hl4 := x4.1
  have hl5 := x5.1
  have lon : on < h3.length := (List.getElem?_eq_some_iff.mp e3).1
  have e5 := (x4.trans x5).at (by simp only [List.mem_singleton]; omega) e3
  have osl : os.length = n := by rw [p3.length_eq, List.length_range]
  have R5 : (h5 ++ [MO.lst [D.int ra, D.int rb]])[h5.length]? = some (.lst [.int ra, .int rb]) := List.getElem?_concat_length ..
  simp only [rules, bindG, bindGs, wipeE, placed, Nat.reduceAdd, Nat.reduceSub, Nat.reduceLeDiff, Nat.reduceLT, reduceIte, Int.reduceSub, Int.reduceAdd, Int.reduceMul, ix_lst R5]
  rw [w_rng1']
  simp only [rules, bindG, bindGs, wipeE, placed, Nat.reduceAdd, Nat.reduceSub, Nat.reduceLeDiff, Nat.reduceLT, reduceIte, Int.reduceSub, Int.reduceAdd, Int.reduceMul]
  refine ⟨_, rfl, w62 (by omega) (by omega), ?_⟩
  rw [Int.toNat_natCast]
  have gl : (h5 ++ [MO.lst [D.int ra, D.int rb]]).length = h5.length + 1 := by rw [List.length_append]; rfl
  obtain ⟨V, hV⟩ : ∃ V : Nat → Int, V = fun i => rb - ra + m * (((os[i]?).getD 0 : Nat) - 1 : Int) := ⟨_, rfl⟩
  have x15 := (((x1.trans x2).trans x3).trans x4).trans x5
  refine wp_for (Inv := invCr f m n on h5.length (h5.length + 1) os (rb - ra) V h) ?_ ?_ ⟨0, _, _, Nat.zero_le _, rfl, by rw [gl], by rw [← gl]; exact List.getElem?_concat_length .., (Ex.app (S := [])).at0 ((Ex.app (S := [])).at0 e5), f5.app.app, (x15.trans Ex.app).trans Ex.app, by omega, ra, rb, (Ex.app (S := [])).at0 R5, rfl, ⟨a0, a1⟩, ⟨b0, b1⟩⟩
  · rintro d ds env g ⟨i, a7, a10, j1, j2, rfl, j3, j4, j5, j6, j7, s1, s2, j8, j9, j10, j11⟩
    cases em2 : n - i with
    | zero => rw [em2] at j2; cases j2
    | succ mm =>
    rw [em2, rngL_succ, List.cons.injEq] at j2
    obtain ⟨rfl, rfl⟩ := j2
    have hi : i < n := by omega
    have ao : atI (nats os) ((i : Nat) : Int) = some (.int (((os[i]?).getD 0 : Nat) : Int)) := by
      unfold nats
      rw [at_nat' (by rw [List.length_map]; omega), List.getElem?_map, List.getElem?_eq_getElem (show i < os.length by omega)]
      rfl
    refine ⟨Ks.nil, _, rfl, ?_⟩
    rw [show forB (b52.getD 6 .pass) = CS.set _ _ :: [CS.exp _] from rfl]
    simp only [rules, bindG, bindGs, wipeE, placed, Nat.reduceAdd, Nat.reduceSub, Nat.reduceLeDiff, Nat.reduceLT, reduceIte, Int.reduceSub, Int.reduceAdd, Int.reduceMul, ix_lst j4, ao]
    refine o_mul.mpr ⟨sm_l (by omega) (by omega), ?_⟩
    simp only [rules, bindG, bindGs, wipeE, placed, Nat.reduceAdd, Nat.reduceSub, Nat.reduceLeDiff, Nat.reduceLT, reduceIte, Int.reduceSub, Int.reduceAdd, Int.reduceMul, isLst_ok j3]
    refine ⟨(), ?_⟩
    rw [show (10 : Int) + (i : Nat) = ((10 + i : Nat) : Int) by omega]
    refine o_str2 (by omega) (by omega) ?_
    refine o_catS.mpr ⟨line_ge (by rw [k_ok]; show 1 + 2 ≤ 10000000; decide), ?_⟩
    try simp only [rules, bindG, bindGs, wipeE, placed, Nat.reduceAdd, Nat.reduceSub, Nat.reduceLeDiff, Nat.reduceLT, reduceIte, Int.reduceSub, Int.reduceAdd, Int.reduceMul]
    refine wp_app1 j3 (line_gt (by rw [List.length_map, List.length_range]; omega)) fun g2 u2 g3 => ?_
    have hrn : h5.length < g.length := (List.getElem?_eq_some_iff.mp j8).1
    refine ⟨i + 1, _, _, hi, by rw [show n - (i + 1) = mm by omega]; rfl, rfl, ?_, u2.get j4 (by omega), j5.upd ff u2 (by omega), u2.ex j6 (.inl j7), j7, s1, s2, u2.get j8 (by omega), j9, j10, j11⟩
    rw [g3, List.range_succ, List.map_append]
    unfold row2 Tie.d
    rw [hV]
    rfl
  · rintro env g ⟨i, a7, a10, j1, j2, rfl, j3, j4, j5, j6, j7, s1, s2, j8, j9, j10, j11⟩
    have hin : i = n := by
      cases em2 : n - i with
      | zero => omega
      | succ mm => rw [em2, rngL_succ] at j2; cases j2
    subst hin
    refine ⟨Ks.nil, ?_⟩
    rw [show b52.drop 7 = CS.set _ _ :: CS.for _ _ (forB (b52.getD 8 .pass)) :: b52.drop 9 from rfl]
    simp only [rules, bindG, bindGs, wipeE, placed, Nat.reduceAdd, Nat.reduceSub, Nat.reduceLeDiff, Nat.reduceLT, reduceIte, Int.reduceSub, Int.reduceAdd, Int.reduceMul, ix_lst j8]
    refine o_tupL j3 ?_
    obtain ⟨c, ec⟩ : ∃ c, c = two m s1 s2 i V V := ⟨_, rfl⟩
    have tw : Two c V V := by rw [ec]; exact two_two
    have ok : c.Ok := by rw [ec]; exact two_ok m0 (by omega) j10 j11 (by omega)
    have cl : c.ts.length = i := by rw [ec]; exact two_len
    have crest : c.rest = rb - ra := by rw [ec, two_rest, j9]
    have cm : c.m = m := by rw [ec]; rfl
    have c1 : N1 ∈ c.names := by rw [ec]; exact two_n1
    have c2 : N2 ∈ c.names := by rw [ec]; exact two_n2
    have ed := two_d (m := m) (r1 := s1) (r2 := s2) (n := i) (lo := V) (hi := V)
    rw [← ec] at ed
    rw [← ed]
    have tp : ∀ j, c.top V j = V j := fun j => by
      unfold Ch.top
      rw [crest, cm, hV]
      dsimp only
      rw [mul_mod0]
      omega
    have lw : ∀ j, c.low V j = V j := fun j => by
      unfold Ch.low
      rw [crest, cm, hV]
      dsimp only
      rw [mul_mod0']
      omega
    have osg : ∀ j, j < i → ∃ v, os[j]? = some v ∧ v < i := fun j hj => by
      have hj' : j < os.length := by omega
      exact ⟨os[j], List.getElem?_eq_getElem hj', List.mem_range.mp (p3.mem_iff.mp (List.getElem_mem hj'))⟩
    have osn : ∀ a b v : Nat, os[a]? = some v → os[b]? = some v → a = b := fun a b v ha hb => by
      obtain ⟨l1, g1⟩ := List.getElem?_eq_some_iff.mp ha
      obtain ⟨l2, g2⟩ := List.getElem?_eq_some_iff.mp hb
      have nd : os.Nodup := p3.nodup_iff.mpr List.nodup_range
      rw [List.nodup_iff_pairwise_ne, List.pairwise_iff_getElem] at nd
      refine Classical.byContradiction fun z => ?_
      rcases Nat.lt_or_gt_of_ne z with y | y
      · exact nd a b l1 l2 y (g1.trans g2.symm)
      · exact nd b a l2 l1 y (g2.trans g1.symm)
    have Vat : ∀ j v : Nat, os[j]? = some v → V j = rb - ra + m * ((v : Int) - 1) := fun j v e => by
      rw [hV]
      dsimp only
      rw [e]
      rfl
    have Vlt : ∀ j j2 v v2 : Nat, os[j]? = some v → os[j2]? = some v2 → v < v2 → V j < V j2 := fun j j2 v v2 e e2 hv => by
      rw [Vat j v e, Vat j2 v2 e2]
      have : m * ((v : Int) - 1) < m * ((v2 : Int) - 1) := Int.mul_lt_mul_of_pos_left (by omega) m0
      omega
    have he : ∀ a b, a < c.ts.length → b < c.ts.length → a ≠ b → c.top V a < c.low V b ∨ c.top V b < c.low V a := fun a b ha hb ne => by
      rw [tp, tp, lw, lw]
      obtain ⟨v, e, _⟩ := osg a (by omega)
      obtain ⟨v2, e2, _⟩ := osg b (by omega)
      rcases Nat.lt_trichotomy v v2 with y | y | y
      · exact .inl (Vlt a b v v2 e e2 y)
      · subst y
        exact absurd (osn a b v e e2) ne
      · exact .inr (Vlt b a v2 v e2 e y)
    have hlow : ∀ a, a < c.ts.length → c.low V a ≤ c.top V a := fun a _ => by rw [tp, lw]; exact Int.le_refl _
    rw [w_rng1']
    simp only [rules, bindG, bindGs, wipeE, placed, Nat.reduceAdd, Nat.reduceSub, Nat.reduceLeDiff, Nat.reduceLT, reduceIte, Int.reduceSub, Int.reduceAdd, Int.reduceMul]
    refine ⟨_, rfl, w62 (by decide) (by decide), ?_⟩
    refine wp_for (Inv := invCf f c m i (rb - ra) (some (.obj on)) (some (.obj h5.length)) (some (.obj (h5.length + 1))) a7 a10 h) ?_ ?_ ⟨0, _, _, by decide, rfl, rfl, j5, j6⟩
    · rintro d ds env g2 ⟨b, a9, a11, k1, k2, rfl, k3, k4⟩
      cases em2 : 3 - b with
      | zero => rw [em2] at k2; cases k2
      | succ mm =>
      rw [em2, rngL_succ, List.cons.injEq] at k2
      obtain ⟨rfl, rfl⟩ := k2
      refine ⟨Ks.nil, _, rfl, ?_⟩
      rw [show forB (b52.getD 8 .pass) = CS.set _ _ :: CS.ifs _ _ _ :: [CS.ifs _ _ _] from rfl]
      simp only [rules, bindG, bindGs, wipeE, placed, Nat.reduceAdd, Nat.reduceSub, Nat.reduceLeDiff, Nat.reduceLT, reduceIte, Int.reduceSub, Int.reduceAdd, Int.reduceMul]
      have fin : ∀ (g3 : MH) (b11 : Option D), Ex [] g2 g3 → invCf f c m i (rb - ra) (some (.obj on)) (some (.obj h5.length)) (some (.obj (h5.length + 1))) a7 a10 h (rngL ((b : Int) + 1) mm)
          [some (.obj f.p), some (.int m), some (.int (i : Nat)), some (.obj on), some (.obj h5.length), some (.int (rb - ra)), some (.obj (h5.length + 1)), a7, some c.d, some (.int (b : Nat)), a10, b11] g3 := fun g3 b11 y =>
        ⟨b + 1, _, _, by omega, by rw [show 3 - (b + 1) = mm by omega]; rfl, rfl, k3.ex y, k4.trans y.mono⟩
      by_cases z1 : i ≤ b
      · simp only [rules, bindG, bindGs, wipeE, placed, Nat.reduceAdd, Nat.reduceSub, Nat.reduceLeDiff, Nat.reduceLT, reduceIte, Int.reduceSub, Int.reduceAdd, Int.reduceMul, decide_eq_true (show ((i : Nat) : Int) ≤ (b : Nat) by omega)]
        refine p_told (by omega) ok c1 c2 n12 (by omega) (by omega) (by rw [tw.all (by omega)]; rfl) fun g3 y3 => ?_
        simp only [rules, bindG, bindGs, wipeE, placed, Nat.reduceAdd, Nat.reduceSub, Nat.reduceLeDiff, Nat.reduceLT, reduceIte, Int.reduceSub, Int.reduceAdd, Int.reduceMul]
        exact fin g3 _ y3
      · simp only [rules, bindG, bindGs, wipeE, placed, Nat.reduceAdd, Nat.reduceSub, Nat.reduceLeDiff, Nat.reduceLT, reduceIte, Int.reduceSub, Int.reduceAdd, Int.reduceMul, decide_eq_false (show ¬ ((i : Nat) : Int) ≤ (b : Nat) by omega)]
        by_cases z2 : i = b + 1
        · simp only [rules, bindG, bindGs, wipeE, placed, Nat.reduceAdd, Nat.reduceSub, Nat.reduceLeDiff, Nat.reduceLT, reduceIte, Int.reduceSub, Int.reduceAdd, Int.reduceMul, decide_eq_true (show ((i : Nat) : Int) = (b : Nat) + 1 by omega)]
          refine o_mul.mpr ⟨sm_l (by omega) (by omega), ?_⟩
          simp only [rules, bindG, bindGs, wipeE, placed, Nat.reduceAdd, Nat.reduceSub, Nat.reduceLeDiff, Nat.reduceLT, reduceIte, Int.reduceSub, Int.reduceAdd, Int.reduceMul]
          obtain ⟨a, ea⟩ : ∃ a : Nat, os[a]? = some (i - 1) := List.getElem?_of_mem (p3.mem_iff.mpr (List.mem_range.mpr (by omega)))
          have hal : a < i := by have := (List.getElem?_eq_some_iff.mp ea).1; omega
          have vX : V a = rb - ra + m * ((i : Int) - 2) := by
            rw [Vat a _ ea, show (((i - 1 : Nat) : Int) - 1) = (i : Int) - 2 by omega]
          obtain ⟨l, hl⟩ := tw.clash_one (many := b) he hlow (by omega) (X := rb - ra + m * ((i : Int) - 2)) (fun j hj => by
            rw [tp, ← vX]
            obtain ⟨v, e, lv⟩ := osg j (by omega)
            rcases Nat.lt_or_ge v (i - 1) with y | y
            · exact Int.le_of_lt (Vlt j a v (i - 1) e ea y)
            · have : v = i - 1 := by omega
              subst this
              rw [osn j a _ e ea]
              exact Int.le_refl _) (a := a) (by omega) (by rw [tp]; exact vX)
          refine p_told (by omega) ok c1 c2 n12 (by omega) (by omega) (by rw [hl]; rfl) fun g3 y3 => ?_
          simp only [rules, bindG, bindGs, wipeE, placed, Nat.reduceAdd, Nat.reduceSub, Nat.reduceLeDiff, Nat.reduceLT, reduceIte, Int.reduceSub, Int.reduceAdd, Int.reduceMul]
          exact fin g3 _ y3
        · simp only [rules, bindG, bindGs, wipeE, placed, Nat.reduceAdd, Nat.reduceSub, Nat.reduceLeDiff, Nat.reduceLT, reduceIte, Int.reduceSub, Int.reduceAdd, Int.reduceMul, decide_eq_false (show ¬ ((i : Nat) : Int) = (b : Nat) + 1 by omega)]
          refine p_told (by omega) ok c1 c2 n12 (by omega) (by omega) (by rw [tw.clash_none he (by omega)]; rfl) fun g3 y3 => ?_
          simp only [rules, bindG, bindGs, wipeE, placed, Nat.reduceAdd, Nat.reduceSub, Nat.reduceLeDiff, Nat.reduceLT, reduceIte, Int.reduceSub, Int.reduceAdd, Int.reduceMul]
          exact fin g3 _ y3
    · rintro env g2 ⟨b, a9, a11, k1, k2, rfl, k3, k4⟩
      refine ⟨Ks.nil, ?_⟩
      rw [show b52.drop 9 = [CS.ret _] from rfl]
      simp only [rules, bindG, bindGs, wipeE, placed, Nat.reduceAdd, Nat.reduceSub, Nat.reduceLeDiff, Nat.reduceLT, reduceIte, Int.reduceSub, Int.reduceAdd, Int.reduceMul]
      exact q g2 k3 k4
/-- the law -/
theorem ps_name {c : Ch} {n : Nat} (hn : n < c.ps.length) : ∃ s, s ∈ c.names ∧ c.ix s = c.ix s ∧ atI (c.ps.map pd) ((n : Nat) : Int) = some (.tup [.str s, .int (c.rn n)]) ∧ c.names[n]? = some s := by
  refine ⟨c.ps[n].1, List.mem_map.mpr ⟨c.ps[n], List.getElem_mem _, rfl⟩, rfl, ps_at hn, ?_⟩
  unfold Ch.names
  rw [List.getElem?_map, List.getElem?_eq_getElem hn]
  rfl
theorem p_law (hw : 5000 ≤ w) {ns : List Int} (q : ∀ h', Q (.bl true) h') : wp (Gn cds w (k + 12) 53 [.fl (ns.map .int)]) h Q := by
  rw [g53, w_run]
  refine ⟨rfl, ?_⟩
  rw [show b53 = CS.set _ _ :: CS.set _ _ :: CS.set _ _ :: CS.ifs _ _ _ :: b53.drop 4 from rfl, s_cons]
  simp only [rules, bindG, bindGs, wipeE, placed, Nat.reduceAdd, Nat.reduceSub, Nat.reduceLeDiff, Nat.reduceLT, reduceIte, Int.reduceSub, Int.reduceAdd, Int.reduceMul]
  refine p_pool fun h1 f f1 x1 l1 l2 => ?_
  try simp only [rules, bindG, bindGs, wipeE, placed, Nat.reduceAdd, Nat.reduceSub, Nat.reduceLeDiff, Nat.reduceLT, reduceIte, Int.reduceSub, Int.reduceAdd, Int.reduceMul]
  refine p_take f1 (by decide) fun h2 r2 f2 x2 a0 a1 => ?_
  try simp only [rules, bindG, bindGs, wipeE, placed, Nat.reduceAdd, Nat.reduceSub, Nat.reduceLeDiff, Nat.reduceLT, reduceIte, Int.reduceSub, Int.reduceAdd, Int.reduceMul]
  refine p_take f2 (by decide) fun h3 r3 f3 x3 b0 b1 => ?_
  try simp only [rules, bindG, bindGs, wipeE, placed, Nat.reduceAdd, Nat.reduceSub, Nat.reduceLeDiff, Nat.reduceLT, reduceIte, Int.reduceSub, Int.reduceAdd, Int.reduceMul]
  refine p_take f3 (by decide) fun h4 r4 f4 x4 c0 c1 => ?_
  try simp only [rules, bindG, bindGs, wipeE, placed, Nat.reduceAdd, Nat.reduceSub, Nat.reduceLeDiff, Nat.reduceLT, reduceIte, Int.reduceSub, Int.reduceAdd, Int.reduceMul]
  have fin : ∀ (many ties : Nat) (g : MH), Pool f g → 2 ≤ many → many ≤ 6 → ties ≤ 12 → ∀ QS : Out × Env → MH → Prop, (∀ g' env, QS (.ret (.bl true), env) g') → wp (evSs (Gn cds w (k + 11)) w (b53.drop 4) [some (.fl (ns.map .int)), some (.obj f.p), some (.int (many : Nat)), some (.int (ties : Nat)), none, none, none]) g QS := fun many ties g jf n2 n6 t12 QS qs => by
    rw [show b53.drop 4 = CS.set _ _ :: CS.set _ _ :: CS.set _ _ :: CS.ifs _ _ _ :: [CS.ret _] from rfl]
    simp only [rules, bindG, bindGs, wipeE, placed, Nat.reduceAdd, Nat.reduceSub, Nat.reduceLeDiff, Nat.reduceLT, reduceIte, Int.reduceSub, Int.reduceAdd, Int.reduceMul]
    refine p_chart jf n2 (by omega) (by omega) fun g1 c j1 y1 ok m6 pl tl nm => ?_
    try simp only [rules, bindG, bindGs, wipeE, placed, Nat.reduceAdd, Nat.reduceSub, Nat.reduceLeDiff, Nat.reduceLT, reduceIte, Int.reduceSub, Int.reduceAdd, Int.reduceMul]
    refine p_take j1 (by omega) fun g2 a j2 y2 a0 a1 => ?_
    try simp only [rules, bindG, bindGs, wipeE, placed, Nat.reduceAdd, Nat.reduceSub, Nat.reduceLeDiff, Nat.reduceLT, reduceIte, Int.reduceSub, Int.reduceAdd, Int.reduceMul]
    refine p_take j2 (by omega) fun g3 b j3 y3 b0 b1 => ?_
    try simp only [rules, bindG, bindGs, wipeE, placed, Nat.reduceAdd, Nat.reduceSub, Nat.reduceLeDiff, Nat.reduceLT, reduceIte, Int.reduceSub, Int.reduceAdd, Int.reduceMul]
    refine o_mod.mpr ⟨by omega, ?_⟩
    have c0 := Int.emod_nonneg (a + 1 + b) (show (many : Int) ≠ 0 by omega)
    have c1 := Int.emod_lt_of_pos (a + 1 + b) (show (0 : Int) < many by omega)
    have c2 := mod_ne a0 a1 b0 b1
    generalize (a + 1 + b) % (many : Int) = oth at c0 c1 c2
    obtain ⟨u, eu⟩ : ∃ u : Nat, a = (u : Nat) := ⟨a.toNat, by omega⟩
    obtain ⟨v, ev⟩ : ∃ v : Nat, oth = (v : Nat) := ⟨oth.toNat, by omega⟩
    subst eu ev
    obtain ⟨s1, m1, _, at1', g1'⟩ := ps_name (c := c) (n := u) (by omega)
    obtain ⟨s2, m2, _, at2', g2'⟩ := ps_name (c := c) (n := v) (by omega)
    have hne : s1 ≠ s2 := by
      intro z
      subst z
      obtain ⟨k1, k2⟩ := List.getElem?_eq_some_iff.mp g1'
      obtain ⟨k3, k4⟩ := List.getElem?_eq_some_iff.mp g2'
      have nd := ok.nd
      rw [List.nodup_iff_pairwise_ne, List.pairwise_iff_getElem] at nd
      rcases Nat.lt_or_gt_of_ne (show u ≠ v by omega) with y | y
      · exact nd u v k1 k3 y (k2.trans k4.symm)
      · exact nd v u k3 k1 y (k4.trans k2.symm)
    simp only [rules, bindG, bindGs, wipeE, placed, Nat.reduceAdd, Nat.reduceSub, Nat.reduceLeDiff, Nat.reduceLT, reduceIte, Int.reduceSub, Int.reduceAdd, Int.reduceMul, cd1, at1', at2']
    refine p_asked hw ok ⟨nm, by omega, by omega⟩ (by omega) j3 m1 m2 hne fun g4 j4 y4 => ?_
    simp only [rules, bindG, bindGs, wipeE, placed, Nat.reduceAdd, Nat.reduceSub, Nat.reduceLeDiff, Nat.reduceLT, reduceIte, Int.reduceSub, Int.reduceAdd, Int.reduceMul]
    refine p_bundled hw j4 fun g5 j5 y5 => ?_
    simp only [rules, bindG, bindGs, wipeE, placed, Nat.reduceAdd, Nat.reduceSub, Nat.reduceLeDiff, Nat.reduceLT, reduceIte, Int.reduceSub, Int.reduceAdd, Int.reduceMul]
    refine p_clashing hw j5 fun g6 j6 y6 => ?_
    try simp only [rules, bindG, bindGs, wipeE, placed, Nat.reduceAdd, Nat.reduceSub, Nat.reduceLeDiff, Nat.reduceLT, reduceIte, Int.reduceSub, Int.reduceAdd, Int.reduceMul]
    exact qs g6 _
  obtain ⟨n2, e2⟩ : ∃ n : Nat, 2 + r2 = (n : Nat) := ⟨(2 + r2).toNat, by omega⟩
  obtain ⟨n3, e3⟩ : ∃ n : Nat, 1 + r3 = (n : Nat) := ⟨(1 + r3).toNat, by omega⟩
  rw [e2, e3]
  by_cases z : r4 = 8
  · simp only [rules, bindG, bindGs, wipeE, placed, Nat.reduceAdd, Nat.reduceSub, Nat.reduceLeDiff, Nat.reduceLT, reduceIte, Int.reduceSub, Int.reduceAdd, Int.reduceMul, decide_eq_true z]
    refine p_take f4 (by decide) fun h5 r5 f5 x5 d0 d1 => ?_
    try simp only [rules, bindG, bindGs, wipeE, placed, Nat.reduceAdd, Nat.reduceSub, Nat.reduceLeDiff, Nat.reduceLT, reduceIte, Int.reduceSub, Int.reduceAdd, Int.reduceMul]
    obtain ⟨n5, e5⟩ : ∃ n : Nat, 9 + r5 = (n : Nat) := ⟨(9 + r5).toNat, by omega⟩
    rw [e5]
    exact fin 6 n5 h5 f5 (by omega) (by omega) (by omega) _ fun g' env => q g'
  · simp only [rules, bindG, bindGs, wipeE, placed, Nat.reduceAdd, Nat.reduceSub, Nat.reduceLeDiff, Nat.reduceLT, reduceIte, Int.reduceSub, Int.reduceAdd, Int.reduceMul, decide_eq_false z]
    exact fin n2 n3 h4 f4 (by omega) (by omega) (by omega) _ fun g' env => q g'
theorem law_runs (ns : List Int) : ∃ h', Gn cds 5000 30 53 [.fl (ns.map .int)] [] = some (.bl true, h') := by
  obtain ⟨d, h', e, r⟩ : wp (Gn cds 5000 (18 + 12) 53 [.fl (ns.map .int)]) [] fun d _ => d = .bl true := p_law (by decide) fun _ => rfl
  subst r
  exact ⟨h', e⟩
end K76

set_option maxHeartbeats 0
namespace K76
open Mi PySem PySem.Spec PyProof.Rows L2
def top (i : Nat) : PySem.Stmt := PySem.Challenge.pw_fringes_k76_whole_within.main.body.getD i (.Pass ⟨0, 0, 0, 0⟩)
def tab : List DT := [
  ⟨"place_numbers", top 6, ["chart"], ["chart", "number", "place"], b0⟩,
  ⟨"tie_ends", top 7, ["chart"], ["chart", "numbers", "tie"], b1⟩,
  ⟨"place_of", top 8, ["chart", "name"], ["chart", "name"], b2⟩,
  ⟨"part_marks", top 9, ["chart"], ["chart", "ends", "beside", "marks", "first", "one", "other", "todo", "place", "here"], b3⟩,
  ⟨"same_part", top 10, ["chart", "one", "other"], ["chart", "one", "other", "marks"], b4⟩,
  ⟨"unlike_places", top 11, ["one", "other"], ["one", "other"], b5⟩,
  ⟨"cut_down", top 13, ["bound", "wish", "modulus"], ["bound", "wish", "modulus"], b6⟩,
  ⟨"leg_bounds", top 14, ["chart"], ["chart", "found", "modulus", "places", "ties", "tie", "ends", "wish", "there", "back"], b7⟩,
  ⟨"bounded_legs", top 15, ["chart"], ["chart", "found", "bounds", "number", "ends", "way"], b8⟩,
  ⟨"back_legs", top 17, ["legs", "many"], ["legs", "many", "told", "back", "fallen", "lap", "first", "last", "bound", "leg"], b9⟩,
  ⟨"ring_back", top 18, ["back", "fallen", "many"], ["back", "fallen", "many", "here", "lap", "start", "legs", "leg"], b10⟩,
  ⟨"ring_of_legs", top 19, ["legs", "many"], ["legs", "many", "told", "back", "fallen"], b11⟩,
  ⟨"barring_ring", top 20, ["chart"], ["chart"], b12⟩,
  ⟨"not_barred", top 21, ["chart"], ["chart", "ring"], b13⟩,
  ⟨"reach_from", top 23, ["legs", "many", "first"], ["legs", "many", "first", "told", "back", "moved", "start", "last", "bound", "leg"], b14⟩,
  ⟨"reach_between", top 24, ["chart", "one", "other"], ["chart", "one", "other", "first", "last", "told", "back"], b15⟩,
  ⟨"greatest", top 25, ["chart", "one", "other"], ["chart", "one", "other"], b16⟩,
  ⟨"differences_of", top 27, ["chart", "land"], ["chart", "land", "one", "other"], b17⟩,
  ⟨"keeps", top 28, ["tie", "difference"], ["tie", "difference", "low", "high"], b18⟩,
  ⟨"grounded", top 29, ["chart", "land"], ["chart", "land", "marks", "height", "first"], b19⟩,
  ⟨"unfit_ties", top 30, ["chart", "land"], ["chart", "land", "told", "number", "tie"], b20⟩,
  ⟨"land_of_legs", top 32, ["chart", "legs"], ["chart", "legs", "turns", "modulus", "places", "first", "last", "bound", "leg", "told", "back", "fallen", "place", "turn"], b21⟩,
  ⟨"some_land", top 33, ["chart"], ["chart"], b22⟩,
  ⟨"land_held", top 34, ["chart", "first", "last", "difference"], ["chart", "first", "last", "difference", "legs", "modulus", "places"], b23⟩,
  ⟨"held_part", top 35, ["chart", "first", "last", "difference"], ["chart", "first", "last", "difference", "marks", "land", "more", "number", "height"], b24⟩,
  ⟨"land_with", top 36, ["chart", "one", "other", "difference"], ["chart", "one", "other", "difference", "first", "last", "land"], b25⟩,
  ⟨"struck_tie", top 38, ["tie"], ["tie"], b26⟩,
  ⟨"struck_chart", top 39, ["chart", "ties"], ["chart", "ties", "let", "held", "tie", "number"], b27⟩,
  ⟨"is_within", top 40, ["chart", "land", "many"], ["chart", "land", "many"], b28⟩,
  ⟨"bounded_ties", top 41, ["chart"], ["chart", "number", "tie"], b29⟩,
  ⟨"lots_up_to", top 42, ["held", "most"], ["held", "most", "found", "last", "size", "further", "lot", "number"], b30⟩,
  ⟨"greatest_within", top 44, ["chart", "one", "other", "many"], ["chart", "one", "other", "many", "best", "lot", "struck", "told"], b31⟩,
  ⟨"_law_pool", top 46, ["script"], ["script", "found", "state", "cell", "left", "turn"], b32⟩,
  ⟨"_law_take", top 47, ["pool", "many"], ["pool", "many"], b33⟩,
  ⟨"_law_shuffled", top 48, ["pool", "many"], ["pool", "many", "left", "order", "turn"], b34⟩,
  ⟨"_law_names", top 49, ["pool", "many", "letters"], ["pool", "many", "letters", "base", "names", "place"], b35⟩,
  ⟨"_law_tie", top 50, ["pool", "modulus", "difference"], ["pool", "modulus", "difference", "kind", "low", "high"], b36⟩,
  ⟨"_law_chart", top 51, ["pool", "many", "ties"], ["pool", "many", "ties", "modulus", "names", "words", "readings", "heights", "rows", "word", "one", "other", "u", "v", "pulls", "name", "reading", "low", "high", "at"], b37⟩,
  ⟨"_law_bundle", top 52, ["pool", "tops", "modulus"], ["pool", "tops", "modulus", "readings", "order", "rows", "at"], b38⟩,
  ⟨"_law_legs", top 53, ["chart", "struck"], ["chart", "struck", "names", "legs", "tie", "u", "v", "rest", "place", "word", "one", "other", "low", "high", "pulls"], b39⟩,
  ⟨"_law_table", top 54, ["many", "legs"], ["many", "legs", "table", "place", "by", "row", "begin", "goal", "bound", "tie", "way", "one", "other", "total"], b40⟩,
  ⟨"_law_lots", top 55, ["chart", "many"], ["chart", "many", "ties", "lots", "ahead", "turn", "later", "lot", "tie"], b41⟩,
  ⟨"_law_greatest", top 56, ["chart", "one", "other", "many"], ["chart", "one", "other", "many", "names", "p", "q", "best", "broken", "lot", "table", "place"], b42⟩,
  ⟨"_law_integer", top 57, ["thing"], ["thing"], b43⟩,
  ⟨"_law_broken", top 58, ["chart", "land"], ["chart", "land", "names", "many", "word", "one", "other", "low", "high", "pulls", "difference", "place"], b44⟩,
  ⟨"_law_right", top 59, ["chart", "land"], ["chart", "land", "place"], b45⟩,
  ⟨"_law_says", top 60, ["told", "due"], ["told", "due"], b46⟩,
  ⟨"_law_same", top 61, ["told", "due"], ["told", "due", "left", "one", "other", "place"], b47⟩,
  ⟨"_law_told", top 62, ["chart", "one", "other", "many", "due"], ["chart", "one", "other", "many", "due", "told", "names", "limit", "place", "height"], b48⟩,
  ⟨"_law_struck", top 63, ["chart", "ties"], ["chart", "ties", "rows", "tie", "word", "one", "other", "low", "high", "pulls"], b49⟩,
  ⟨"_law_asked", top 64, ["pool", "chart", "one", "other"], ["pool", "chart", "one", "other", "many", "ties", "struck", "names", "table", "land", "due", "word", "told", "place", "tie"], b50⟩,
  ⟨"_law_bundled", top 65, ["pool"], ["pool", "modulus", "tops", "chart", "rest", "ends", "many", "due", "tie", "top"], b51⟩,
  ⟨"_law_clashing", top 66, ["pool"], ["pool", "modulus", "many", "order", "readings", "rest", "rows", "at", "chart", "false", "number", "due"], b52⟩,
  ⟨"law", top 67, ["script"], ["script", "pool", "places", "ties", "chart", "one", "other"], b53⟩]
def kws : Kws := []
def free : List Str := ["abs", "bool", "enumerate", "int", "isinstance", "len", "list", "max", "min", "range", "sorted", "str", "tuple", "zip"]
end K76
namespace K76
open Mi PySem PySem.Spec PyProof.Rows L2
theorem chk_all : (tab.all fun d => d.chk tab kws free) = true := by kernel_rfl
theorem cds_eq : tab.map DT.cd = cds := rfl
theorem ball_cons {p : DT → Prop} {a : DT} {l : List DT} (h : p a) (r : ∀ d ∈ l, p d) : ∀ d ∈ a :: l, p d := fun d hd => by
  rcases List.mem_cons.mp hd with e | e
  · rw [e]
    exact h
  · exact r d e
theorem ball_nil {p : DT → Prop} : ∀ d ∈ ([] : List DT), p d := fun d hd => nomatch hd
theorem binds_all : ∀ d ∈ tab, DT.binds d :=
  ball_cons (fun _ _ _ _ _ _ us hl => match us, hl with | [_], _ => rfl) <|
  ball_cons (fun _ _ _ _ _ _ us hl => match us, hl with | [_], _ => rfl) <|
  ball_cons (fun _ _ _ _ _ _ us hl => match us, hl with | [_, _], _ => rfl) <|
  ball_cons (fun _ _ _ _ _ _ us hl => match us, hl with | [_], _ => rfl) <|
  ball_cons (fun _ _ _ _ _ _ us hl => match us, hl with | [_, _, _], _ => rfl) <|
  ball_cons (fun _ _ _ _ _ _ us hl => match us, hl with | [_, _], _ => rfl) <|
  ball_cons (fun _ _ _ _ _ _ us hl => match us, hl with | [_, _, _], _ => rfl) <|
  ball_cons (fun _ _ _ _ _ _ us hl => match us, hl with | [_], _ => rfl) <|
  ball_cons (fun _ _ _ _ _ _ us hl => match us, hl with | [_], _ => rfl) <|
  ball_cons (fun _ _ _ _ _ _ us hl => match us, hl with | [_, _], _ => rfl) <|
  ball_cons (fun _ _ _ _ _ _ us hl => match us, hl with | [_, _, _], _ => rfl) <|
  ball_cons (fun _ _ _ _ _ _ us hl => match us, hl with | [_, _], _ => rfl) <|
  ball_cons (fun _ _ _ _ _ _ us hl => match us, hl with | [_], _ => rfl) <|
  ball_cons (fun _ _ _ _ _ _ us hl => match us, hl with | [_], _ => rfl) <|
  ball_cons (fun _ _ _ _ _ _ us hl => match us, hl with | [_, _, _], _ => rfl) <|
  ball_cons (fun _ _ _ _ _ _ us hl => match us, hl with | [_, _, _], _ => rfl) <|
  ball_cons (fun _ _ _ _ _ _ us hl => match us, hl with | [_, _, _], _ => rfl) <|
  ball_cons (fun _ _ _ _ _ _ us hl => match us, hl with | [_, _], _ => rfl) <|
  ball_cons (fun _ _ _ _ _ _ us hl => match us, hl with | [_, _], _ => rfl) <|
  ball_cons (fun _ _ _ _ _ _ us hl => match us, hl with | [_, _], _ => rfl) <|
  ball_cons (fun _ _ _ _ _ _ us hl => match us, hl with | [_, _], _ => rfl) <|
  ball_cons (fun _ _ _ _ _ _ us hl => match us, hl with | [_, _], _ => rfl) <|
  ball_cons (fun _ _ _ _ _ _ us hl => match us, hl with | [_], _ => rfl) <|
  ball_cons (fun _ _ _ _ _ _ us hl => match us, hl with | [_, _, _, _], _ => rfl) <|
  ball_cons (fun _ _ _ _ _ _ us hl => match us, hl with | [_, _, _, _], _ => rfl) <|
  ball_cons (fun _ _ _ _ _ _ us hl => match us, hl with | [_, _, _, _], _ => rfl) <|
  ball_cons (fun _ _ _ _ _ _ us hl => match us, hl with | [_], _ => rfl) <|
  ball_cons (fun _ _ _ _ _ _ us hl => match us, hl with | [_, _], _ => rfl) <|
  ball_cons (fun _ _ _ _ _ _ us hl => match us, hl with | [_, _, _], _ => rfl) <|
  ball_cons (fun _ _ _ _ _ _ us hl => match us, hl with | [_], _ => rfl) <|
  ball_cons (fun _ _ _ _ _ _ us hl => match us, hl with | [_, _], _ => rfl) <|
  ball_cons (fun _ _ _ _ _ _ us hl => match us, hl with | [_, _, _, _], _ => rfl) <|
  ball_cons (fun _ _ _ _ _ _ us hl => match us, hl with | [_], _ => rfl) <|
  ball_cons (fun _ _ _ _ _ _ us hl => match us, hl with | [_, _], _ => rfl) <|
  ball_cons (fun _ _ _ _ _ _ us hl => match us, hl with | [_, _], _ => rfl) <|
  ball_cons (fun _ _ _ _ _ _ us hl => match us, hl with | [_, _, _], _ => rfl) <|
  ball_cons (fun _ _ _ _ _ _ us hl => match us, hl with | [_, _, _], _ => rfl) <|
  ball_cons (fun _ _ _ _ _ _ us hl => match us, hl with | [_, _, _], _ => rfl) <|
  ball_cons (fun _ _ _ _ _ _ us hl => match us, hl with | [_, _, _], _ => rfl) <|
  ball_cons (fun _ _ _ _ _ _ us hl => match us, hl with | [_, _], _ => rfl) <|
  ball_cons (fun _ _ _ _ _ _ us hl => match us, hl with | [_, _], _ => rfl) <|
  ball_cons (fun _ _ _ _ _ _ us hl => match us, hl with | [_, _], _ => rfl) <|
  ball_cons (fun _ _ _ _ _ _ us hl => match us, hl with | [_, _, _, _], _ => rfl) <|
  ball_cons (fun _ _ _ _ _ _ us hl => match us, hl with | [_], _ => rfl) <|
  ball_cons (fun _ _ _ _ _ _ us hl => match us, hl with | [_, _], _ => rfl) <|
  ball_cons (fun _ _ _ _ _ _ us hl => match us, hl with | [_, _], _ => rfl) <|
  ball_cons (fun _ _ _ _ _ _ us hl => match us, hl with | [_, _], _ => rfl) <|
  ball_cons (fun _ _ _ _ _ _ us hl => match us, hl with | [_, _], _ => rfl) <|
  ball_cons (fun _ _ _ _ _ _ us hl => match us, hl with | [_, _, _, _, _], _ => rfl) <|
  ball_cons (fun _ _ _ _ _ _ us hl => match us, hl with | [_, _], _ => rfl) <|
  ball_cons (fun _ _ _ _ _ _ us hl => match us, hl with | [_, _, _, _], _ => rfl) <|
  ball_cons (fun _ _ _ _ _ _ us hl => match us, hl with | [_], _ => rfl) <|
  ball_cons (fun _ _ _ _ _ _ us hl => match us, hl with | [_], _ => rfl) <|
  ball_cons (fun _ _ _ _ _ _ us hl => match us, hl with | [_], _ => rfl) <|
  ball_nil
theorem kb_all : ∀ (i : Nat) (ks : List Str) (at_ : List Nat), (i, ks, at_) ∈ kws → ∀ d : DT, tab[i]? = some d → d.ps ≠ [] ∧ d.kbinds ks at_ := by
  intro i ks at_ h d hd
  cases h
abbrev R : PySem.W.OpenRow := PySem.W.OpenLaw.row PySem.Challenge.rw_fringes_k76_whole_within
abbrev fa : List He.Fa := faOf tab free
abbrev fn : List He.DefD := tab.map DT.dd
abbrev hk : PySem.W.Hook := He.hookD 4 fa fn
def ob (s : PySem.W.SharedT) : He.AlD := He.obsDG 4 fa fn (HandSHeadRun.getT s)
theorem ob_eq (s : PySem.W.SharedT) : ob s = hk.obs s.abs := He.obsDG_eq (HandSHeadRun.getT_eq s)
abbrev loose : List PySem.Str := (tab.map (·.name)).filter (· != ("law" : PySem.Str)) ++ (["FringeError", "CallError", "BadStep", "Barred"] : List PySem.Str)
theorem run (w : World) : HandSHeadRun.RunEq R (PySem.W.view R.prog [67]) hk ob 4000 loose w := by
  intro os
  kernel_rfl
theorem law_is (ns : List Int) (hn : ns.length ≤ 63) : ∃ h', Gn cds 5000 30 53 [.fl (ns.map D.int)] [] = some (.bl true, h') := law_runs ns
end K76
open PySem PySem.W PySem.Calls PyProof.Rows
theorem PySem.Challenge.cw_fringes_k76_whole_within_holds : PySem.Challenge.rw_fringes_k76_whole_within.Holds := by
  w_on; o_law
  refine HandSHeadRun.head_any (r := OpenLaw.row PySem.Challenge.rw_fringes_k76_whole_within) (q := view (OpenLaw.row PySem.Challenge.rw_fringes_k76_whole_within).prog [67]) (H := K76.hk) (ob := K76.ob) (M := 4000) (loose := K76.loose) (d := HandSHeadRun.topDef (OpenLaw.row PySem.Challenge.rw_fringes_k76_whole_within).prog 67) (kwd := []) K76.ob_eq
    (by kernel_rfl) (fun s => by kernel_rfl) K76.run (by kernel_rfl) (by kernel_rfl) (by kernel_rfl) (by rfl) (by first | assumption | decide +kernel) (by decide +kernel) ⟨rfl, rfl, rfl, rfl, rfl, by decide +kernel⟩ ?hw ?hc
  case hw => w_witness2
  case hc =>
    refine L2.walk_ofE (l := PySem.Challenge.rw_fringes_k76_whole_within) (n := 63) (k := 30) (x := "script") (CX := L2.CX0) rfl (by decide) (by kernel_rfl) ⟨rfl, by decide, by decide⟩ ?F (fun _ _ _ _ z => z)
    intro w mg fa h Y G hmg0
    obtain ⟨K, KX, c⟩ := Y
    have hmg : mg ("law" : PySem.Str) = some (.ref fa) := by
      have e : (HandSHeadRun.topDef (OpenLaw.row PySem.Challenge.rw_fringes_k76_whole_within).prog 67).name = ("law" : PySem.Str) := by kernel_rfl
      rw [← e]
      exact hmg0
    obtain ⟨fd, hb, hF⟩ := Mi.tab_head (P := (PySem.Challenge.rw_fringes_k76_whole_within).prog) (w := w) (T := K76.tab) (kw := K76.kws) (i := 53) (x := "script") KX G c rfl hmg rfl K76.chk_all K76.binds_all K76.kb_all 5000 30
    exact ⟨K, fd, _, KX, hb, fun H a ns hl hO hS => (K76.law_is ns hl).elim fun h' e => Mi.law_sp hO hS e, hF⟩
