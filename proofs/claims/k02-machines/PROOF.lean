import PyProof.Rows.All
import Wide.All
import OpenK.AllK
import Wide.FinOn
import HandS.ForMost
import HandS.ForExc
import HandS.TryMany
import HandS.TryOnly
import HandS.TupAny
import HandS.Deep
import HandS.SortInts
import PyProof.P3In
import HandS.TupMul
import HandS.TupLe
import HandS.Style
import HandS.IsInst
import HandS.Zip
import HandS.Walk
import HandS.Wide
import HandS.WideBits
import KE.SortData
import HandS.Sort
import HandS.Strs
import PySem.Challenge.RW_costslimited_k02_machines_judged
set_option Elab.async false
set_option linter.all false
section
/-! Mi1: plain data, owned trees, the small language and what it means. -/
namespace Mi
open PySem

/-- plain data: never changed -/
inductive D where
  | non | bl (b : Bool) | int (i : Int) | str (s : Str)
  | tup (xs : List D) | lst (xs : List D) | rng (lo : Int) (n : Nat)
  | dic (ks vs : List D) | set (xs : List D)

/-- an owned tree: lists and dicts that one name holds alone -/
inductive T where
  | leaf (d : D)
  | lst (ts : List T)
  | dic (ks : List D) (ts : List T)
  | set (xs : List D)

mutual
def T.fz : T → D
  | .leaf d => d
  | .lst ts => .lst (T.fzs ts)
  | .dic ks ts => .dic ks (T.fzs ts)
  | .set xs => .set xs
def T.fzs : List T → List D
  | [] => []
  | t :: ts => t.fz :: T.fzs ts
end

abbrev Env := List (Option T)

/-- an exception: its class by number, what it carries -/
structure Xc where
  cls : Nat
  pay : D := .non

inductive R (α : Type) where
  | ok (a : α) (e : Env)
  | exc (x : Xc) (e : Env)
  | bad

@[simp] def R.bind {α β : Type} : R α → (α → Env → R β) → R β
  | .ok a e, f => f a e
  | .exc x e, _ => .exc x e
  | .bad, _ => .bad

inductive S where
  | nx (e : Env)
  | rt (t : T) (e : Env)
  | bk (e : Env)
  | exc (x : Xc) (e : Env)
  | bad

@[simp] def R.thn {α : Type} : R α → (α → Env → S) → S
  | .ok a e, f => f a e
  | .exc x e, _ => .exc x e
  | .bad, _ => .bad

@[simp] def S.thn : S → (Env → S) → S
  | .nx e, f => f e
  | .rt t e, _ => .rt t e
  | .bk e, _ => .bk e
  | .exc x e, _ => .exc x e
  | .bad, _ => .bad

/-- what a call hands back: its value, the trees of its parameters -/
inductive Out where
  | ret (t : T) (outs : List (Option T))
  | exc (x : Xc) (outs : List (Option T))
  | bad

/-- what an expression's meaning hangs on: the callees, the module's constants, the kept parameters, the classes of errors -/
structure Cx where
  call : Nat → List T → Out
  glob : Str → Option D
  io : List Nat
  sub : Nat → Nat → Bool

/-! ### data -/
inductive O2 where
  | add | sub | mul | fdiv | mod | pow
  deriving DecidableEq
inductive OC where
  | eq | ne | lt | le | gt | ge | is | isnot | inn | notin
  deriving DecidableEq
inductive B where
  | len | abs | min | max | sum | all | any | sorted
  deriving DecidableEq
inductive Ty where
  | int | str | bool | tuple | list | set | dict
  deriving DecidableEq

mutual
/-- None, bools, ints, texts, tuples and lists of these, at most n deep -/
def D.okN : Nat → D → Bool
  | _, .non => true
  | _, .bl _ => true
  | _, .int _ => true
  | _, .str x => PyData.strOk x
  | n + 1, .tup xs => D.okNs n xs
  | n + 1, .lst xs => D.okNs n xs
  | _, _ => false
def D.okNs : Nat → List D → Bool
  | _, [] => true
  | n, x :: xs => D.okN n x && D.okNs n xs
end
abbrev D.ok (d : D) : Bool := D.okN 60 d

mutual
/-- Python's == -/
def D.eqv : D → D → Bool
  | .non, .non => true
  | .bl a, .bl b => a == b
  | .bl a, .int j => (if a then 1 else 0) == j
  | .int i, .bl b => i == (if b then 1 else 0)
  | .int i, .int j => i == j
  | .str x, .str y => x == y
  | .tup xs, .tup ys => D.eqvs xs ys
  | .lst xs, .lst ys => D.eqvs xs ys
  | _, _ => false
def D.eqvs : List D → List D → Bool
  | [], [] => true
  | x :: xs, y :: ys => D.eqv x y && D.eqvs xs ys
  | _, _ => false
end

mutual
def D.py : D → PyData
  | .non => .none
  | .bl b => .bool b
  | .int i => .int i
  | .str s => .str s
  | .tup xs => .tuple (D.pys xs)
  | .lst xs => .list (D.pys xs)
  | _ => .dict []
def D.pys : List D → List PyData
  | [] => []
  | x :: xs => x.py :: D.pys xs
end

/-- the longest list, tuple, text -/
abbrev line : Nat := 16777216
def ints? : List D → Option (List Int)
  | [] => some []
  | .int i :: r => (ints? r).map (i :: ·)
  | _ => none
def rowT (r : List Int) : D := .tup (r.map .int)
/-- rows of ints, none of them empty -/
def rows? : List D → Option (List (List Int))
  | [] => some []
  | .tup (x :: r) :: q => (match ints? (x :: r), rows? q with
    | some ns, some rs => some (ns :: rs)
    | _, _ => none)
  | _ => none
def bls? : List D → Option (List Bool)
  | [] => some []
  | .bl i :: r => (bls? r).map (i :: ·)
  | _ => none

def mulOk (i j : Int) : Bool := decide (i.natAbs < 2 ^ 64) || decide (j.natAbs < 2 ^ 64) || (decide (i.natAbs < 2 ^ 4000) && decide (j.natAbs < 2 ^ 4000))

def leafs (ds : List D) : List T := ds.map .leaf

def d2 : O2 → D → D → Option T
  | .add, .int i, .int j => some (.leaf (.int (i + j)))
  | .add, .str x, .str y => if x.length + y.length ≤ line then some (.leaf (.str (x ++ y))) else none
  | .add, .tup xs, .tup ys => if xs.length + ys.length ≤ line then some (.leaf (.tup (xs ++ ys))) else none
  | .add, .lst xs, .lst ys => if xs.length + ys.length ≤ line then some (.lst (leafs (xs ++ ys))) else none
  | .sub, .int i, .int j => some (.leaf (.int (i - j)))
  | .mul, .int i, .int j => if mulOk i j then some (.leaf (.int (i * j))) else none
  | .mul, .tup xs, .int j => if j.natAbs < 2 ^ 62 ∧ xs.length * j.toNat ≤ line then some (.leaf (.tup (List.replicate j.toNat xs).flatten)) else none
  | .mul, .lst xs, .int j => if j.natAbs < 2 ^ 62 ∧ xs.length * j.toNat ≤ line then some (.lst (leafs (List.replicate j.toNat xs).flatten)) else none
  | .fdiv, .int i, .int j => if 0 < j ∧ j.natAbs < 2 ^ 4000 then some (.leaf (.int (i / j))) else none
  | .mod, .int i, .int j => if 0 < j then some (.leaf (.int (i % j))) else none
  | .pow, .int i, .int j => if 0 ≤ j ∧ j ≤ 1000 ∧ i.natAbs < 2 ^ 1000 then some (.leaf (.int (i ^ j.toNat))) else none
  | _, _, _ => none

/-- n op= m -/
def dAug : O2 → Int → Int → Option Int
  | .add, i, j => some (i + j)
  | .sub, i, j => some (i - j)
  | .mul, i, j => if i.natAbs < 2 ^ 64 ∨ j.natAbs < 2 ^ 64 then some (i * j) else none
  | .fdiv, i, j => if 0 < j ∧ j < 1073741824 then some (i / j) else none
  | .mod, i, j => if 0 < j then some (i % j) else none
  | .pow, _, _ => none

def D.isSeqOk : D → Bool
  | .tup xs => D.okNs 60 xs
  | .lst xs => D.okNs 60 xs
  | _ => false
def D.items : D → List D
  | .tup xs => xs
  | .lst xs => xs
  | _ => []
def strIn (i j : Str) : Bool := !(Builtin.Str.occurrences j i 0 j.length 1).isEmpty
/-- x in y -/
def dIn (x y : D) : Option Bool := match x, y with
  | .str i, .str j => some (strIn i j)
  | x, .tup ys => if x.ok && D.okNs 59 ys then some (ys.any fun y => D.eqv y x) else none
  | x, .lst ys => if x.ok && D.okNs 59 ys then some (ys.any fun y => D.eqv y x) else none
  | _, _ => none
def dLt (x y : D) : Option Bool := match x, y with
  | .int i, .int j => some (decide (i < j))
  | .tup xs, .tup ys => match ints? xs, ints? ys with
    | some ns, some ms => some (HT.lexLt ns ms)
    | _, _ => none
  | _, _ => none
def dc : OC → D → D → Option Bool
  | .eq, x, y => if x.ok && y.ok then some (D.eqv x y) else none
  | .ne, x, y => if x.ok && y.ok then some (!D.eqv x y) else none
  | .lt, x, y => dLt x y
  | .gt, .int i, .int j => some (decide (j < i))
  | .le, .int i, .int j => some (decide (i ≤ j))
  | .ge, .int i, .int j => some (decide (j ≤ i))
  | .is, x, .non => match x with | .non => some true | _ => some false
  | .isnot, x, .non => match x with | .non => some false | _ => some true
  | .is, .bl a, .bl b => some (decide (a = b))
  | .isnot, .bl a, .bl b => some (!decide (a = b))
  | .inn, x, y => dIn x y
  | .notin, x, y => (dIn x y).map (!·)
  | _, _, _ => none

def dIx (x k : D) : Option D := match x, k with
  | .tup xs, .int i => L2.atI xs i
  | .lst xs, .int i => L2.atI xs i
  | .str s, .int i => if s.length ≤ line then (L2.atI s.cps.toList i).map fun c => .str ⟨#[c]⟩ else none
  | _, _ => none
def cut {α : Type} (xs : List α) (lo hi : Option Int) : List α := (xs.drop (HT.sIx xs.length 0 lo)).take (HT.sIx xs.length xs.length hi - HT.sIx xs.length 0 lo)
def dSl (x : D) (lo hi : Option Int) : Option T := match x with
  | .tup xs => some (.leaf (.tup (cut xs lo hi)))
  | .lst xs => some (.lst (leafs (cut xs lo hi)))
  | .str s => if s.length ≤ line then some (.leaf (.str (L2.cutS s lo hi))) else none
  | _ => none
/-- x[::-1] -/
def dRev (x : D) : Option T := match x with
  | .tup xs => some (.leaf (.tup xs.reverse))
  | .lst xs => some (.lst (leafs xs.reverse))
  | _ => none

def dLen : D → Option Nat
  | .tup xs => some xs.length
  | .lst xs => some xs.length
  | .str s => if s.length ≤ line then some s.length else none
  | _ => none
def minL : List Int → Int
  | [] => 0
  | x :: xs => xs.foldl min x
def maxL : List Int → Int
  | [] => 0
  | x :: xs => xs.foldl max x
def db : B → List D → Option T
  | .len, [x] => (dLen x).map fun (n : Nat) => .leaf (.int n)
  | .abs, [.int i] => some (.leaf (.int (if i < 0 then -i else i)))
  | .min, [.int i, .int j] => some (.leaf (.int (if j < i then j else i)))
  | .max, [.int i, .int j] => some (.leaf (.int (if j > i then j else i)))
  | .min, [.lst xs] => match ints? xs with
    | some (n :: ns) => some (.leaf (.int (minL (n :: ns))))
    | _ => none
  | .max, [.lst xs] => match ints? xs with
    | some (n :: ns) => some (.leaf (.int (maxL (n :: ns))))
    | _ => none
  | .sum, [.lst xs] => (ints? xs).map fun ns => .leaf (.int ns.sum)
  | .all, [.lst xs] => (bls? xs).map fun bs => .leaf (.bl (bs.all id))
  | .any, [.lst xs] => (bls? xs).map fun bs => .leaf (.bl (bs.any id))
  | .sorted, [.lst xs] => match ints? xs with
    | some ns => some (.lst ((ns.mergeSort (fun a b => decide (a ≤ b))).map fun i => .leaf (.int i)))
    | none => (rows? xs).map fun rs => .lst (leafs ((rs.mergeSort fun a b => decide (a ≤ b)).map rowT))
  | _, _ => none
def dTy : Ty → List D → Option T
  | .int, [.int i] => some (.leaf (.int i))
  | .int, [.bl k] => some (.leaf (.int (if k then 1 else 0)))
  | .tuple, [.lst xs] => some (.leaf (.tup xs))
  | .tuple, [.tup xs] => some (.leaf (.tup xs))
  | .list, [.lst xs] => some (.lst (leafs xs))
  | .list, [.tup xs] => some (.lst (leafs xs))
  | _, _ => none
def strs? : List D → Option (List Str)
  | [] => some []
  | .str s :: r => (strs? r).map (s :: ·)
  | _ => none
/-- those met so far, how many of them are different -/
def met (ss : List Str) (i : Nat) : Str → Bool := fun k => (ss.take i).any (· == k)
def cntF (ss : List Str) : Nat → Nat
  | 0 => 0
  | i + 1 => if met ss i (ss.getD i Str.empty) then cntF ss i else cntF ss i + 1
/-- len(set(x)), x a tuple of texts -/
def dLset : D → Option T
  | .tup xs => match strs? xs with
    | some ss => if ss.length ≤ 1000 then some (.leaf (.int (cntF ss ss.length))) else none
    | none => none
  | _ => none
/-- isinstance -/
def dIs : D → Ty → Bool
  | .bl _, .bool => true
  | .bl _, .int => true
  | .int _, .int => true
  | .str _, .str => true
  | .tup _, .tuple => true
  | .lst _, .list => true
  | .set _, .set => true
  | .dic _ _, .dict => true
  | _, _ => false

def dIsi : D → List Ty → Option Bool
  | .rng _ _, _ => none
  | .dic _ _, _ => none
  | .set _, _ => none
  | d, ts => some (ts.any fun t => dIs d t)

/-- what a loop walks -/
def dWalk : D → Option (List D)
  | .tup xs => some xs
  | .lst xs => some xs
  | .rng lo n => if n ≤ line then some ((List.range n).map fun (i : Nat) => .int (lo + i)) else none
  | .str s => if s.length ≤ line then some (s.cps.toList.map fun c => .str ⟨#[c]⟩) else none
  | _ => none
def dZip : D → D → Option (List D)
  | .tup xs, .tup ys => some ((xs.zip ys).map fun p => .tup [p.1, p.2])
  | .lst xs, .lst ys => some ((xs.zip ys).map fun p => .tup [p.1, p.2])
  | _, _ => none
def dEn : D → Option (List D)
  | .lst xs => some (xs.zipIdx.map fun p => .tup [.int (p.2 : Nat), p.1])
  | _ => none
def rngOf : List D → Option D
  | [.int j] => if j.natAbs < 2 ^ 62 then some (.rng 0 j.toNat) else none
  | [.int i, .int j] => if i.natAbs < 2 ^ 62 ∧ j.natAbs < 2 ^ 62 then some (.rng i (j - i).toNat) else none
  | _ => none

/-! ### the language -/
/-- an argument: the j-th one that is worked out, or the tree of a name -/
inductive Ar where
  | v (j : Nat)
  | io (i : Nat)
  deriving DecidableEq
inductive Tg where
  | nm (i : Nat)
  | tp (is : List Nat)

mutual
inductive E where
  | non | bl (b : Bool) | int (i : Int) | str (s : Str)
  | get (i : Nat)                         -- a name that holds data
  | fz (i : Nat)                          -- a name: what it holds is data from now on
  | mv (i : Nat)                          -- a name: what it holds moves on
  | gl (x : Str)                          -- a constant of the module
  | bin (o : O2) (a b : E)
  | neg (a : E)
  | cmp (o : OC) (a b : E)
  | chn (o o' : OC) (a b c : E)
  | bop (isAnd : Bool) (a : E) (r : Es)
  | not (a : E)
  | ite (c a b : E)
  | idx (a k : E)
  | slc (a : E) (lo hi : Op)
  | rev (a : E)
  | lset (a : E)                          -- len(set(a))
  | tup (es : Es)
  | lst (es : Es)
  | bi (f : B) (es : Es)
  | ty (f : Ty) (es : Es)
  | isi (a : E) (ts : List Ty)
  | rg (es : Es)                          -- range(..) as a value
  | call (f : Nat) (as : Ag) (ks : Kw) (ars : List Ar)   -- the arguments as written, with keywords; ars: parameter by parameter
  | lc (elt : E) (tg : Tg) (it : I) (cs : Es) (own : List Nat)
  | lc2 (elt : E) (tg : Tg) (it : I) (tg' : Tg) (it' : I) (own own' : List Nat)
  | pk (i : Nat) (ks : Es)                -- place[k]..: data in a tree
  | psl (i : Nat) (ks : Es) (k : Int)     -- place[k:], a list of data
  | vb (f : B) (i : Nat) (ks : Es)        -- len(place), min(place) ..
  | vcmp (o : OC) (i : Nat) (ks : Es) (e : E)   -- place == e
  | vin (neg : Bool) (e : E) (i : Nat) (ks : Es)
  | mt (o : Nat) (i : Nat) (ks : Es) (es : Es)   -- a changing method of a place: 0 append, 1 extend; what is handed in doesn't read the name
  | mv0 (o : Nat) (i : Nat) (es : Es)            -- a changing method of a name
inductive Es where
  | nil
  | cons (e : E) (es : Es)
/-- written arguments: worked out, or a name whose tree is handed in -/
inductive Ag where
  | nil
  | v (a : E) (r : Ag)
  | io (i : Nat) (r : Ag)
inductive Kw where
  | nil
  | v (k : Str) (a : E) (r : Kw)
  | io (k : Str) (i : Nat) (r : Kw)
inductive Op where
  | no
  | so (e : E)
inductive I where
  | d (e : E)
  | zp (a b : E)
  | en (a : E)
end

mutual
inductive St where
  | asg (i : Nat) (e : E)
  | asgT (is : List Nat) (e : E)
  | asgC (i : Nat) (e : E)                      -- name = [.. for ..], on one line
  | par (i j : Nat) (x y : E)                   -- a, b = x, y
  | par3 (i j l : Nat) (x y z : E)
  | put (i : Nat) (ks : Es) (k : E) (e : E)     -- place[..][k] = e
  | aug (i : Nat) (o : O2) (e : E)
  | ifs (c : E) (a b : Sts)
  | fr (tg : Tg) (it : I) (b : Sts)
  | wh (c : E) (b : Sts)
  | ret (e : E)
  | rse (c : Nat) (msg : Str)
  | tr (b : Sts) (hs : Hs)
  | ex (e : E)
  | pas
  | brk
inductive Sts where
  | nil
  | cons (s : St) (r : Sts)
inductive Hs where
  | nil
  | cons (c : Nat) (b : Sts) (r : Hs)
end

/-! ### what it means -/
def getL (e : Env) (i : Nat) : Option T := (e[i]?).getD none
/-- a name is stored -/
def setE (c : Cx) (i : Nat) (t : T) (e : Env) : Option Env := if c.io.contains i then none else if i < e.length then some (e.set i (some t)) else none
def bindTg (c : Cx) : Tg → D → Env → Option Env
  | .nm i, d, e => setE c i (.leaf d) e
  | .tp is, .tup xs, e => if is.length = xs.length then (is.zip xs).foldlM (fun e (p : Nat × D) => setE c p.1 (.leaf p.2) e) e else none
  | .tp is, .lst xs, e => if is.length = xs.length then (is.zip xs).foldlM (fun e (p : Nat × D) => setE c p.1 (.leaf p.2) e) e else none
  | _, _, _ => none
def wipe : List Nat → Env → Env
  | [], e => e
  | v :: vs, e => (wipe vs e).set v none
/-- the slots own as they stand in e₀ -/
def back : List Nat → Env → Env → Env
  | [], _, e => e
  | v :: vs, e₀, e => (back vs e₀ e).set v (getL e₀ v)

/-- a part of a tree -/
def T.at1 : T → D → Option T
  | .leaf d, k => (dIx d k).map .leaf
  | .lst ts, .int i => L2.atI ts i
  | _, _ => none
def T.at : T → List D → Option T
  | t, [] => some t
  | t, k :: ks => (t.at1 k).bind fun u => u.at ks
/-- a part of a tree changed -/
def T.mod : T → List D → (T → Option T) → Option T
  | t, [], f => f t
  | .lst ts, .int i :: ks, f => (L2.ixN ts.length i).bind fun j => (ts[j]?).bind fun u => (u.mod ks f).map fun u' => .lst (ts.set j u')
  | _, _, _ => none

/-- u[k] = t -/
def putSem : T → D → T → Option T
  | .lst ts, .int i, t => (L2.ixN ts.length i).map fun j => .lst (ts.set j t)
  | _, _, _ => none

def mtSem : Nat → T → List T → Option (T × T)
  | 0, .lst ts, [t] => if ts.length < line then some (.lst (ts ++ [t]), .leaf .non) else none
  | 1, .lst ts, [t] => match t.fz with
    | .lst ds => if ts.length + ds.length ≤ line then some (.lst (ts ++ leafs ds), .leaf .non) else none
    | _ => none
  | _, _, _ => none

/-- a list of data alone -/
def unl : List T → Option (List D)
  | [] => some []
  | .leaf d :: r => (unl r).map (d :: ·)
  | _ => none
/-- one turn after the other; each begins with the slots own empty -/
def compL (own : List Nat) (f : D → Env → R (Option T)) : List D → List T → Env → R (List T)
  | [], acc, e => .ok acc e
  | d :: ds, acc, e => match f d e with
    | .ok (some t) e1 => compL own f ds (acc ++ [t]) (wipe own e1)
    | .ok none e1 => compL own f ds acc (wipe own e1)
    | _ => .bad
/-- the same, the number of results watched -/
def compC (own : List Nat) (f : D → Env → R T) : List D → List T → Env → R (List T)
  | [], acc, e => .ok acc e
  | d :: ds, acc, e => match f d e with
    | .ok t e1 => if acc.length < line then compC own f ds (acc ++ [t]) (wipe own e1) else .bad
    | _ => .bad
def comp2 (own : List Nat) (g : D → List T → Env → R (List T)) : List D → List T → Env → R (List T)
  | [], acc, e => .ok acc e
  | d :: ds, acc, e => match g d acc e with
    | .ok acc' e1 => comp2 own g ds acc' (wipe own e1)
    | _ => .bad
def forL (f : D → Env → S) : List D → Env → S
  | [], e => .nx e
  | d :: ds, e => match f d e with
    | .nx e1 => forL f ds e1
    | .bk e1 => .nx e1
    | r => r
def whileN (c : Env → R Bool) (b : Env → S) : Nat → Env → S
  | 0, _ => .bad
  | n + 1, e => match c e with
    | .ok true e1 => (match b e1 with
      | .nx e2 => whileN c b n e2
      | .bk e2 => .nx e2
      | r => r)
    | .ok false e1 => .nx e1
    | .exc x e1 => .exc x e1
    | .bad => .bad
open Classical in
noncomputable def whileI (c : Env → R Bool) (b : Env → S) (e : Env) : S := if h : ∃ n, whileN c b n e ≠ .bad then whileN c b h.choose e else .bad

def leafR : Option D → Env → R T
  | some d, e => .ok (.leaf d) e
  | none, _ => .bad
def optR : Option T → Env → R T
  | some d, e => .ok d e
  | none, _ => .bad
def blR : Option Bool → Env → R T
  | some b, e => .ok (.leaf (.bl b)) e
  | none, _ => .bad
def onBl (t : T) (f : Bool → R T) : R T := match t with
  | .leaf (.bl b) => f b
  | _ => .bad
/-- the arguments, parameter by parameter; the trees of names are taken out -/
def takeAr : List Ar → List T → Env → Option (List T × Env)
  | [], _, e => some ([], e)
  | .v j :: r, ts, e => (ts[j]?).bind fun t => (takeAr r ts e).map fun p => (t :: p.1, p.2)
  | .io i :: r, ts, e => (getL e i).bind fun t => (takeAr r ts (e.set i none)).map fun p => (t :: p.1, p.2)
/-- they are put back -/
def putAr : List Ar → List (Option T) → Env → Option Env
  | [], _, e => some e
  | .v _ :: r, _ :: os, e => putAr r os e
  | .io i :: r, some t :: os, e => putAr r os (e.set i (some t))
  | _, _, _ => none

noncomputable section
mutual
def ev (c : Cx) : E → Env → R T
  | .non, e => .ok (.leaf .non) e
  | .bl b, e => .ok (.leaf (.bl b)) e
  | .int i, e => .ok (.leaf (.int i)) e
  | .str s, e => .ok (.leaf (.str s)) e
  | .get i, e => (match getL e i with
    | some (.leaf d) => .ok (.leaf d) e
    | _ => .bad)
  | .fz i, e => (match getL e i with
    | some t => .ok (.leaf t.fz) (e.set i (some (.leaf t.fz)))
    | none => .bad)
  | .mv i, e => if c.io.contains i then .bad else (match getL e i with
    | some t => .ok t (e.set i none)
    | none => .bad)
  | .gl x, e => leafR (c.glob x) e
  | .bin o a b, e => (ev c a e).bind fun x e1 => (ev c b e1).bind fun y e2 => optR (d2 o x.fz y.fz) e2
  | .neg a, e => (ev c a e).bind fun x e1 => (match x.fz with
    | .int i => .ok (.leaf (.int (-i))) e1
    | _ => .bad)
  | .cmp o a b, e => (ev c a e).bind fun x e1 => (ev c b e1).bind fun y e2 => blR (dc o x.fz y.fz) e2
  | .chn o o' a b d, e => (ev c a e).bind fun x e1 => (ev c b e1).bind fun y e2 => (match dc o x.fz y.fz with
    | some true => (ev c d e2).bind fun z e3 => blR (dc o' y.fz z.fz) e3
    | some false => .ok (.leaf (.bl false)) e2
    | none => .bad)
  | .bop k a r, e => (ev c a e).bind fun x e1 => (match r with
    | .nil => .ok x e1
    | .cons _ _ => onBl x fun v => if v = k then evB c k r e1 else .ok (.leaf (.bl v)) e1)
  | .not a, e => (ev c a e).bind fun x e1 => onBl x fun v => .ok (.leaf (.bl !v)) e1
  | .ite t a b, e => (ev c t e).bind fun x e1 => onBl x fun v => if v = true then ev c a e1 else ev c b e1
  | .idx a k, e => (ev c a e).bind fun x e1 => (ev c k e1).bind fun y e2 => leafR (dIx x.fz y.fz) e2
  | .slc a lo hi, e => (ev c a e).bind fun x e1 => (evO c lo e1).bind fun l e2 => (evO c hi e2).bind fun h e3 => optR (dSl x.fz l h) e3
  | .rev a, e => (ev c a e).bind fun x e1 => optR (dRev x.fz) e1
  | .lset a, e => (ev c a e).bind fun x e1 => optR (dLset x.fz) e1
  | .tup es, e => (evs c es e).bind fun ts e1 => .ok (.leaf (.tup (T.fzs ts))) e1
  | .lst es, e => (evs c es e).bind fun ts e1 => .ok (.lst ts) e1
  | .bi f es, e => (evs c es e).bind fun ts e1 => optR (db f (T.fzs ts)) e1
  | .ty f es, e => (evs c es e).bind fun ts e1 => optR (dTy f (T.fzs ts)) e1
  | .isi a ts, e => (ev c a e).bind fun x e1 => blR (dIsi x.fz ts) e1
  | .rg es, e => (evs c es e).bind fun ts e1 => leafR (rngOf (T.fzs ts)) e1
  | .call f as ks ars, e => (evA c as e).bind fun ts e0 => (evK c ks e0).bind fun zs e1 => (match takeAr ars (ts ++ zs) e1 with
    | some (us, e2) => (match c.call f us with
      | .ret t outs => (match putAr ars outs e2 with
        | some e3 => .ok t e3
        | none => .bad)
      | .exc x outs => (match putAr ars outs e2 with
        | some e3 => .exc x e3
        | none => .bad)
      | .bad => .bad)
    | none => .bad)
  | .lc elt tg it cs own, e => (evI c it e).bind fun ds e1 => (match compL own (fun d e2 => (match bindTg c tg d e2 with
      | some e3 => (evB c true cs e3).bind fun v e4 => (match v with
        | .leaf (.bl true) => (ev c elt e4).bind fun t e5 => .ok (some t) e5
        | .leaf (.bl false) => .ok none e4
        | _ => .bad)
      | none => .bad)) ds [] (wipe own e1) with
    | .ok ts e2 => .ok (.lst ts) (back own e1 e2)
    | _ => .bad)
  | .lc2 elt tg it tg' it' own own', e => (evI c it e).bind fun ds e1 => (match comp2 (own ++ own') (fun d acc e2 => (match bindTg c tg d e2 with
      | some e3 => (evI c it' e3).bind fun ds' e4 => compC own' (fun d' e5 => (match bindTg c tg' d' e5 with
        | some e6 => ev c elt e6
        | none => .bad)) ds' acc (wipe own' e4)
      | none => .bad)) ds [] (wipe (own ++ own') e1) with
    | .ok ts e2 => .ok (.lst ts) (back (own ++ own') e1 e2)
    | _ => .bad)
  | .pk i ks, e => (match getL e i with
    | some t => (evP c ks t (e.set i none)).bind fun p e1 => (match p.2 with
      | .leaf d => .ok (.leaf d) (e1.set i (some t))
      | _ => .bad)
    | none => .bad)
  | .psl i ks k, e => (match getL e i with
    | some t => (evP c ks t (e.set i none)).bind fun p e1 => (match p.2 with
      | .lst ts => (match unl ts with
        | some ds => .ok (.lst (leafs (cut ds (some k) none))) (e1.set i (some t))
        | none => .bad)
      | _ => .bad)
    | none => .bad)
  | .vb f i ks, e => (match getL e i with
    | some t => (evP c ks t (e.set i none)).bind fun p e1 => optR (db f [p.2.fz]) (e1.set i (some t))
    | none => .bad)
  | .vcmp o i ks a, e => (match getL e i with
    | some t => (evP c ks t (e.set i none)).bind fun p e1 => (ev c a e1).bind fun y e2 => blR (dc o p.2.fz y.fz) (e2.set i (some t))
    | none => .bad)
  | .vin ng a i ks, e => (ev c a e).bind fun x e0 => (match getL e0 i with
    | some t => (evP c ks t (e0.set i none)).bind fun p e1 => blR (dc (if ng then .notin else .inn) x.fz p.2.fz) (e1.set i (some t))
    | none => .bad)
  | .mt o i ks es, e => (match getL e i with
    | some t => (evP c ks t (e.set i none)).bind fun p e1 => (match p.2 with
      | .lst ts => (evs c es e1).bind fun us e2 => (match mtSem o (.lst ts) us with
        | some (u', r) => (match t.mod p.1 fun _ => some u' with
          | some t' => .ok r (e2.set i (some t'))
          | none => .bad)
        | none => .bad)
      | _ => .bad)
    | none => .bad)
  | .mv0 o i es, e => (match getL e i with
    | some (.lst _) => (evs c es e).bind fun us e2 => (match (getL e2 i).bind fun u => mtSem o u us with
      | some (u', r) => .ok r (e2.set i (some u'))
      | none => .bad)
    | _ => .bad)
/-- a place: its keys, what stands there -/
def evP (c : Cx) : Es → T → Env → R (List D × T)
  | .nil, u, e => .ok ([], u) e
  | .cons k r, u, e => (ev c k e).bind fun y e1 => (match u.at1 y.fz with
    | some u' => (evP c r u' e1).bind fun p e2 => .ok (y.fz :: p.1, p.2) e2
    | none => .bad)
/-- and, or of the rest; nothing is the neutral one -/
def evB (c : Cx) (k : Bool) : Es → Env → R T
  | .nil, e => .ok (.leaf (.bl k)) e
  | .cons a r, e => (ev c a e).bind fun x e1 => (match r with
    | .nil => .ok x e1
    | .cons _ _ => onBl x fun v => if v = k then evB c k r e1 else .ok (.leaf (.bl v)) e1)
def evs (c : Cx) : Es → Env → R (List T)
  | .nil, e => .ok [] e
  | .cons a r, e => (ev c a e).bind fun x e1 => (evs c r e1).bind fun xs e2 => .ok (x :: xs) e2
def evA (c : Cx) : Ag → Env → R (List T)
  | .nil, e => .ok [] e
  | .v a r, e => (ev c a e).bind fun x e1 => (evA c r e1).bind fun xs e2 => .ok (x :: xs) e2
  | .io i r, e => (match getL e i with
    | some _ => evA c r e
    | none => .bad)
def evK (c : Cx) : Kw → Env → R (List T)
  | .nil, e => .ok [] e
  | .v _ a r, e => (ev c a e).bind fun x e1 => (evK c r e1).bind fun xs e2 => .ok (x :: xs) e2
  | .io _ i r, e => (match getL e i with
    | some _ => evK c r e
    | none => .bad)
def evO (c : Cx) : Op → Env → R (Option Int)
  | .no, e => .ok none e
  | .so a, e => (ev c a e).bind fun x e1 => (match x.fz with
    | .int i => .ok (some i) e1
    | _ => .bad)
def evI (c : Cx) : I → Env → R (List D)
  | .d a, e => (ev c a e).bind fun x e1 => (match dWalk x.fz with
    | some ds => .ok ds e1
    | none => .bad)
  | .zp a b, e => (ev c a e).bind fun x e1 => (ev c b e1).bind fun y e2 => (match dZip x.fz y.fz with
    | some ds => .ok ds e2
    | none => .bad)
  | .en a, e => (ev c a e).bind fun x e1 => (match dEn x.fz with
    | some ds => .ok ds e1
    | none => .bad)
end

/-- the first clause that takes it -/
def tgs (c : Cx) : List Nat → D → Env → Option Env
  | is, .tup xs, e => if is.length = xs.length then (is.zip xs).foldlM (fun e (p : Nat × D) => setE c p.1 (.leaf p.2) e) e else none
  | is, .lst xs, e => if is.length = xs.length then (is.zip xs).foldlM (fun e (p : Nat × D) => setE c p.1 (.leaf p.2) e) e else none
  | _, _, _ => none
mutual
def ex (c : Cx) : St → Env → S
  | .asg i a, e => (ev c a e).thn fun t e1 => (match setE c i t e1 with
    | some e2 => .nx e2
    | none => .bad)
  | .asgT is a, e => (ev c a e).thn fun t e1 => (match tgs c is t.fz e1 with
    | some e2 => .nx e2
    | none => .bad)
  | .asgC i a, e => (ev c a e).thn fun t e1 => (match setE c i t e1 with
    | some e2 => .nx e2
    | none => .bad)
  | .par i j x y, e => (evs c (.cons x (.cons y .nil)) e).thn fun ts e1 => (match tgs c [i, j] (.tup (T.fzs ts)) e1 with
    | some e2 => .nx e2
    | none => .bad)
  | .par3 i j l x y z, e => (evs c (.cons x (.cons y (.cons z .nil))) e).thn fun ts e1 => (match tgs c [i, j, l] (.tup (T.fzs ts)) e1 with
    | some e2 => .nx e2
    | none => .bad)
  | .put i ks k a, e => (ev c a e).thn fun t e0 => (match getL e0 i with
    | some r => (evP c ks r (e0.set i none)).thn fun p e2 => (ev c k e2).thn fun kk e3 => (match putSem p.2 kk.fz t with
      | some u' => (match r.mod p.1 fun _ => some u' with
        | some r' => .nx (e3.set i (some r'))
        | none => .bad)
      | none => .bad)
    | none => .bad)
  | .aug i o a, e => (match getL e i with
    | some (.leaf (.int n)) => (ev c a e).thn fun t e1 => (match t.fz with
      | .int m => (match dAug o n m with
        | some k => (match setE c i (.leaf (.int k)) e1 with
          | some e2 => .nx e2
          | none => .bad)
        | none => .bad)
      | _ => .bad)
    | _ => .bad)
  | .ifs t a b, e => (ev c t e).thn fun x e1 => (match x with
    | .leaf (.bl true) => exs c a e1
    | .leaf (.bl false) => exs c b e1
    | _ => .bad)
  | .fr tg it b, e => (evI c it e).thn fun ds e1 => forL (fun d e2 => match bindTg c tg d e2 with
    | some e3 => exs c b e3
    | none => .bad) ds e1
  | .wh t b, e => whileI (fun e1 => (ev c t e1).bind fun x e2 => match x with
    | .leaf (.bl v) => .ok v e2
    | _ => .bad) (fun e1 => exs c b e1) e
  | .ret a, e => (ev c a e).thn fun t e1 => .rt t e1
  | .rse k _, e => .exc ⟨k, .non⟩ e
  | .tr b hs, e => (match exs c b e with
    | .exc x e1 => exh c x hs e1
    | r => r)
  | .ex a, e => (ev c a e).thn fun _ e1 => .nx e1
  | .pas, e => .nx e
  | .brk, e => .bk e
def exs (c : Cx) : Sts → Env → S
  | .nil, e => .nx e
  | .cons s r, e => (ex c s e).thn fun e1 => exs c r e1
def exh (c : Cx) (x : Xc) : Hs → Env → S
  | .nil, e => .exc x e
  | .cons k b r, e => if c.sub x.cls k then (match exs c b e with
    | .exc _ _ => .bad
    | q => q) else exh c x r e
end
end

/-- a def: how many parameters, how many names, the parameters whose trees it may change -/
structure Fn where
  n : Nat
  m : Nat
  io : List Nat
  body : Sts
def outsOf (F : Fn) (e : Env) : List (Option T) := (List.range F.n).map fun j => if F.io.contains j then getL e j else none
def Fn.start (F : Fn) (ts : List T) : Env := ts.map some ++ List.replicate (F.m - F.n) none
noncomputable def runFn (call : Nat → List T → Out) (glob : Str → Option D) (sub : Nat → Nat → Bool) (F : Fn) (ts : List T) : Out :=
  if ts.length = F.n then
    match exs ⟨call, glob, F.io, sub⟩ F.body (F.start ts) with
    | .nx e => .ret (.leaf .non) (outsOf F e)
    | .rt t e => .ret t (outsOf F e)
    | .exc x e => .exc x (outsOf F e)
    | _ => .bad
  else .bad
/-- a program: its defs, its constants, its classes of errors -/
structure Pg where
  fn : Nat → Option Fn
  glob : Str → Option D
  sub : Nat → Nat → Bool
/-- the call of a def, at most n deep -/
noncomputable def Pg.run (P : Pg) : Nat → Nat → List T → Out
  | 0, _, _ => .bad
  | n + 1, f, ts => match P.fn f with
    | some F => runFn (P.run n) P.glob P.sub F ts
    | none => .bad
end Mi
end
section
/-! Mi2: how data and trees lie in the heap. -/
namespace Mi
open PySem L2

abbrev Fg := PySem.W.Frag
/-- a list that is never changed -/
def FzL (K : Fg) (H : Hp) (a : Addr) (xs : List V) : Prop := (∃ o, H a = some (.frz o (.lst xs))) ∨ ∃ (its : List Value) (n : Nat), K.lookup a = some { cls := .type "list", data := .seq its.toArray n } ∧ its.length ≤ sizeLine ∧ Vals xs its
theorem FzL.sq {K : Fg} {H : Hp} {a : Addr} {xs : List V} (h : FzL K H a xs) : SqL K H a xs := h.elim (fun x => .inl (.inr x)) fun ⟨its, n, h1, h2, h3⟩ => .inr ⟨_, its.toArray, n, h1, rfl, rfl, rfl, by simpa using h2, h3⟩
mutual
def RD (K : Fg) (H : Hp) : D → V → Prop
  | .non, v => v = .non
  | .bl b, v => v = .bl b
  | .int i, v => v = .int i
  | .str s, v => v = .str s
  | .tup xs, v => ∃ a vs, v = .ref a ∧ SqT K H a vs ∧ RDs K H xs vs
  | .lst xs, v => ∃ a vs, v = .ref a ∧ FzL K H a vs ∧ RDs K H xs vs
  | .rng lo n, v => ∃ a hi, v = .ref a ∧ H a = some (.rng lo hi) ∧ n = (hi - lo).toNat ∧ -(2 ^ 62) ≤ lo ∧ lo < 2 ^ 62 ∧ -(2 ^ 62) ≤ hi ∧ hi < 2 ^ 62
  | .dic _ _, _ => False
  | .set _, _ => False
def RDs (K : Fg) (H : Hp) : List D → List V → Prop
  | [], vs => vs = []
  | x :: xs, vs => ∃ v r, vs = v :: r ∧ RD K H x v ∧ RDs K H xs r
end
mutual
def RT (K : Fg) (H : Hp) : T → V → List Addr → Prop
  | .leaf d, v, fp => RD K H d v ∧ fp = []
  | .lst ts, v, fp => ∃ a vs f, v = .ref a ∧ H a = some (.lst vs) ∧ RTs K H ts vs f ∧ fp = a :: f
  | .dic _ _, _, _ => False
  | .set _, _, _ => False
def RTs (K : Fg) (H : Hp) : List T → List V → List Addr → Prop
  | [], vs, fp => vs = [] ∧ fp = []
  | t :: ts, vs, fp => ∃ v r f g, vs = v :: r ∧ fp = f ++ g ∧ RT K H t v f ∧ RTs K H ts r g
end
/-- an object that may be changed -/
def isOwn : HO → Bool
  | .lst _ => true
  | .dK _ => true
  | .dT _ => true
  | .set _ _ => true
  | .ins _ _ _ => true
  | .ext _ => true
  | _ => false
/-- what is not to be changed stays -/
def Fix (H H' : Hp) : Prop := ∀ a u, H a = some u → isOwn u = false → H' a = some u
theorem Fix.refl {H : Hp} : Fix H H := fun _ _ h _ => h
theorem Fix.trans {H H1 H2 : Hp} (a : Fix H H1) (b : Fix H1 H2) : Fix H H2 := fun x u h o => b x u (a x u h o) o
section
variable {K : Fg} {H H' : Hp}
theorem SqT.fix (f : Fix H H') {a : Addr} {vs : List V} (h : SqT K H a vs) : SqT K H' a vs := by
  rcases h with h | h
  · left
    rcases h with h | ⟨o, h⟩
    · exact .inl (f _ _ h rfl)
    · exact .inr ⟨o, f _ _ h rfl⟩
  · exact .inr h
theorem FzL.fix (f : Fix H H') {a : Addr} {vs : List V} (h : FzL K H a vs) : FzL K H' a vs := by
  rcases h with ⟨o, h⟩ | h
  · exact .inl ⟨o, f _ _ h rfl⟩
  · exact .inr h
mutual
theorem RD.fix (f : Fix H H') : ∀ {d : D} {v : V}, RD K H d v → RD K H' d v
  | .non, _, h => h
  | .bl _, _, h => h
  | .int _, _, h => h
  | .str _, _, h => h
  | .tup xs, _, h => by
    obtain ⟨a, vs, e, s, r⟩ := h
    exact ⟨a, vs, e, SqT.fix f s, RDs.fix f r⟩
  | .lst xs, _, h => by
    obtain ⟨a, vs, e, s, r⟩ := h
    exact ⟨a, vs, e, s.fix f, RDs.fix f r⟩
  | .rng lo n, _, h => by
    obtain ⟨a, hi, e, s, r⟩ := h
    exact ⟨a, hi, e, f _ _ s rfl, r⟩
  | .dic _ _, _, h => h
  | .set _, _, h => h
theorem RDs.fix (f : Fix H H') : ∀ {ds : List D} {vs : List V}, RDs K H ds vs → RDs K H' ds vs
  | [], _, h => h
  | x :: xs, _, h => by
    obtain ⟨v, r, e, h1, h2⟩ := h
    exact ⟨v, r, e, RD.fix f h1, RDs.fix f h2⟩
end
mutual
theorem RT.stay (f : Fix H H') : ∀ {t : T} {v : V} {fp : List Addr}, RT K H t v fp → (∀ a ∈ fp, H' a = H a) → RT K H' t v fp
  | .leaf d, _, _, h, _ => ⟨h.1.fix f, h.2⟩
  | .lst ts, _, _, h, k => by
    obtain ⟨a, vs, g, e, ha, r, rfl⟩ := h
    exact ⟨a, vs, g, e, by rw [k a (by simp)]; exact ha, RTs.stay f r fun b hb => k b (by simp [hb]), rfl⟩
  | .dic _ _, _, _, h, _ => h
  | .set _, _, _, h, _ => h
theorem RTs.stay (f : Fix H H') : ∀ {ts : List T} {vs : List V} {fp : List Addr}, RTs K H ts vs fp → (∀ a ∈ fp, H' a = H a) → RTs K H' ts vs fp
  | [], _, _, h, _ => h
  | t :: ts, _, _, h, k => by
    obtain ⟨v, r, g1, g2, e, rfl, h1, h2⟩ := h
    exact ⟨v, r, g1, g2, e, rfl, RT.stay f h1 fun b hb => k b (by simp [hb]), RTs.stay f h2 fun b hb => k b (by simp [hb])⟩
end
mutual
theorem RT.own : ∀ {t : T} {v : V} {fp : List Addr}, RT K H t v fp → ∀ a ∈ fp, ∃ u, H a = some u ∧ isOwn u = true
  | .leaf d, _, _, h, a, ha => by rw [h.2] at ha; cases ha
  | .lst ts, _, _, h, a, ha => by
    obtain ⟨b, vs, g, e, hb, r, rfl⟩ := h
    rcases List.mem_cons.mp ha with rfl | ha
    · exact ⟨_, hb, rfl⟩
    · exact RTs.own r a ha
  | .dic _ _, _, _, h, _, _ => h.elim
  | .set _, _, _, h, _, _ => h.elim
theorem RTs.own : ∀ {ts : List T} {vs : List V} {fp : List Addr}, RTs K H ts vs fp → ∀ a ∈ fp, ∃ u, H a = some u ∧ isOwn u = true
  | [], _, _, h, a, ha => by rw [h.2] at ha; cases ha
  | t :: ts, _, _, h, a, ha => by
    obtain ⟨v, r, g1, g2, e, rfl, h1, h2⟩ := h
    rcases List.mem_append.mp ha with ha | ha
    · exact RT.own h1 a ha
    · exact RTs.own h2 a ha
end
/-! ### data that are read: a list may be one that changes later -/
mutual
def RV (K : Fg) (H : Hp) : D → V → Prop
  | .non, v => v = .non
  | .bl b, v => v = .bl b
  | .int i, v => v = .int i
  | .str s, v => v = .str s
  | .tup xs, v => ∃ a vs, v = .ref a ∧ SqT K H a vs ∧ RVs K H xs vs
  | .lst xs, v => ∃ a vs, v = .ref a ∧ SqL K H a vs ∧ RVs K H xs vs
  | .rng lo n, v => ∃ a hi, v = .ref a ∧ H a = some (.rng lo hi)
  | .dic _ _, _ => False
  | .set _, _ => False
def RVs (K : Fg) (H : Hp) : List D → List V → Prop
  | [], vs => vs = []
  | x :: xs, vs => ∃ v r, vs = v :: r ∧ RV K H x v ∧ RVs K H xs r
end
mutual
theorem RD.rv : ∀ {d : D} {v : V}, RD K H d v → RV K H d v
  | .non, _, h => h
  | .bl _, _, h => h
  | .int _, _, h => h
  | .str _, _, h => h
  | .tup xs, _, h => by
    obtain ⟨a, vs, e, s, r⟩ := h
    exact ⟨a, vs, e, s, RDs.rv r⟩
  | .lst xs, _, h => by
    obtain ⟨a, vs, e, s, r⟩ := h
    exact ⟨a, vs, e, s.sq, RDs.rv r⟩
  | .rng lo n, _, h => by
    obtain ⟨a, hi, e, s, r⟩ := h
    exact ⟨a, hi, e, s⟩
  | .dic _ _, _, h => h
  | .set _, _, h => h
theorem RDs.rv : ∀ {ds : List D} {vs : List V}, RDs K H ds vs → RVs K H ds vs
  | [], _, h => h
  | x :: xs, _, h => by
    obtain ⟨v, r, e, h1, h2⟩ := h
    exact ⟨v, r, e, RD.rv h1, RDs.rv h2⟩
end
mutual
theorem RT.rv : ∀ {t : T} {v : V} {fp : List Addr}, RT K H t v fp → RV K H t.fz v
  | .leaf d, _, _, h => h.1.rv
  | .lst ts, _, _, h => by
    obtain ⟨a, vs, g, e, ha, r, rfl⟩ := h
    exact ⟨a, vs, e, .of ha, RTs.rv r⟩
  | .dic _ _, _, _, h => h.elim
  | .set _, _, _, h => h.elim
theorem RTs.rv : ∀ {ts : List T} {vs : List V} {fp : List Addr}, RTs K H ts vs fp → RVs K H (T.fzs ts) vs
  | [], _, _, h => h.1
  | t :: ts, _, _, h => by
    obtain ⟨v, r, g1, g2, e, rfl, h1, h2⟩ := h
    exact ⟨v, r, e, RT.rv h1, RTs.rv h2⟩
end
theorem RVs.length : ∀ {xs : List D} {us : List V}, RVs K H xs us → us.length = xs.length
  | [], _, h => by cases h; rfl
  | x :: xs, _, h => by
    obtain ⟨v, r, rfl, h1, h2⟩ := h
    simp [RVs.length h2]
/-! ### all names -/
abbrev Fp := Nat → List Addr
structure RE (K : Fg) (H : Hp) (e : Env) (σ : L2.St) (fps : Fp) : Prop where
  len : e.length = σ.length
  rep : ∀ i t, getL e i = some t → ∃ v, σ[i]? = some (some v) ∧ RT K H t v (fps i)
  emp : ∀ i, getL e i = none → fps i = []
  nd : ∀ i, (fps i).Nodup
  dis : ∀ i j a, a ∈ fps i → a ∈ fps j → i = j
theorem RE.own {e : Env} {σ : L2.St} {fps : Fp} (r : RE K H e σ fps) {i : Nat} {a : Addr} (ha : a ∈ fps i) : ∃ u, H a = some u ∧ isOwn u = true := by
  cases q : getL e i with
  | none => rw [r.emp i q] at ha; cases ha
  | some t =>
    obtain ⟨v, _, h⟩ := r.rep i t q
    exact h.own a ha
/-- from one state to a later one: what no name holds stays; the names that aren't touched hold what they held; fp, fps' are old or new -/
structure Stp (tch : Nat → Bool) (H : Hp) (fps : Fp) (H' : Hp) (fps' : Fp) (fp : List Addr) : Prop where
  keep : ∀ a u, H a = some u → (∀ i, a ∉ fps i) → H' a = some u
  own : ∀ i, tch i = false → fps' i = fps i ∧ ∀ a ∈ fps i, H' a = H a
  new : ∀ a, (a ∈ fp ∨ ∃ i, a ∈ fps' i) → (∃ i, a ∈ fps i) ∨ H a = none
theorem Stp.fix {tch : Nat → Bool} {fps fps' : Fp} {fp : List Addr} {e : Env} {σ : L2.St} (r : RE K H e σ fps) (s : Stp tch H fps H' fps' fp) : Fix H H' := fun a u h o => s.keep a u h fun i hi => by
  obtain ⟨w, hw, hy⟩ := r.own hi
  rw [h] at hw; cases hw; rw [o] at hy; cases hy
theorem Stp.refl {tch : Nat → Bool} {fps : Fp} : Stp tch H fps H fps [] :=
  ⟨fun _ _ h _ => h, fun _ _ => ⟨rfl, fun _ _ => rfl⟩, fun a h => h.elim (fun z => nomatch z) .inl⟩
theorem Stp.mono {t1 t2 : Nat → Bool} {fps fps' : Fp} {fp : List Addr} (s : Stp t1 H fps H' fps' fp) (h : ∀ i, t2 i = false → t1 i = false) : Stp t2 H fps H' fps' fp :=
  ⟨s.keep, fun i hi => s.own i (h i hi), s.new⟩
theorem Stp.less {t1 : Nat → Bool} {fps fps' : Fp} {fp fp' : List Addr} (s : Stp t1 H fps H' fps' fp) (h : ∀ a ∈ fp', a ∈ fp) : Stp t1 H fps H' fps' fp' :=
  ⟨s.keep, s.own, fun a ha => s.new a (ha.imp (h a) id)⟩
/-- one step after the other; what the first one made stays -/
theorem Stp.trans {t1 t2 : Nat → Bool} {H1 H2 : Hp} {fps fps1 fps2 : Fp} {fp1 fp2 : List Addr} (a : Stp t1 H fps H1 fps1 fp1) (b : Stp t2 H1 fps1 H2 fps2 fp2) : Stp (fun i => t1 i || t2 i) H fps H2 fps2 (fp1 ++ fp2) where
  keep := fun x u h n => b.keep x u (a.keep x u h n) fun i hi => by
    rcases a.new x (.inr ⟨i, hi⟩) with ⟨j, hj⟩ | hn
    · exact n j hj
    · rw [h] at hn; cases hn
  own := fun i hi => by
    simp only [Bool.or_eq_false_iff] at hi
    obtain ⟨e1, k1⟩ := a.own i hi.1
    obtain ⟨e2, k2⟩ := b.own i hi.2
    exact ⟨e2.trans e1, fun x hx => (k2 x (by rw [e1]; exact hx)).trans (k1 x hx)⟩
  new := fun x hx => by
    have old : ∀ x, (∃ i, x ∈ fps1 i) ∨ H1 x = none → (∃ i, x ∈ fps i) ∨ H x = none := fun x hx => by
      rcases hx with hx | hx
      · exact a.new x (.inr hx)
      · cases q : H x with
        | none => exact .inr rfl
        | some u =>
          left
          refine Classical.byContradiction fun hn => ?_
          rw [a.keep x u q fun i hi => hn ⟨i, hi⟩] at hx; cases hx
    rcases hx with hx | hx
    · rcases List.mem_append.mp hx with hx | hx
      · exact a.new x (.inl hx)
      · exact old x (b.new x (.inl hx))
    · exact old x (b.new x (.inr hx))
/-- a result: it is apart from all names -/
structure Res (K : Fg) (H : Hp) (fps : Fp) (t : T) (v : V) (fp : List Addr) : Prop where
  rt : RT K H t v fp
  nd : fp.Nodup
  ap : ∀ a ∈ fp, ∀ i, a ∉ fps i
structure Ress (K : Fg) (H : Hp) (fps : Fp) (ts : List T) (vs : List V) (fp : List Addr) : Prop where
  rt : RTs K H ts vs fp
  nd : fp.Nodup
  ap : ∀ a ∈ fp, ∀ i, a ∉ fps i
section
variable {tch : Nat → Bool} {fps fps' : Fp} {fp fp' : List Addr} {e : Env} {σ : L2.St} {t : T} {v : V} {ts : List T} {vs : List V}
theorem Stp.at (s : Stp tch H fps H' fps' fp') (o : ∀ a ∈ fp, ∃ u, H a = some u ∧ isOwn u = true) (ap : ∀ a ∈ fp, ∀ i, a ∉ fps i) : ∀ a ∈ fp, H' a = H a := fun a ha => by
  obtain ⟨u, hu, _⟩ := o a ha
  rw [hu]; exact s.keep a u hu (ap a ha)
theorem Stp.ap (s : Stp tch H fps H' fps' fp') (o : ∀ a ∈ fp, ∃ u, H a = some u ∧ isOwn u = true) (ap : ∀ a ∈ fp, ∀ i, a ∉ fps i) : (∀ a ∈ fp, ∀ i, a ∉ fps' i) ∧ ∀ a ∈ fp, a ∉ fp' := by
  have k : ∀ a ∈ fp, ¬ ((∃ i, a ∈ fps i) ∨ H a = none) := fun a ha => by
    rintro (⟨i, hi⟩ | hn)
    · exact ap a ha i hi
    · obtain ⟨u, hu, _⟩ := o a ha
      rw [hn] at hu; cases hu
  exact ⟨fun a ha i hi => k a ha (s.new a (.inr ⟨i, hi⟩)), fun a ha hi => k a ha (s.new a (.inl hi))⟩
theorem Res.stay (r : RE K H e σ fps) (x : Res K H fps t v fp) (s : Stp tch H fps H' fps' fp') : Res K H' fps' t v fp :=
  ⟨x.rt.stay (s.fix r) (s.at x.rt.own x.ap), x.nd, (s.ap x.rt.own x.ap).1⟩
theorem Ress.stay (r : RE K H e σ fps) (x : Ress K H fps ts vs fp) (s : Stp tch H fps H' fps' fp') : Ress K H' fps' ts vs fp :=
  ⟨x.rt.stay (s.fix r) (s.at x.rt.own x.ap), x.nd, (s.ap x.rt.own x.ap).1⟩
theorem Res.cons (r : RE K H e σ fps) (x : Res K H fps t v fp) (s : Stp tch H fps H' fps' fp') (y : Ress K H' fps' ts vs fp') : Ress K H' fps' (t :: ts) (v :: vs) (fp ++ fp') := by
  have x' := x.stay r s
  refine ⟨⟨v, vs, fp, fp', rfl, rfl, x'.rt, y.rt⟩, List.nodup_append.mpr ⟨x.nd, y.nd, fun a ha b hb h => ?_⟩, fun a ha => ?_⟩
  · exact (s.ap x.rt.own x.ap).2 a ha (h ▸ hb)
  · rcases List.mem_append.mp ha with ha | ha
    · exact x'.ap a ha
    · exact y.ap a ha
theorem Res.leaf {d : D} (h : RD K H d v) : Res K H fps (.leaf d) v [] := ⟨⟨h, rfl⟩, .nil, fun _ h => nomatch h⟩
/-- the heap is fixed off fp -/
theorem RE.stay (r : RE K H e σ fps) (f : Fix H H') (k : ∀ i, ∀ a ∈ fps i, H' a = H a) : RE K H' e σ fps :=
  ⟨r.len, fun i t h => let ⟨v, h1, h2⟩ := r.rep i t h; ⟨v, h1, h2.stay f (k i)⟩, r.emp, r.nd, r.dis⟩
end
end
end Mi
end
section
/-! Mi3: the small language's terms as the program's own, by the places and scopes of a program's text. -/
namespace Mi
open PySem

inductive Ann where
  | p (x : Pos)
  | s (x : Scope)
def Ann.pos : List Ann → Pos
  | .p x :: _ => x
  | _ => ⟨0, 0, 0, 0⟩
def Ann.sc : List Ann → Scope
  | .s x :: _ => x
  | _ => { kind := .module, names := [], isGenerator := false, isCoroutine := false }

/-- the names of a def's slots, of the defs, the classes of errors -/
structure Nm where
  N : List Str
  fn : Nat → Str
  cl : Nat → Str
def Nm.nm (n : Nm) (i : Nat) : Str := n.N.getD i ""

def O2.op : O2 → Operator
  | .add => .Add
  | .sub => .Sub
  | .mul => .Mult
  | .fdiv => .FloorDiv
  | .mod => .Mod
  | .pow => .Pow
def OC.op : OC → CmpOp
  | .eq => .Eq
  | .ne => .NotEq
  | .lt => .Lt
  | .le => .LtE
  | .gt => .Gt
  | .ge => .GtE
  | .is => .Is
  | .isnot => .IsNot
  | .inn => .In
  | .notin => .NotIn
def B.nm : B → Str
  | .len => "len"
  | .abs => "abs"
  | .min => "min"
  | .max => "max"
  | .sum => "sum"
  | .all => "all"
  | .any => "any"
  | .sorted => "sorted"
def B.id : B → String
  | .len => "len"
  | .abs => "abs"
  | .min => "min"
  | .max => "max"
  | .sum => "sum"
  | .all => "all"
  | .any => "any"
  | .sorted => "sorted"
def Ty.nm : Ty → Str
  | .int => "int"
  | .str => "str"
  | .bool => "bool"
  | .tuple => "tuple"
  | .list => "list"
  | .set => "set"
  | .dict => "dict"
def Ty.id : Ty → String
  | .int => "int"
  | .str => "str"
  | .bool => "bool"
  | .tuple => "tuple"
  | .list => "list"
  | .set => "set"
  | .dict => "dict"
def mtNm : Nat → Str
  | 0 => "append"
  | 1 => "extend"
  | _ => ""

abbrev As := List Ann
/-- the names of types, each with its place -/
def toTys : List Ty → As → List Expr × As
  | [], as => ([], as)
  | t :: ts, as => let r := toTys ts as.tail; (.Name t.nm (Ann.pos as) :: r.1, r.2)
def toIsT (ts : List Ty) (as : As) : Expr × As := match ts with
  | [t] => (.Name t.nm (Ann.pos as), as.tail)
  | ts => let r := toTys ts as.tail; (.Tuple r.1 0 (Ann.pos as), r.2)
def toNames (n : Nm) : List Nat → As → List Expr × As
  | [], as => ([], as)
  | i :: is, as => let r := toNames n is as.tail; (.Name (n.nm i) (Ann.pos as) :: r.1, r.2)
def toTg (n : Nm) : Tg → As → Expr × As
  | .nm i, as => (.Name (n.nm i) (Ann.pos as), as.tail)
  | .tp is, as => let r := toNames n is as.tail; (.Tuple r.1 0 (Ann.pos as), r.2)
mutual
def toE (n : Nm) : E → As → Expr × As
  | .non, as => (.Constant .none 0 (Ann.pos as), as.tail)
  | .bl b, as => (.Constant (.bool b) 0 (Ann.pos as), as.tail)
  | .int i, as => (.Constant (.int i) 0 (Ann.pos as), as.tail)
  | .str s, as => (.Constant (.str s) 0 (Ann.pos as), as.tail)
  | .get i, as => (.Name (n.nm i) (Ann.pos as), as.tail)
  | .fz i, as => (.Name (n.nm i) (Ann.pos as), as.tail)
  | .mv i, as => (.Name (n.nm i) (Ann.pos as), as.tail)
  | .gl x, as => (.Name x (Ann.pos as), as.tail)
  | .bin o a b, as => (.BinOp (toE n a as.tail).1 o.op (toE n b (toE n a as.tail).2).1 (Ann.pos as), (toE n b (toE n a as.tail).2).2)
  | .neg a, as => (.UnaryOp .USub (toE n a as.tail).1 (Ann.pos as), (toE n a as.tail).2)
  | .cmp o a b, as => (.Compare (toE n a as.tail).1 [o.op] [(toE n b (toE n a as.tail).2).1] (Ann.pos as), (toE n b (toE n a as.tail).2).2)
  | .chn o o' a b d, as => (.Compare (toE n a as.tail).1 [o.op, o'.op] [(toE n b (toE n a as.tail).2).1, (toE n d (toE n b (toE n a as.tail).2).2).1] (Ann.pos as), (toE n d (toE n b (toE n a as.tail).2).2).2)
  | .bop k a r, as => (.BoolOp (if k then .And else .Or) ((toE n a as.tail).1 :: (toEs n r (toE n a as.tail).2).1) (Ann.pos as), (toEs n r (toE n a as.tail).2).2)
  | .not a, as => (.UnaryOp .Not (toE n a as.tail).1 (Ann.pos as), (toE n a as.tail).2)
  | .ite t a b, as => (.IfExp (toE n t as.tail).1 (toE n a (toE n t as.tail).2).1 (toE n b (toE n a (toE n t as.tail).2).2).1 (Ann.pos as), (toE n b (toE n a (toE n t as.tail).2).2).2)
  | .idx a k, as => (.Subscript (toE n a as).1 (toE n k (toE n a as).2.tail).1 (Ann.pos (toE n a as).2), (toE n k (toE n a as).2.tail).2)
  | .slc a lo hi, as => (.Subscript (toE n a as).1 (.Slice (toO n lo (toE n a as).2.tail.tail).1 (toO n hi (toO n lo (toE n a as).2.tail.tail).2).1 none (Ann.pos (toE n a as).2.tail)) (Ann.pos (toE n a as).2),
      (toO n hi (toO n lo (toE n a as).2.tail.tail).2).2)
  | .rev a, as => (.Subscript (toE n a as).1 (.Slice none none (some (.UnaryOp .USub (.Constant (.int 1) 0 (Ann.pos (toE n a as).2.tail.tail.tail)) (Ann.pos (toE n a as).2.tail.tail))) (Ann.pos (toE n a as).2.tail)) (Ann.pos (toE n a as).2),
      (toE n a as).2.tail.tail.tail.tail)
  | .lset a, as => (.Call (.Name "len" (Ann.pos as.tail)) [.Call (.Name "set" (Ann.pos as.tail.tail.tail)) [(toE n a as.tail.tail.tail.tail).1] [] (Ann.pos as.tail.tail)] [] (Ann.pos as), (toE n a as.tail.tail.tail.tail).2)
  | .tup es, as => (.Tuple (toEs n es as.tail).1 0 (Ann.pos as), (toEs n es as.tail).2)
  | .lst es, as => (.List (toEs n es as.tail).1 (Ann.pos as), (toEs n es as.tail).2)
  | .bi f es, as => (.Call (.Name f.nm (Ann.pos as.tail)) (toEs n es as.tail.tail).1 [] (Ann.pos as), (toEs n es as.tail.tail).2)
  | .ty f es, as => (.Call (.Name f.nm (Ann.pos as.tail)) (toEs n es as.tail.tail).1 [] (Ann.pos as), (toEs n es as.tail.tail).2)
  | .isi a ts, as => (.Call (.Name "isinstance" (Ann.pos as.tail)) [(toE n a as.tail.tail).1, (toIsT ts (toE n a as.tail.tail).2).1] [] (Ann.pos as), (toIsT ts (toE n a as.tail.tail).2).2)
  | .rg es, as => (.Call (.Name "range" (Ann.pos as.tail)) (toEs n es as.tail.tail).1 [] (Ann.pos as), (toEs n es as.tail.tail).2)
  | .call f es ks _, as => (.Call (.Name (n.fn f) (Ann.pos as.tail)) (toA n es as.tail.tail).1 (toK n ks (toA n es as.tail.tail).2).1 (Ann.pos as), (toK n ks (toA n es as.tail.tail).2).2)
  | .lc elt tg it cs _, as => (.ListComp (toE n elt as.tail.tail).1 [⟨(toTg n tg (toE n elt as.tail.tail).2).1, (toI n it (toTg n tg (toE n elt as.tail.tail).2).2).1, (toEs n cs (toI n it (toTg n tg (toE n elt as.tail.tail).2).2).2).1, 0⟩] (Ann.sc as.tail) (Ann.pos as),
      (toEs n cs (toI n it (toTg n tg (toE n elt as.tail.tail).2).2).2).2)
  | .lc2 elt tg it tg' it' _ _, as => let a1 := toE n elt as.tail.tail; let a2 := toTg n tg a1.2; let a3 := toI n it a2.2; let a4 := toTg n tg' a3.2; let a5 := toI n it' a4.2
      (.ListComp a1.1 [⟨a2.1, a3.1, [], 0⟩, ⟨a4.1, a5.1, [], 0⟩] (Ann.sc as.tail) (Ann.pos as), a5.2)
  | .pk i ks, as => toPl n ks (.Name (n.nm i) (Ann.pos as)) as.tail
  | .psl i ks k, as => let p := toPl n ks (.Name (n.nm i) (Ann.pos as)) as.tail; (.Subscript p.1 (.Slice (some (.Constant (.int k) 0 (Ann.pos p.2.tail.tail))) none none (Ann.pos p.2.tail)) (Ann.pos p.2), p.2.tail.tail.tail)
  | .vb f i ks, as => (.Call (.Name f.nm (Ann.pos as.tail)) [(toPl n ks (.Name (n.nm i) (Ann.pos as.tail.tail)) as.tail.tail.tail).1] [] (Ann.pos as), (toPl n ks (.Name (n.nm i) (Ann.pos as.tail.tail)) as.tail.tail.tail).2)
  | .vcmp o i ks a, as => let p := toPl n ks (.Name (n.nm i) (Ann.pos as.tail)) as.tail.tail; (.Compare p.1 [o.op] [(toE n a p.2).1] (Ann.pos as), (toE n a p.2).2)
  | .vin ng a i ks, as => let x := toE n a as.tail; let p := toPl n ks (.Name (n.nm i) (Ann.pos x.2)) x.2.tail; (.Compare x.1 [if ng then .NotIn else .In] [p.1] (Ann.pos as), p.2)
  | .mt o i ks es, as => let p := toPl n ks (.Name (n.nm i) (Ann.pos as.tail.tail)) as.tail.tail.tail; (.Call (.Attribute p.1 (mtNm o) (Ann.pos as.tail)) (toEs n es p.2).1 [] (Ann.pos as), (toEs n es p.2).2)
  | .mv0 o i es, as => (.Call (.Attribute (.Name (n.nm i) (Ann.pos as.tail.tail)) (mtNm o) (Ann.pos as.tail)) (toEs n es as.tail.tail.tail).1 [] (Ann.pos as), (toEs n es as.tail.tail.tail).2)
def toEs (n : Nm) : Es → As → List Expr × As
  | .nil, as => ([], as)
  | .cons a r, as => ((toE n a as).1 :: (toEs n r (toE n a as).2).1, (toEs n r (toE n a as).2).2)
def toA (n : Nm) : Ag → As → List Expr × As
  | .nil, as => ([], as)
  | .v a r, as => ((toE n a as).1 :: (toA n r (toE n a as).2).1, (toA n r (toE n a as).2).2)
  | .io i r, as => (.Name (n.nm i) (Ann.pos as) :: (toA n r as.tail).1, (toA n r as.tail).2)
def toK (n : Nm) : Kw → As → List Keyword × As
  | .nil, as => ([], as)
  | .v k a r, as => (⟨some k, (toE n a as.tail).1, Ann.pos as⟩ :: (toK n r (toE n a as.tail).2).1, (toK n r (toE n a as.tail).2).2)
  | .io k i r, as => (⟨some k, .Name (n.nm i) (Ann.pos as.tail), Ann.pos as⟩ :: (toK n r as.tail.tail).1, (toK n r as.tail.tail).2)
/-- x[k][k'].. -/
def toPl (n : Nm) : Es → Expr → As → Expr × As
  | .nil, x, as => (x, as)
  | .cons k r, x, as => toPl n r (.Subscript x (toE n k as.tail).1 (Ann.pos as)) (toE n k as.tail).2
def toO (n : Nm) : Op → As → Option Expr × As
  | .no, as => (none, as)
  | .so a, as => (some (toE n a as).1, (toE n a as).2)
def toI (n : Nm) : I → As → Expr × As
  | .d a, as => toE n a as
  | .zp a b, as => (.Call (.Name "zip" (Ann.pos as.tail)) [(toE n a as.tail.tail).1, (toE n b (toE n a as.tail.tail).2).1] [] (Ann.pos as), (toE n b (toE n a as.tail.tail).2).2)
  | .en a, as => (.Call (.Name "enumerate" (Ann.pos as.tail)) [(toE n a as.tail.tail).1] [] (Ann.pos as), (toE n a as.tail.tail).2)
end
mutual
def toS (n : Nm) : St → As → Stmt × As
  | .asg i a, as => (.Assign [.Name (n.nm i) (Ann.pos as.tail)] (toE n a as.tail.tail).1 (Ann.pos as), (toE n a as.tail.tail).2)
  | .asgT is a, as => let r := toNames n is as.tail.tail; (.Assign [.Tuple r.1 0 (Ann.pos as.tail)] (toE n a r.2).1 (Ann.pos as), (toE n a r.2).2)
  | .asgC i a, as => (.Assign [.Name (n.nm i) (Ann.pos as.tail)] (toE n a as.tail.tail).1 (Ann.pos as), (toE n a as.tail.tail).2)
  | .par i j x y, as => let v := toEs n (.cons x (.cons y .nil)) as.tail.tail.tail.tail.tail; (.Assign [.Tuple [.Name (n.nm i) (Ann.pos as.tail.tail), .Name (n.nm j) (Ann.pos as.tail.tail.tail)] 0 (Ann.pos as.tail)] (.Tuple v.1 0 (Ann.pos as.tail.tail.tail.tail)) (Ann.pos as), v.2)
  | .par3 i j l x y z, as => let v := toEs n (.cons x (.cons y (.cons z .nil))) as.tail.tail.tail.tail.tail.tail; (.Assign [.Tuple [.Name (n.nm i) (Ann.pos as.tail.tail), .Name (n.nm j) (Ann.pos as.tail.tail.tail), .Name (n.nm l) (Ann.pos as.tail.tail.tail.tail)] 0 (Ann.pos as.tail)] (.Tuple v.1 0 (Ann.pos as.tail.tail.tail.tail.tail)) (Ann.pos as), v.2)
  | .put i ks k a, as => let p := toPl n ks (.Name (n.nm i) (Ann.pos as.tail)) as.tail.tail; let q := toE n k p.2.tail
      (.Assign [.Subscript p.1 q.1 (Ann.pos p.2)] (toE n a q.2).1 (Ann.pos as), (toE n a q.2).2)
  | .aug i o a, as => (.AugAssign (.Name (n.nm i) (Ann.pos as.tail)) o.op (toE n a as.tail.tail).1 (Ann.pos as), (toE n a as.tail.tail).2)
  | .ifs t a b, as => (.If (toE n t as.tail).1 (toSs n a (toE n t as.tail).2).1 (toSs n b (toSs n a (toE n t as.tail).2).2).1 (Ann.pos as), (toSs n b (toSs n a (toE n t as.tail).2).2).2)
  | .fr tg it b, as => (.For (toTg n tg as.tail).1 (toI n it (toTg n tg as.tail).2).1 (toSs n b (toI n it (toTg n tg as.tail).2).2).1 [] (Ann.pos as), (toSs n b (toI n it (toTg n tg as.tail).2).2).2)
  | .wh t b, as => (.While (toE n t as.tail).1 (toSs n b (toE n t as.tail).2).1 [] (Ann.pos as), (toSs n b (toE n t as.tail).2).2)
  | .ret a, as => (.Return (some (toE n a as.tail).1) (Ann.pos as), (toE n a as.tail).2)
  | .rse k m, as => (.Raise (some (.Call (.Name (n.cl k) (Ann.pos as.tail.tail)) [.Constant (.str m) 0 (Ann.pos as.tail.tail.tail)] [] (Ann.pos as.tail))) none (Ann.pos as), as.tail.tail.tail.tail)
  | .tr b hs, as => (.Try (toSs n b as.tail).1 (toHs n hs (toSs n b as.tail).2).1 [] [] (Ann.pos as), (toHs n hs (toSs n b as.tail).2).2)
  | .ex a, as => (.Expr (toE n a as.tail).1 (Ann.pos as), (toE n a as.tail).2)
  | .pas, as => (.Pass (Ann.pos as), as.tail)
  | .brk, as => (.Break (Ann.pos as), as.tail)
def toSs (n : Nm) : Sts → As → List Stmt × As
  | .nil, as => ([], as)
  | .cons s r, as => ((toS n s as).1 :: (toSs n r (toS n s as).2).1, (toSs n r (toS n s as).2).2)
def toHs (n : Nm) : Hs → As → List ExceptHandler × As
  | .nil, as => ([], as)
  | .cons k b r, as => (.ExceptHandler (some (.Name (n.cl k) (Ann.pos as.tail))) none (toSs n b as.tail.tail).1 (Ann.pos as) :: (toHs n r (toSs n b as.tail.tail).2).1, (toHs n r (toSs n b as.tail.tail).2).2)
end

/-! ### the places and scopes of a text, in the same order -/
mutual
def anE : Expr → As
  | .Constant _ _ p => [.p p]
  | .Name _ p => [.p p]
  | .BinOp a _ b p => .p p :: (anE a ++ anE b)
  | .UnaryOp _ a p => .p p :: anE a
  | .Compare a _ es p => .p p :: (anE a ++ anEs es)
  | .BoolOp _ es p => .p p :: anEs es
  | .IfExp t a b p => .p p :: (anE t ++ anE a ++ anE b)
  | .Subscript a k p => anE a ++ .p p :: anE k
  | .Slice lo hi st p => .p p :: (anO lo ++ anO hi ++ anO st)
  | .Tuple es _ p => .p p :: anEs es
  | .List es p => .p p :: anEs es
  | .Attribute a _ p => .p p :: anE a
  | .Call f es ks p => .p p :: (anE f ++ anEs es ++ anK ks)
  | .ListComp a gs sc p => .p p :: .s sc :: (anE a ++ anG gs)
  | _ => []
def anEs : List Expr → As
  | [] => []
  | e :: es => anE e ++ anEs es
def anO : Option Expr → As
  | none => []
  | some e => anE e
def anK : List Keyword → As
  | [] => []
  | ⟨_, e, p⟩ :: r => .p p :: (anE e ++ anK r)
def anG : List Comprehension → As
  | [] => []
  | ⟨t, i, cs, _⟩ :: r => anE t ++ anE i ++ anEs cs ++ anG r
end
mutual
def anS : Stmt → As
  | .Assign ts e p => .p p :: (anEs ts ++ anE e)
  | .AugAssign t _ e p => .p p :: (anE t ++ anE e)
  | .If t a b p => .p p :: (anE t ++ anSs a ++ anSs b)
  | .For t i b _ p => .p p :: (anE t ++ anE i ++ anSs b)
  | .While t b _ p => .p p :: (anE t ++ anSs b)
  | .Return (some e) p => .p p :: anE e
  | .Raise (some e) _ p => .p p :: anE e
  | .Try b hs _ _ p => .p p :: (anSs b ++ anHs hs)
  | .Expr e p => .p p :: anE e
  | .Pass p => [.p p]
  | .Break p => [.p p]
  | _ => []
def anSs : List Stmt → As
  | [] => []
  | s :: r => anS s ++ anSs r
def anHs : List ExceptHandler → As
  | [] => []
  | .ExceptHandler (some t) _ b p :: r => .p p :: (anE t ++ anSs b ++ anHs r)
  | _ => []
end
end Mi
end
section
set_option maxRecDepth 100000
/-! Mi4: the operations on data are the model's. -/
namespace Mi
open PySem L2 PySem.Spec PyProof.Rows

/-- a new result: its own objects are new -/
def RRes (K : Fg) (t : T) (H : Hp) (Q : VK) : Prop := ∀ v H' fp, RT K H' t v fp → fp.Nodup → (∀ a ∈ fp, H a = none) → (∀ a u, H a = some u → H' a = some u) → Q v H'
section
variable {K : Fg} {H : Hp} {Q : VK} {d : D} {v : V}
theorem RRes.at (h : RRes K (.leaf d) H Q) (r : RD K H d v) : Q v H := h v H [] ⟨r, rfl⟩ .nil (fun _ h => nomatch h) fun _ _ h => h
theorem upd_old {p : Addr} {o : HO} (hp : H p = none) : ∀ a u, H a = some u → upd H p o a = some u := fun a u h => by rw [upd_ne (ne_of_none h hp)]; exact h
theorem fix_of (h : ∀ a u, H a = some u → H' a = some u) : Fix H H' := fun a u x _ => h a u x
theorem RDs.append : ∀ {xs ys : List D} {us vs : List V}, RDs K H xs us → RDs K H ys vs → RDs K H (xs ++ ys) (us ++ vs)
  | [], _, _, _, h, h' => by cases h; exact h'
  | x :: xs, _, _, _, h, h' => by
    obtain ⟨v, r, rfl, h1, h2⟩ := h
    exact ⟨v, _, rfl, h1, RDs.append h2 h'⟩
theorem RDs.length : ∀ {xs : List D} {us : List V}, RDs K H xs us → us.length = xs.length
  | [], _, h => by cases h; rfl
  | x :: xs, _, h => by
    obtain ⟨v, r, rfl, h1, h2⟩ := h
    simp [RDs.length h2]
theorem RDs.take : ∀ {xs : List D} {us : List V} (n : Nat), RDs K H xs us → RDs K H (xs.take n) (us.take n)
  | [], _, n, h => by cases h; simp [RDs]
  | x :: xs, _, 0, h => by simp [RDs]
  | x :: xs, _, n + 1, h => by
    obtain ⟨v, r, rfl, h1, h2⟩ := h
    exact ⟨v, r.take n, rfl, h1, RDs.take n h2⟩
theorem RDs.drop : ∀ {xs : List D} {us : List V} (n : Nat), RDs K H xs us → RDs K H (xs.drop n) (us.drop n)
  | [], _, n, h => by cases h; simp [RDs]
  | x :: xs, _, 0, h => h
  | x :: xs, _, n + 1, h => by
    obtain ⟨v, r, rfl, h1, h2⟩ := h
    exact RDs.drop n h2
theorem RDs.reverse : ∀ {xs : List D} {us : List V}, RDs K H xs us → RDs K H xs.reverse us.reverse
  | [], _, h => by cases h; simp [RDs]
  | x :: xs, _, h => by
    obtain ⟨v, r, rfl, h1, h2⟩ := h
    rw [List.reverse_cons, List.reverse_cons]
    exact RDs.append (RDs.reverse h2) ⟨v, [], rfl, h1, rfl⟩
theorem RDs.rep {xs : List D} {us : List V} (h : RDs K H xs us) : ∀ n : Nat, RDs K H (List.replicate n xs).flatten (List.replicate n us).flatten
  | 0 => by simp [RDs]
  | n + 1 => by rw [List.replicate_succ, List.replicate_succ, List.flatten_cons, List.flatten_cons]; exact RDs.append h (RDs.rep h n)
theorem RDs.get : ∀ {xs : List D} {us : List V} {i : Nat} {d : D}, RDs K H xs us → xs[i]? = some d → ∃ v, us[i]? = some v ∧ RD K H d v
  | [], _, i, _, h, e => by simp at e
  | x :: xs, _, 0, _, h, e => by
    obtain ⟨v, r, rfl, h1, h2⟩ := h
    simp at e; subst e
    exact ⟨v, rfl, h1⟩
  | x :: xs, _, i + 1, _, h, e => by
    obtain ⟨v, r, rfl, h1, h2⟩ := h
    simpa using RDs.get h2 (by simpa using e)
theorem RDs.rts : ∀ {xs : List D} {us : List V}, RDs K H xs us → RTs K H (leafs xs) us []
  | [], _, h => ⟨h, rfl⟩
  | x :: xs, _, h => by
    obtain ⟨v, r, rfl, h1, h2⟩ := h
    exact ⟨v, r, [], [], rfl, rfl, ⟨h1, rfl⟩, RDs.rts h2⟩
theorem RDs.len {xs : List D} {us : List V} (h : RDs K H xs us) : xs.length = us.length := h.length.symm
/-- a new list of data -/
theorem RRes.newL {p : Addr} {xs : List D} {us : List V} (h : RRes K (.lst (leafs xs)) H Q) (r : RDs K H xs us) (hp : H p = none) : Q (.ref p) (upd H p (.lst us)) :=
  h _ _ [p] ⟨p, us, [], rfl, upd_same, (RDs.fix (fix_of (upd_old hp)) r).rts, rfl⟩ (by simp) (fun a ha => by simp at ha; subst ha; exact hp) (upd_old hp)
theorem RRes.newT {p : Addr} {xs : List D} {us : List V} (h : RRes K (.leaf (.tup xs)) H Q) (r : RDs K H xs us) (hp : H p = none) : Q (.ref p) (upd H p (.tup us)) :=
  h _ _ [] ⟨⟨p, us, rfl, .of upd_same, RDs.fix (fix_of (upd_old hp)) r⟩, rfl⟩ .nil (fun _ h => nomatch h) (upd_old hp)
end

theorem OpR.imp {X : L2.Cx} {f : Value → Value → Sem Value} {r r' : R2} (h : OpR X f r) (i : ∀ x y H Q, r' x y H Q → r x y H Q) : OpR X f r' := fun pins s σ H x y v u Q I rx ry q => h pins s σ H x y v u Q I rx ry (i _ _ _ _ q)
/-- by what the operands are -/
theorem OpR.cases {X : L2.Cx} {f : Value → Value → Sem Value} {r' : R2} (h : ∀ x y H Q, r' x y H Q → ∃ r, OpR X f r ∧ r x y H Q) : OpR X f r' := fun pins s σ H x y v u Q I rx ry q => by
  obtain ⟨r, h1, h2⟩ := h _ _ _ _ q
  exact h1 pins s σ H x y v u Q I rx ry h2

section
variable {X : L2.Cx} {pins : List (Addr × Obj)} {σ : L2.St} {H : Hp} {s : Shared}
theorem lstF (I : Inv X pins σ H s) {a : Addr} {xs : List V} (h : Rd H a (.lst xs)) : xs.length ≤ sizeLine ∧ ∃ (its : List Value) (n : Nat), Vals xs its ∧ xs.length = its.length ∧ s.heap.get? a = some { cls := .type "list", data := .seq its.toArray n } := by
  obtain ⟨z, its, n, r, e⟩ := h.ok I.hok
  exact ⟨z, its, n, r, r.length, e⟩
theorem lstZ (I : Inv X pins σ H s) {a : Addr} {xs : List V} (h : FzL X.K H a xs) : xs.length ≤ sizeLine ∧ ∃ (its : List Value) (n : Nat), Vals xs its ∧ xs.length = its.length ∧ s.heap.get? a = some { cls := .type "list", data := .seq its.toArray n } := by
  rcases h with h | ⟨its, n, h1, h2, r⟩
  · exact lstF I (.inr h)
  · exact ⟨by rw [r.length]; exact h2, its, n, r, r.length, I.kIn _ _ h1⟩
def rCatF (K : Fg) : R2 := fun x y H Q => ∃ l b xs zs, x = .ref l ∧ y = .ref b ∧ FzL K H l xs ∧ FzL K H b zs ∧ xs.length + zs.length ≤ sizeLine ∧ ∀ p, H p = none → Q (.ref p) (upd H p (.lst (xs ++ zs)))
theorem op_catF : OpR X (binaryOp .Add) (rCatF X.K) := by
  intro pins s σ H x y v u Q I rx ry h
  obtain ⟨l, b, xs, zs, rfl, rfl, hH, hB, hz, q⟩ := h
  cases rx
  cases ry
  obtain ⟨z, its, n, r, hl, e⟩ := lstZ I hH
  obtain ⟨z2, its2, n2, r2, hl2, e2⟩ := lstZ I hB
  refine PySem.P.add_list e e2 ?_ (by rw [List.size_toArray, List.size_toArray]; omega)
  have ea : its.toArray ++ its2.toArray = (its ++ its2).toArray := by simp
  rw [ea]
  exact ⟨.ref _, _, I.lnew (t' := s.toks) (r.append r2) (by rw [List.length_append]; omega), rfl, q _ I.fresh⟩
def rRepF (K : Fg) : R2 := fun x y H Q => ∃ l k xs, x = .ref l ∧ y = .int k ∧ FzL K H l xs ∧ -(2 ^ 63) ≤ k ∧ k < 2 ^ 63 ∧ xs.length * k.toNat ≤ sizeLine ∧
  ∀ p, H p = none → Q (.ref p) (upd H p (.lst (List.replicate k.toNat xs).flatten))
theorem op_repF : OpR X (binaryOp .Mult) (rRepF X.K) := by
  intro pins s σ H x y v u Q I rx ry h
  obtain ⟨l, k, xs, rfl, rfl, hH, h1, h2, hz, q⟩ := h
  cases rx
  obtain ⟨t, rfl⟩ := ry
  obtain ⟨z, its, n, r, hl, e⟩ := lstZ I hH
  have hlen : its.toArray.size * k.toNat ≤ sizeLine := by rw [List.size_toArray, ← hl]; exact hz
  have hcap : ¬ its.toArray.size * k.toNat > (2 ^ 63 - 1) / 8 := by
    have : (sizeLine : Nat) ≤ (2 ^ 63 - 1) / 8 := by decide
    omega
  have hfit : ¬ (!Builtin.List.listFitsIndex k) = true := by
    rw [fitsIndex_both h1 h2]
    exact Bool.false_ne_true
  have hlong : ¬ Builtin.List.listTooLong (its.toArray.size * k.toNat) = true := by
    rw [notLongL hlen]
    exact Bool.false_ne_true
  have hnew : List.foldl (fun x1 x2 => x1 ++ x2) #[] (List.replicate (if its.toArray.isEmpty = true then 0 else k.toNat) its.toArray) = (List.replicate k.toNat its).flatten.toArray := by
    rw [size_rep]
    cases its with
    | nil => simp
    | cons a r' => rw [if_neg (by simp)]
  refine wpAny_binaryOp_repeat_ref (T := "list") (U := "int") (by decide) ⟨_, e, rfl⟩ (fun s' => typeIs_int s' k t) noFill_list_mul F.fills_int_mul F.slot_int_rmul repeat_list F.slot_int_index.lookup
    (call_meets F.slot_int_rmul (typeIs_int s k t) F.entry_int_rmul (F.args_int_rmul_2 _ _) (int___rmul___int_list k t l its.toArray n)
      ⟨e, rfl, ⟨_, e, rfl⟩, call_meets F.slot_list_mul ⟨_, e, rfl⟩ F.entry_list_mul (F.args_list_mul_2 _ _) (AutoListH.list___mul___list_int_3 l its.toArray n k t hfit hcap hlong) ⟨e, ?_⟩⟩)
  rw [hnew]
  exact ⟨.ref _, _, I.lnew (t' := s.toks) (r.rep k.toNat) (by rw [PyProof.Rows.lm_len_rep_flat, Nat.mul_comm]; exact hz), rfl, q _ I.fresh⟩

/-! a tuple times an int -/
theorem tuple_mul_same (l : Addr) (items : Array Value) (n : Nat) (dd : Option Addr) (sl : Array (Option Value)) (x : Int) (u : Tok) (c0 : (decide (x < -(2 ^ 63)) || decide (x ≥ 2 ^ 63)) = false) (c1 : (items.isEmpty || x == 1) = true) :
    Meets (Builtin.«tuple.__mul__» ⟨[.ref l, .int x u], []⟩) (fun _ R s => s.heap.get? l = some { cls := .type "tuple", dict := dd, data := .seq items n, slots := sl } ∧ R (.ok (.ret (Value.ref l))) s) :=
  .of_wp fun prog w A R s h => by
    obtain ⟨hp, g, d, tk, os⟩ := s
    obtain ⟨hl, h⟩ := h
    have f1 := AutoSeq1.idx_int
    wp_walk using wpAny_loadPart' hl
    repeat (first
      | (refine wpAny_ite_false (decide_eq_false (by rw [c0]; exact Bool.false_ne_true)) ?_; wp_walk using wpAny_loadPart' hl)
      | (refine wpAny_ite_true (decide_eq_true c1) ?_; wp_walk using wpAny_loadPart' hl))
    exact ⟨_, rfl, h⟩
theorem tuple_mul_none (l : Addr) (items : Array Value) (n : Nat) (dd : Option Addr) (sl : Array (Option Value)) (x : Int) (u : Tok) (c0 : (decide (x < -(2 ^ 63)) || decide (x ≥ 2 ^ 63)) = false) (c1 : (items.isEmpty || x == 1) = false) (c2 : (decide (x ≤ 0) || items.isEmpty) = true) :
    Meets (Builtin.«tuple.__mul__» ⟨[.ref l, .int x u], []⟩) (fun _ R s => s.heap.get? l = some { cls := .type "tuple", dict := dd, data := .seq items n, slots := sl } ∧
      R (.ok (.ret (Value.ref s.heap.objs.size))) { s with heap := s.heap.push { cls := Value.type "tuple", data := Data.seq #[] }, toks := s.toks }) :=
  .of_wp fun prog w A R s h => by
    obtain ⟨hp, g, d, tk, os⟩ := s
    obtain ⟨hl, h⟩ := h
    have f1 := AutoSeq1.idx_int
    wp_walk using wpAny_loadPart' hl
    repeat (first
      | (refine wpAny_ite_false (decide_eq_false (by rw [c0]; exact Bool.false_ne_true)) ?_; wp_walk using wpAny_loadPart' hl)
      | (refine wpAny_ite_false (decide_eq_false (by rw [c1]; exact Bool.false_ne_true)) ?_; wp_walk using wpAny_loadPart' hl)
      | (refine wpAny_ite_true (decide_eq_true c2) ?_; wp_walk using wpAny_loadPart' hl))
    exact ⟨_, rfl, h⟩
def rRepTF (K : Fg) : R2 := fun x y H Q => ∃ l k xs, x = .ref l ∧ y = .int k ∧ SqT K H l xs ∧ -(2 ^ 63) ≤ k ∧ k < 2 ^ 63 ∧ xs.length * k.toNat ≤ sizeLine ∧
  (xs = [] ∨ k = 1 → Q (.ref l) H) ∧ (∀ p, H p = none → Q (.ref p) (upd H p (.tup (List.replicate k.toNat xs).flatten)))
theorem op_repTF : OpR X (binaryOp .Mult) (rRepTF X.K) := by
  intro pins s σ H x y v u Q I rx ry h
  obtain ⟨l, k, xs, rfl, rfl, hT, h1, h2, hz, q1, q2⟩ := h
  cases rx
  obtain ⟨t, rfl⟩ := ry
  obtain ⟨its, r, ⟨⟨cls, dd, data, sl⟩, ho, hc, n, hd⟩, hs⟩ := I.tuple hT
  simp only at hc hd
  subst hc hd
  have hle : its.length = xs.length := r.length.symm
  have c0 : (decide (k < -(2 ^ 63)) || decide (k ≥ 2 ^ 63)) = false := by
    rw [decide_eq_false (by omega), decide_eq_false (by omega)] <;> rfl
  by_cases hs1 : xs = [] ∨ k = 1
  · have c1 : (its.toArray.isEmpty || k == 1) = true := by
      rcases hs1 with rfl | rfl
      · cases its with
        | nil => rfl
        | cons _ _ => simp at hle
      · simp
    exact wpAny_binaryOp_repeat_ref (T := "tuple") (U := "int") (by decide) ⟨_, ho, rfl⟩ (fun s' => typeIs_int s' k t) noFill_tuple_mul F.fills_int_mul F.slot_int_rmul repeat_tuple F.slot_int_index.lookup
      (call_meets F.slot_int_rmul (typeIs_int s k t) F.entry_int_rmul (F.args_int_rmul_2 _ _) (int_rmul_tuple k t l its.toArray n dd sl)
        ⟨ho, rfl, ⟨_, ho, rfl⟩, call_meets F.slot_tuple_mul ⟨_, ho, rfl⟩ F.entry_tuple_mul (F.args_tuple_mul_2 _ _) (tuple_mul_same l its.toArray n dd sl k t c0 c1) ⟨ho, .ref l, H, I, rfl, q1 hs1⟩⟩)
  · have hn : xs ≠ [] := fun e => hs1 (.inl e)
    have hk : k ≠ 1 := fun e => hs1 (.inr e)
    have hi : its.toArray.isEmpty = false := by
      cases its with
      | nil => exact absurd (List.eq_nil_of_length_eq_zero hle.symm) hn
      | cons a b => rfl
    have c1 : (its.toArray.isEmpty || k == 1) = false := by
      rw [hi, Bool.false_or]
      exact beq_eq_false_iff_ne.mpr hk
    have hsz0 : its.toArray.size = xs.length := by rw [List.size_toArray, hle]
    by_cases hk0 : k ≤ 0
    · have c2 : (decide (k ≤ 0) || its.toArray.isEmpty) = true := by rw [decide_eq_true hk0, Bool.true_or]
      refine wpAny_binaryOp_repeat_ref (T := "tuple") (U := "int") (by decide) ⟨_, ho, rfl⟩ (fun s' => typeIs_int s' k t) noFill_tuple_mul F.fills_int_mul F.slot_int_rmul repeat_tuple F.slot_int_index.lookup
        (call_meets F.slot_int_rmul (typeIs_int s k t) F.entry_int_rmul (F.args_int_rmul_2 _ _) (int_rmul_tuple k t l its.toArray n dd sl)
          ⟨ho, rfl, ⟨_, ho, rfl⟩, call_meets F.slot_tuple_mul ⟨_, ho, rfl⟩ F.entry_tuple_mul (F.args_tuple_mul_2 _ _) (tuple_mul_none l its.toArray n dd sl k t c0 c1 c2) ⟨ho, ?_⟩⟩)
      have e0 : k.toNat = 0 := by omega
      have q := q2 s.heap.objs.size (I.hok.fresh (Nat.le_refl _))
      rw [e0, List.replicate_zero, List.flatten_nil] at q
      refine ⟨.ref s.heap.objs.size, _, I.laid (t' := s.toks) (o := .tup []) (fun b ob q => Heap.get?_push_of_some _ q) (Nat.le_refl _) ?_, rfl, q⟩
      exact ⟨Nat.zero_le _, [], .nil, IsTup.new _ _⟩
    · have c2 : (decide (k ≤ 0) || its.toArray.isEmpty) = false := by
        rw [hi, Bool.or_false]
        exact decide_eq_false hk0
      have hkk : ((k.toNat : Nat) : Int) = k := Int.toNat_of_nonneg (by omega)
      have hm : ((its.toArray.size : Nat) : Int) * k ≤ sizeLine := by
        rw [hsz0, ← hkk, ← Int.natCast_mul]
        exact Int.ofNat_le.mpr hz
      have flen : (List.replicate k.toNat its).flatten.length ≤ sizeLine := by
        rw [PyProof.Rows.lm_len_rep_flat, hle, Nat.mul_comm]
        exact hz
      have c4 : Builtin.Tuple.tupleTooMany (((its.toArray.size : Nat) : Int) * k) = false := by
        unfold Builtin.Tuple.tupleTooMany
        exact decide_eq_false (by omega)
      have c3 : ¬ ((its.toArray.size : Nat) : Int) * k > (2 ^ 63 - 1) / 8 := by
        have : ((sizeLine : Nat) : Int) ≤ (2 ^ 63 - 1) / 8 := by rw [sizeLine_eq]; decide
        omega
      refine wpAny_binaryOp_repeat_ref (T := "tuple") (U := "int") (by decide) ⟨_, ho, rfl⟩ (fun s' => typeIs_int s' k t) noFill_tuple_mul F.fills_int_mul F.slot_int_rmul repeat_tuple F.slot_int_index.lookup
        (call_meets F.slot_int_rmul (typeIs_int s k t) F.entry_int_rmul (F.args_int_rmul_2 _ _) (int_rmul_tuple k t l its.toArray n dd sl)
          ⟨ho, rfl, ⟨_, ho, rfl⟩, call_meets F.slot_tuple_mul ⟨_, ho, rfl⟩ F.entry_tuple_mul (F.args_tuple_mul_2 _ _) (tuple_mulW l its.toArray n dd sl k t c0 c1 c2 c3 c4 (by rw [size_rep, List.size_toArray]; exact flen)) ⟨ho, ?_⟩⟩)
      rw [size_rep]
      refine ⟨.ref s.heap.objs.size, _, I.laid (t' := s.toks) (o := .tup (List.replicate k.toNat xs).flatten) (fun b ob q => Heap.get?_push_of_some _ q) (Nat.le_refl _) ?_, rfl, q2 _ (I.hok.fresh (Nat.le_refl _))⟩
      exact ⟨by rw [PyProof.Rows.lm_len_rep_flat, Nat.mul_comm]; exact hz, _, r.rep k.toNat, IsTup.new _ _⟩
def CPowF (i j : Int) : Prop := 0 ≤ j ∧ j ≤ 1000 ∧ i.natAbs < 2 ^ 1000
theorem op_powF : OpR X (binaryOp .Pow) (rI CPowF fun i j => .int (i ^ j.toNat)) := opI fun i j _ _ _ _ _ hc q => by
  refine pow_int hc.1 ?_ q
  have h := intBits_le hc.2.2
  have h1 : (Builtin.Int.intBits i : Int) * j ≤ 1000 * 1000 := Int.mul_le_mul (by omega) hc.2.1 hc.1 (by decide)
  omega
/-- a + b and its like -/
def rD2 (K : Fg) (o : O2) : R2 := fun x y H Q => ∃ a b t, RD K H a x ∧ RD K H b y ∧ d2 o a b = some t ∧ RRes K t H Q
theorem op_d2 (o : O2) : OpR X (binaryOp o.op) (rD2 X.K o) := by
  refine OpR.cases fun x y H Q h => ?_
  obtain ⟨a, b, t, ha, hb, he, hq⟩ := h
  unfold d2 at he
  split at he
  · cases he; cases ha; cases hb
    exact ⟨_, op_add, _, _, rfl, rfl, hq.at rfl⟩
  · split at he <;> cases he
    rename_i hz
    cases ha; cases hb
    exact ⟨_, op_add_str, _, _, rfl, rfl, by rw [sizeLine_eq]; exact hz, hq.at rfl⟩
  · split at he <;> cases he
    rename_i hz
    obtain ⟨p, vs, rfl, hs, hr⟩ := ha
    obtain ⟨p', vs', rfl, hs', hr'⟩ := hb
    refine ⟨_, op_catA, p, p', vs, vs', rfl, rfl, hs, hs', by rw [hr.length, hr'.length, sizeLine_eq]; exact hz, fun e => hq.at ?_, fun _ e => hq.at ?_, fun _ _ p hp => hq.newT (hr.append hr') hp⟩
    · subst e
      have := hr.length
      cases (List.eq_nil_of_length_eq_zero (by simpa using this.symm) : _ = [])
      exact ⟨p', vs', rfl, hs', hr'⟩
    · subst e
      have := hr'.length
      cases (List.eq_nil_of_length_eq_zero (by simpa using this.symm) : _ = [])
      exact ⟨p, vs, rfl, hs, by rw [List.append_nil]; exact hr⟩
  · split at he <;> cases he
    rename_i hz
    obtain ⟨p, vs, rfl, hs, hr⟩ := ha
    obtain ⟨p', vs', rfl, hs', hr'⟩ := hb
    exact ⟨_, op_catF, p, p', vs, vs', rfl, rfl, hs, hs', by rw [hr.length, hr'.length, sizeLine_eq]; exact hz, fun p hp => hq.newL (hr.append hr') hp⟩
  · cases he; cases ha; cases hb
    exact ⟨_, op_sub, _, _, rfl, rfl, hq.at rfl⟩
  · split at he <;> cases he
    rename_i hz
    cases ha; cases hb
    unfold mulOk at hz
    simp only [Bool.or_eq_true, Bool.and_eq_true, decide_eq_true_eq] at hz
    rcases hz with (hz | hz) | hz
    · exact ⟨_, op_mul, _, _, rfl, rfl, .inl (by omega), hq.at rfl⟩
    · exact ⟨_, op_mul, _, _, rfl, rfl, .inr (by omega), hq.at rfl⟩
    · exact ⟨_, op_mulW, _, _, rfl, rfl, wide_mul hz.1 hz.2 (by decide) (by decide) (by decide), hq.at rfl⟩
  · split at he <;> cases he
    rename_i hz
    cases hb
    obtain ⟨p, vs, rfl, hs, hr⟩ := ha
    refine ⟨_, op_repTF, p, _, vs, rfl, rfl, hs, by omega, by omega, by rw [hr.length, sizeLine_eq]; exact hz.2, fun e => hq.at ?_, fun p hp => hq.newT (hr.rep _) hp⟩
    refine ⟨p, vs, rfl, hs, ?_⟩
    rcases e with e | e
    · subst e
      have := hr.length
      cases (List.eq_nil_of_length_eq_zero (by simpa using this.symm) : _ = [])
      have e2 : ∀ n : Nat, (List.replicate n ([] : List D)).flatten = [] := fun n => by induction n with
        | zero => rfl
        | succ n ih => rw [List.replicate_succ, List.flatten_cons, ih]; rfl
      rw [e2]; exact rfl
    · subst e
      simpa using hr
  · split at he <;> cases he
    rename_i hz
    cases hb
    obtain ⟨p, vs, rfl, hs, hr⟩ := ha
    · exact ⟨_, op_repF, p, _, vs, rfl, rfl, hs, by omega, by omega, by rw [hr.length, sizeLine_eq]; exact hz.2, fun p hp => hq.newL (hr.rep _) hp⟩
  · split at he <;> cases he
    rename_i hz
    cases ha; cases hb
    exact ⟨_, op_fdivW, _, _, rfl, rfl, wide_div hz.1 hz.2 (by decide) (by decide), hq.at rfl⟩
  · split at he <;> cases he
    rename_i hz
    cases ha; cases hb
    exact ⟨_, op_mod, _, _, rfl, rfl, hz, hq.at rfl⟩
  · split at he <;> cases he
    rename_i hz
    cases ha; cases hb
    exact ⟨_, op_powF, _, _, rfl, rfl, hz, hq.at rfl⟩
  · cases he
end
end Mi
end
section
set_option maxRecDepth 100000
/-! Mi5: comparisons, items, slices, built-ins. -/
namespace Mi
open PySem L2 PySem.Spec PyProof.Rows
section
variable {K : Fg} {H : Hp} {Q : VK}
theorem RV.non_of {a : D} (h : RV K H a .non) : a = .non := by cases a <;> first | rfl | (simp [RV] at h)
mutual
theorem RV.dp : ∀ {n : Nat} {d : D} {v : V}, D.okN n d = true → RV K H d v → Dp K H v d.py
  | _, .non, _, _, h => by cases h; exact .non
  | _, .bl b, _, _, h => by cases h; exact .bl b
  | _, .int i, _, _, h => by cases h; exact .int i
  | _, .str s, _, _, h => by cases h; exact .str s
  | n + 1, .tup xs, _, o, h => by
    obtain ⟨a, vs, rfl, hs, hr⟩ := h
    exact .tup hs (RVs.dp (n := n) (by simpa [D.okN] using o) hr)
  | n + 1, .lst xs, _, o, h => by
    obtain ⟨a, vs, rfl, hs, hr⟩ := h
    exact .lst hs (RVs.dp (n := n) (by simpa [D.okN] using o) hr)
  | 0, .tup _, _, o, _ => by simp [D.okN] at o
  | 0, .lst _, _, o, _ => by simp [D.okN] at o
  | _, .rng _ _, _, o, _ => by simp [D.okN] at o
  | _, .dic _ _, _, o, _ => by simp [D.okN] at o
  | _, .set _, _, o, _ => by simp [D.okN] at o
theorem RVs.dp : ∀ {n : Nat} {ds : List D} {vs : List V}, D.okNs n ds = true → RVs K H ds vs → DpAll K H vs (D.pys ds)
  | _, [], _, _, h => by cases h; exact .nil
  | n, d :: ds, _, o, h => by
    obtain ⟨v, r, rfl, h1, h2⟩ := h
    simp only [D.okNs, Bool.and_eq_true] at o
    exact .cons (RV.dp o.1 h1) (RVs.dp o.2 h2)
end
mutual
theorem D.okN_lay : ∀ {n : Nat} {d : D}, D.okN n d = true → d.py.canLay0 = true ∧ d.py.depth ≤ n
  | _, .non, _ => by simp [D.py, PyData.canLay0, PyData.depth]
  | _, .bl b, _ => by simp [D.py, PyData.canLay0, PyData.depth]
  | _, .int i, _ => by simp [D.py, PyData.canLay0, PyData.depth]
  | n, .str s, o => by
    have o' : PyData.strOk s = true := by cases n <;> simpa [D.okN] using o
    simp [D.py, PyData.canLay0, PyData.depth, o']
  | n + 1, .tup xs, o => by
    have := D.okNs_lay (n := n) (ds := xs) (by simpa [D.okN] using o)
    simp only [D.py, PyData.canLay0, PyData.depth]
    exact ⟨this.1, by omega⟩
  | n + 1, .lst xs, o => by
    have := D.okNs_lay (n := n) (ds := xs) (by simpa [D.okN] using o)
    simp only [D.py, PyData.canLay0, PyData.depth]
    exact ⟨this.1, by omega⟩
  | 0, .tup _, o => by simp [D.okN] at o
  | 0, .lst _, o => by simp [D.okN] at o
  | _, .rng _ _, o => by simp [D.okN] at o
  | _, .dic _ _, o => by simp [D.okN] at o
  | _, .set _, o => by simp [D.okN] at o
theorem D.okNs_lay : ∀ {n : Nat} {ds : List D}, D.okNs n ds = true → PyData.canLayAll0 (D.pys ds) = true ∧ PyData.depthAll (D.pys ds) ≤ n
  | _, [], _ => by simp [D.pys, PyData.canLayAll0, PyData.depthAll]
  | n, d :: ds, o => by
    simp only [D.okNs, Bool.and_eq_true] at o
    have h1 := D.okN_lay o.1
    have h2 := D.okNs_lay o.2
    simp only [D.pys, PyData.canLayAll0, PyData.depthAll, h1.1, h2.1]
    exact ⟨rfl, by omega⟩
end
theorem D.ok_shaped {n : Nat} {d : D} (hn : n ≤ 64) (h : D.okN n d = true) : SeqAt.shaped d.py = true := by
  have := D.okN_lay h
  unfold SeqAt.shaped
  rw [this.1, Bool.true_and]
  exact decide_eq_true (by omega)
mutual
theorem D.eqv_py : ∀ {n m : Nat} {a b : D}, D.okN n a = true → D.okN m b = true → PyData.eqv a.py b.py = D.eqv a b
  | n, m, .non, b, _, h => by cases b <;> simp [D.py, PyData.eqv, D.eqv] <;> simp [D.okN] at h
  | n, m, .bl x, b, _, h => by cases b <;> simp [D.py, PyData.eqv, D.eqv] <;> simp [D.okN] at h
  | n, m, .int x, b, _, h => by cases b <;> simp [D.py, PyData.eqv, D.eqv] <;> simp [D.okN] at h
  | n, m, .str x, b, _, h => by cases b <;> simp [D.py, PyData.eqv, D.eqv] <;> simp [D.okN] at h
  | n + 1, m, .tup xs, b, g, h => by
    cases b with
    | tup ys =>
      cases m with
      | zero => simp [D.okN] at h
      | succ m =>
        simp only [D.py, PyData.eqv, D.eqv]
        exact D.eqvs_py (n := n) (m := m) (by simpa [D.okN] using g) (by simpa [D.okN] using h)
    | _ => first | (simp [D.py, PyData.eqv, D.eqv]; done) | (simp [D.okN] at h)
  | n + 1, m, .lst xs, b, g, h => by
    cases b with
    | lst ys =>
      cases m with
      | zero => simp [D.okN] at h
      | succ m =>
        simp only [D.py, PyData.eqv, D.eqv]
        exact D.eqvs_py (n := n) (m := m) (by simpa [D.okN] using g) (by simpa [D.okN] using h)
    | _ => first | (simp [D.py, PyData.eqv, D.eqv]; done) | (simp [D.okN] at h)
  | 0, _, .tup _, _, o, _ => by simp [D.okN] at o
  | 0, _, .lst _, _, o, _ => by simp [D.okN] at o
  | _, _, .rng _ _, _, o, _ => by simp [D.okN] at o
  | _, _, .dic _ _, _, o, _ => by simp [D.okN] at o
  | _, _, .set _, _, o, _ => by simp [D.okN] at o
theorem D.eqvs_py : ∀ {n m : Nat} {a b : List D}, D.okNs n a = true → D.okNs m b = true → PyData.eqvAll (D.pys a) (D.pys b) = D.eqvs a b
  | _, _, [], [], _, _ => by simp [D.pys, PyData.eqvAll, D.eqvs]
  | _, _, [], _ :: _, _, _ => by simp [D.pys, PyData.eqvAll, D.eqvs]
  | _, _, _ :: _, [], _, _ => by simp [D.pys, PyData.eqvAll, D.eqvs]
  | n, m, x :: xs, y :: ys, g, h => by
    simp only [D.okNs, Bool.and_eq_true] at g h
    simp only [D.pys, PyData.eqvAll, D.eqvs]
    rw [D.eqv_py g.1 h.1, D.eqvs_py g.2 h.2]
end
theorem D.pys_map : ∀ (ds : List D), D.pys ds = ds.map D.py
  | [] => rfl
  | d :: ds => by simp [D.pys, D.pys_map ds]
theorem D.any_py {n m : Nat} {x : D} (g : D.okN n x = true) : ∀ {ys : List D}, D.okNs m ys = true → ((D.pys ys).any fun z => PyData.eqv z x.py) = ys.any fun y => D.eqv y x
  | [], _ => rfl
  | y :: ys, h => by
    simp only [D.okNs, Bool.and_eq_true] at h
    simp only [D.pys, List.any_cons, D.any_py g h.2, D.eqv_py h.1 g]
theorem ints?_map : ∀ {xs : List D} {ns : List Int}, ints? xs = some ns → xs = ns.map .int
  | [], _, h => by cases h; rfl
  | .int i :: r, ns, h => by
    simp only [ints?, Option.map_eq_some_iff] at h
    obtain ⟨ms, h1, rfl⟩ := h
    rw [ints?_map h1]; rfl
  | .non :: _, _, h => by simp [ints?] at h
  | .bl _ :: _, _, h => by simp [ints?] at h
  | .str _ :: _, _, h => by simp [ints?] at h
  | .tup _ :: _, _, h => by simp [ints?] at h
  | .lst _ :: _, _, h => by simp [ints?] at h
  | .rng _ _ :: _, _, h => by simp [ints?] at h
  | .dic _ _ :: _, _, h => by simp [ints?] at h
  | .set _ :: _, _, h => by simp [ints?] at h
theorem ints?_of : ∀ (ns : List Int), ints? (ns.map D.int) = some ns
  | [] => rfl
  | n :: ns => by simp [ints?, ints?_of ns]
theorem bls?_map : ∀ {xs : List D} {ns : List Bool}, bls? xs = some ns → xs = ns.map .bl
  | [], _, h => by cases h; rfl
  | .bl i :: r, ns, h => by
    simp only [bls?, Option.map_eq_some_iff] at h
    obtain ⟨ms, h1, rfl⟩ := h
    rw [bls?_map h1]; rfl
  | .non :: _, _, h => by simp [bls?] at h
  | .int _ :: _, _, h => by simp [bls?] at h
  | .str _ :: _, _, h => by simp [bls?] at h
  | .tup _ :: _, _, h => by simp [bls?] at h
  | .lst _ :: _, _, h => by simp [bls?] at h
  | .rng _ _ :: _, _, h => by simp [bls?] at h
  | .dic _ _ :: _, _, h => by simp [bls?] at h
  | .set _ :: _, _, h => by simp [bls?] at h
theorem bls?_of : ∀ (ns : List Bool), bls? (ns.map D.bl) = some ns
  | [] => rfl
  | n :: ns => by simp [bls?, bls?_of ns]
theorem RDs.ints : ∀ {ns : List Int} {vs : List V}, RDs K H (ns.map .int) vs → vs = ns.map V.int
  | [], _, h => by cases h; rfl
  | n :: ns, _, h => by
    obtain ⟨v, r, rfl, h1, h2⟩ := h
    cases h1
    rw [RDs.ints h2]; rfl
theorem RDs.ofInts : ∀ (ns : List Int), RDs K H (ns.map .int) (ns.map V.int)
  | [] => rfl
  | n :: ns => ⟨_, _, rfl, rfl, RDs.ofInts ns⟩
theorem RDs.bls : ∀ {ns : List Bool} {vs : List V}, RDs K H (ns.map .bl) vs → vs = ns.map V.bl
  | [], _, h => by cases h; rfl
  | n :: ns, _, h => by
    obtain ⟨v, r, rfl, h1, h2⟩ := h
    cases h1
    rw [RDs.bls h2]; rfl
theorem RVs.ints : ∀ {ns : List Int} {vs : List V}, RVs K H (ns.map .int) vs → vs = ns.map V.int
  | [], _, h => by cases h; rfl
  | n :: ns, _, h => by
    obtain ⟨v, r, rfl, h1, h2⟩ := h
    cases h1
    rw [RVs.ints h2]; rfl
theorem RVs.ofInts : ∀ (ns : List Int), RVs K H (ns.map .int) (ns.map V.int)
  | [] => rfl
  | n :: ns => ⟨_, _, rfl, rfl, RVs.ofInts ns⟩
theorem RVs.bls : ∀ {ns : List Bool} {vs : List V}, RVs K H (ns.map .bl) vs → vs = ns.map V.bl
  | [], _, h => by cases h; rfl
  | n :: ns, _, h => by
    obtain ⟨v, r, rfl, h1, h2⟩ := h
    cases h1
    rw [RVs.bls h2]; rfl
end
section
variable {X : L2.Cx}
def rInT (K : Fg) : R2 := fun x y H Q => ∃ d ds, Dp K H x d ∧ Dp K H y (.tuple ds) ∧ SeqAt.shaped d = true ∧ SeqAt.shaped (.tuple ds) = true ∧ Q (.bl (ds.any fun z => PyData.eqv z d)) H
def rNotInT (K : Fg) : R2 := fun x y H Q => ∃ d ds, Dp K H x d ∧ Dp K H y (.tuple ds) ∧ SeqAt.shaped d = true ∧ SeqAt.shaped (.tuple ds) = true ∧ Q (.bl (!ds.any fun z => PyData.eqv z d)) H
theorem op_inT (hu : X.A.units + 65 < cLine) : OpR X (compareOp .In) (rInT X.K) := by
  intro pins s σ H x y v u Q I rx ry h
  obtain ⟨d, ds, hd, he, sd, se, q⟩ := h
  obtain ⟨as, r1⟩ := Dp.reads I d x v hd rx
  obtain ⟨bs, r2⟩ := Dp.reads I (.tuple ds) y u he ry
  exact SeqAt.in_tuple_reads r2 r1 (SeqAt.canLay_of_shaped se) (SeqAt.canLay_of_shaped sd) (room_in_shaped sd hu) ⟨.bl _, H, I, rfl, q⟩
theorem op_notInT (hu : X.A.units + 65 < cLine) : OpR X (compareOp .NotIn) (rNotInT X.K) := by
  intro pins s σ H x y v u Q I rx ry h
  obtain ⟨d, ds, hd, he, sd, se, q⟩ := h
  obtain ⟨as, r1⟩ := Dp.reads I d x v hd rx
  obtain ⟨bs, r2⟩ := Dp.reads I (.tuple ds) y u he ry
  exact SeqAt.notIn_tuple_reads r2 r1 (SeqAt.canLay_of_shaped se) (SeqAt.canLay_of_shaped sd) (room_in_shaped sd hu) ⟨.bl _, H, I, rfl, q⟩
/-- a comparison of data -/
def rDc (K : Fg) (o : OC) : R2 := fun x y H Q => ∃ a b r, RV K H a x ∧ RV K H b y ∧ dc o a b = some r ∧ Q (.bl r) H
theorem dIn_cases {x y : D} {r : Bool} (h : dIn x y = some r) : (∃ i j, x = .str i ∧ y = .str j ∧ r = strIn i j) ∨
    (∃ ys, (y = .tup ys ∨ y = .lst ys) ∧ x.ok = true ∧ D.okNs 59 ys = true ∧ r = ys.any fun y => D.eqv y x) := by
  unfold dIn at h
  split at h
  · cases h; exact .inl ⟨_, _, rfl, rfl, rfl⟩
  · split at h <;> cases h
    rename_i ys hz
    simp only [Bool.and_eq_true] at hz
    exact .inr ⟨ys, .inl rfl, hz.1, hz.2, rfl⟩
  · split at h <;> cases h
    rename_i ys hz
    simp only [Bool.and_eq_true] at hz
    exact .inr ⟨ys, .inr rfl, hz.1, hz.2, rfl⟩
  · cases h
theorem okN_tup {n : Nat} {xs : List D} (h : D.okNs n xs = true) : D.okN (n + 1) (.tup xs) = true := by simpa [D.okN] using h
theorem okN_lst {n : Nat} {xs : List D} (h : D.okNs n xs = true) : D.okN (n + 1) (.lst xs) = true := by simpa [D.okN] using h
theorem op_dc (hu : X.A.units + 65 < cLine) (o : OC) : OpR X (compareOp o.op) (rDc X.K o) := by
  refine OpR.cases fun x y H Q h => ?_
  obtain ⟨a, b, t, ha, hb, he, hq⟩ := h
  unfold dc at he
  split at he
  · split at he <;> cases he
    rename_i hz
    simp only [Bool.and_eq_true] at hz
    exact ⟨_, op_eqD (by omega), _, _, ha.dp hz.1, hb.dp hz.2, D.ok_shaped (by decide) hz.1, D.ok_shaped (by decide) hz.2, by rw [D.eqv_py hz.1 hz.2]; exact hq⟩
  · split at he <;> cases he
    rename_i hz
    simp only [Bool.and_eq_true] at hz
    exact ⟨_, op_neD (by omega), _, _, ha.dp hz.1, hb.dp hz.2, D.ok_shaped (by decide) hz.1, D.ok_shaped (by decide) hz.2, by rw [D.eqv_py hz.1 hz.2]; exact hq⟩
  · unfold dLt at he
    split at he
    · cases he; cases ha; cases hb
      exact ⟨_, op_lt, _, _, rfl, rfl, hq⟩
    · split at he
      · cases he
        rename_i h1 h2
        have e1 := ints?_map h1
        have e2 := ints?_map h2
        subst e1 e2
        obtain ⟨p, vs, rfl, hs, hr⟩ := ha
        obtain ⟨p', vs', rfl, hs', hr'⟩ := hb
        cases hr.ints; cases hr'.ints
        exact ⟨_, op_ltT (by omega), _, _, _, _, rfl, rfl, hs, hs', hq⟩
      · cases he
    · cases he
  · cases he; cases ha; cases hb
    exact ⟨_, op_gt, _, _, rfl, rfl, hq⟩
  · cases he; cases ha; cases hb
    exact ⟨_, op_le, _, _, rfl, rfl, hq⟩
  · cases he; cases ha; cases hb
    exact ⟨_, op_ge, _, _, rfl, rfl, hq⟩
  · cases hb
    refine ⟨_, op_isN, rfl, ?_⟩
    split at he
    · cases he; cases ha; exact hq
    · cases he
      have : decide (x = V.non) = false := by
        refine decide_eq_false fun e => ?_
        subst e
        rename_i hn
        exact hn ha.non_of
      rw [this]; exact hq
  · cases hb
    refine ⟨_, op_notN, rfl, ?_⟩
    split at he
    · cases he; cases ha; exact hq
    · cases he
      have : decide (x = V.non) = false := by
        refine decide_eq_false fun e => ?_
        subst e
        rename_i hn
        exact hn ha.non_of
      rw [this]; exact hq
  · cases he; cases ha; cases hb
    exact ⟨_, op_is_bl, _, _, rfl, rfl, hq⟩
  · cases he; cases ha; cases hb
    exact ⟨_, op_isnot_bl, _, _, rfl, rfl, hq⟩
  · rcases dIn_cases he with ⟨i, j, rfl, rfl, rfl⟩ | ⟨ys, hy, g, g', rfl⟩
    · cases ha; cases hb
      exact ⟨_, op_in_str, _, _, rfl, rfl, hq⟩
    · rw [← D.any_py g g'] at hq
      rcases hy with rfl | rfl
      · exact ⟨_, op_inT hu, _, _, ha.dp g, by simpa [D.py] using hb.dp (okN_tup g'), D.ok_shaped (by decide) g, by simpa [D.py] using D.ok_shaped (by decide) (okN_tup g'), hq⟩
      · exact ⟨_, op_inD hu, _, _, ha.dp g, by simpa [D.py] using hb.dp (okN_lst g'), D.ok_shaped (by decide) g, by simpa [D.py] using D.ok_shaped (by decide) (okN_lst g'), hq⟩
  · simp only [Option.map_eq_some_iff] at he
    obtain ⟨r, he, rfl⟩ := he
    rcases dIn_cases he with ⟨i, j, rfl, rfl, rfl⟩ | ⟨ys, hy, g, g', rfl⟩
    · cases ha; cases hb
      exact ⟨_, op_notin_str, _, _, rfl, rfl, hq⟩
    · rw [← D.any_py g g'] at hq
      rcases hy with rfl | rfl
      · exact ⟨_, op_notInT hu, _, _, ha.dp g, by simpa [D.py] using hb.dp (okN_tup g'), D.ok_shaped (by decide) g, by simpa [D.py] using D.ok_shaped (by decide) (okN_tup g'), hq⟩
      · exact ⟨_, op_notInD hu, _, _, ha.dp g, by simpa [D.py] using hb.dp (okN_lst g'), D.ok_shaped (by decide) g, by simpa [D.py] using D.ok_shaped (by decide) (okN_lst g'), hq⟩
  · cases he
end
end Mi
end
section
set_option maxRecDepth 100000
/-! Ms2: sorted(..) of a list of rows of ints, of any length. -/
namespace Mi
open PySem L2 PySem.Spec PyProof.Rows
def encR (b : V × List Int) : PyData := .tuple (b.2.map .int)
theorem le_rows : PySem.W.dataLe false encR = fun p q => decide (p.2 ≤ q.2) := by
  funext p q
  show (!PySem.W.dataLt (.tuple (q.2.map .int)) (.tuple (p.2.map .int))) = _
  rw [PySem.W.dataLt_tuple]
  show (!PySem.W.rowLt (q.2.map .int) (p.2.map .int)) = _
  rw [PySem.W.dataLt_ints]
  by_cases h : q.2 < p.2
  · rw [decide_eq_true h, decide_eq_false fun z => List.not_lt.mpr z h]; rfl
  · rw [decide_eq_false h, decide_eq_true (List.not_lt.mp h)]; rfl
theorem reads_ints {h : Heap} : ∀ {r : List Int} {us : List Value}, Vals (r.map V.int) us → ReadsAll h us (r.map .int) []
  | [], _, .nil => .nil
  | i :: r, _, .cons hi t => by
    obtain ⟨tk, rfl⟩ := hi
    exact .cons (.int i tk) (reads_ints t)
theorem RVs.rows {K : Fg} {H : Hp} : ∀ {rs : List (List Int)} {us : List V}, RVs K H (rs.map rowT) us → RDs K H (rs.map rowT) us
  | [], _, h => h
  | r :: rs, _, h => by
    obtain ⟨v, q, rfl, h1, h2⟩ := h
    obtain ⟨a, vs, rfl, hs, hv⟩ := h1
    refine ⟨_, q, rfl, ⟨a, vs, rfl, hs, ?_⟩, RVs.rows h2⟩
    cases hv.ints
    exact RDs.ofInts r
theorem rows?_map : ∀ {xs : List D} {rs : List (List Int)}, rows? xs = some rs → xs = rs.map rowT ∧ ∀ r ∈ rs, r ≠ []
  | [], _, h => by cases h; exact ⟨rfl, fun _ h => nomatch h⟩
  | .tup (x :: r) :: q, rs, h => by
    unfold rows? at h
    split at h
    · rename_i ns rs' h1 h2
      cases h
      obtain ⟨e1, e2⟩ := rows?_map h2
      have e3 := ints?_map h1
      refine ⟨by rw [List.map_cons, ← e1]; unfold rowT; rw [← e3], ?_⟩
      intro z hz
      rcases List.mem_cons.mp hz with rfl | hz
      · intro e
        rw [e] at e3
        cases e3
      · exact e2 z hz
    · cases h
  | .tup [] :: _, _, h => by cases h
  | .non :: _, _, h => by cases h
  | .bl _ :: _, _, h => by cases h
  | .int _ :: _, _, h => by cases h
  | .str _ :: _, _, h => by cases h
  | .lst _ :: _, _, h => by cases h
  | .rng _ _ :: _, _, h => by cases h
  | .dic _ _ :: _, _, h => by cases h
  | .set _ :: _, _, h => by cases h
section
variable {X : L2.Cx} {pins : List (Addr × Obj)} {σ : L2.St} {H : Hp} {s : Shared}
theorem reads_row (I : Inv X pins σ H s) {u : V} {v : Value} {r : List Int} (rel : RelV u v) (rd : RD X.K H (rowT r) u) : ∃ as, Reads s.heap v (.tuple (r.map .int)) as := by
  obtain ⟨p, ws, rfl, hs, hr⟩ := rd
  cases rel
  cases hr.ints
  obtain ⟨its, rv, ⟨o, ho, hc, n, hd⟩, _⟩ := I.tuple hs
  exact ⟨[], .tuple ho hc hd (by simpa using reads_ints rv)⟩
theorem each_rows : ∀ {us : List V} {rs : List (List Int)} {its : List Value}, Vals us its → RDs X.K H (rs.map rowT) us → PySem.W.EachIs (fun v (b : V × List Int) => RelV b.1 v ∧ RD X.K H (rowT b.2) b.1) its (us.zip rs)
  | _, [], _, hv, h => by
    have : _ = [] := h
    subst this
    cases hv
    exact .nil
  | _, r :: rs, _, hv, h => by
    obtain ⟨v, vs, rfl, h1, h2⟩ := h
    cases hv with
    | cons a b => exact .cons ⟨a, h1⟩ (each_rows b h2)
theorem each_vals : ∀ {out : List Value} {bs : List (V × List Int)}, PySem.W.EachIs (fun v (b : V × List Int) => RelV b.1 v) out bs → Vals (bs.map (·.1)) out
  | _, [], .nil => .nil
  | _, b :: bs, .cons h t => .cons h (each_vals t)
theorem rds_of {K : Fg} : ∀ {bs : List (V × List Int)}, (∀ b ∈ bs, RD K H (rowT b.2) b.1) → RDs K H (bs.map fun b => rowT b.2) (bs.map (·.1))
  | [], _ => rfl
  | b :: bs, h => ⟨b.1, bs.map (·.1), rfl, h b (by simp), rds_of fun c hc => h c (by simp [hc])⟩
theorem zip_rd {K : Fg} : ∀ {us : List V} {rs : List (List Int)}, RDs K H (rs.map rowT) us → ∀ b ∈ us.zip rs, RD K H (rowT b.2) b.1
  | _, [], h, b, hb => by simp at hb
  | _, r :: rs, h, b, hb => by
    obtain ⟨v, vs, rfl, h1, h2⟩ := h
    rw [List.zip_cons_cons] at hb
    rcases List.mem_cons.mp hb with rfl | hb
    · exact h1
    · exact zip_rd h2 b hb
def rSortR (K : Fg) : List V → Hp → VK → Prop := fun vs H Q => ∃ (a : Addr) (rs : List (List Int)) (us : List V), vs = [V.ref a] ∧ SqL K H a us ∧ RDs K H (rs.map rowT) us ∧ (∀ r ∈ rs, r ≠ []) ∧
  ∀ p us', H p = none → RDs K H ((rs.mergeSort fun a b => decide (a ≤ b)).map rowT) us' → Q (.ref p) (upd H p (.lst us'))
theorem cr_sortR (hu : X.A.units + 65 < cLine) : CallR X (.builtin "sorted") (rSortR X.K) := by
  intro pins s σ H vs us0 Q I r h
  obtain ⟨a, rs, us, rfl, hs, hr, hne, q⟩ := h
  obtain ⟨its, rv, hl, hz⟩ := I.list hs
  rw [Vals.ref1 r]
  have hlen : us.length = rs.length := by rw [hr.length, List.length_map]
  have e0 := each_rows rv hr
  have e1 := e0.mono (R' := fun v (b : V × List Int) => RelV b.1 v) fun _ _ z => z.1
  have e2 := e0.mono (R' := fun v (b : V × List Int) => ∃ as, Reads s.heap v (encR b) as) fun _ _ z => reads_row I z.1 z.2
  have hsnd : (us.zip rs).map (·.2) = rs := by rw [List.map_snd_zip]; omega
  refine PySem.W.sorted_data hl.isList e1 e2 (PySem.W.AllAlike.of fun b b' => ?_) (.inl fun d hd => ?_) ?_ (fun b hb => ?_) fun out h1 h2 => ?_
  · show PySem.W.alikeAll (b.2.map .int) (b'.2.map .int) = true
    exact PySem.W.alike_ints _ _
  · obtain ⟨b, hb, rfl⟩ := List.mem_map.mp hd
    have hm : b.2 ∈ rs := by rw [← hsnd]; exact List.mem_map.mpr ⟨b, hb, rfl⟩
    cases c : b.2 with
    | nil => exact absurd c (hne _ hm)
    | cons x y => exact ⟨.int x, y.map .int, by unfold encR; rw [c]; rfl⟩
  · rw [List.length_zip, hlen, Nat.min_self, ← hlen]; exact hz
  · have : (encR b).depth ≤ 1 := by
      unfold encR
      rw [PyData.depth, PySem.W.depth_ints]
      omega
    omega
  · rw [le_rows] at h2
    have hp : ((us.zip rs).mergeSort fun p q => decide (p.2 ≤ q.2)).Perm (us.zip rs) := List.mergeSort_perm _ _
    have hrs : ((us.zip rs).mergeSort fun p q => decide (p.2 ≤ q.2)).map (·.2) = rs.mergeSort fun a b => decide (a ≤ b) := by
      rw [List.map_mergeSort (s := fun (a b : List Int) => decide (a ≤ b)) (fun _ _ _ _ => rfl), hsnd]
    have hrd := rds_of (bs := (us.zip rs).mergeSort fun p q => decide (p.2 ≤ q.2)) fun b hb => zip_rd hr b (hp.mem_iff.mp hb)
    have hm : ((us.zip rs).mergeSort fun p q => decide (p.2 ≤ q.2)).map (fun b => rowT b.2) = (rs.mergeSort fun a b => decide (a ≤ b)).map rowT := by
      rw [← hrs, List.map_map]; rfl
    rw [hm] at hrd
    obtain ⟨ep, he'⟩ := PyProof.Rows.sortedAll_at s.heap its out.toArray
    have hv := each_vals h2
    have hll : (((us.zip rs).mergeSort fun p q => decide (p.2 ≤ q.2)).map (·.1)).length ≤ sizeLine := by
      rw [List.length_map, hp.length_eq, List.length_zip, hlen, Nat.min_self, ← hlen]; exact hz
    exact ⟨.ref _, upd H (s.heap.objs.size + 1) (.lst _), I.laid (t' := s.toks) (fun _ _ => PyProof.Rows.sortedAll_old) (Nat.le_succ _) ⟨hll, out, ep, hv, he'⟩, rfl, q _ _ (I.hok.fresh (Nat.le_succ _)) hrd⟩
end
end Mi
end
section
set_option maxRecDepth 100000
/-! Mi6: items, slices, built-ins. -/
namespace Mi
open PySem L2 PySem.Spec PyProof.Rows
section
variable {K : Fg} {H : Hp} {Q : VK}
theorem RDs.atI {xs : List D} {us : List V} {i : Int} {d : D} (h : RDs K H xs us) (e : atI xs i = some d) : ∃ v, atI us i = some v ∧ RD K H d v := by
  unfold L2.atI at e ⊢
  rw [h.length]
  cases q : ixN xs.length i with
  | none => rw [q] at e; cases e
  | some j =>
    rw [q] at e
    obtain ⟨v, h1, h2⟩ := h.get (i := j) e
    exact ⟨v, h1, h2⟩
theorem RDs.cut {xs : List D} {us : List V} (h : RDs K H xs us) (lo hi : Option Int) : RDs K H (cut xs lo hi) (cutV us lo hi) := by
  unfold Mi.cut cutV
  rw [h.length]
  exact (h.drop _).take _
theorem cut_whole {α : Type} {xs : List α} {lo hi : Option Int} (h : HT.sIx xs.length 0 lo = 0 ∧ HT.sIx xs.length xs.length hi = xs.length) : cut xs lo hi = xs := by
  unfold cut
  rw [h.1, h.2]
  simp
end
section
variable {X : L2.Cx}
theorem IxR.cases {r' : R2} (h : ∀ x y H Q, r' x y H Q → ∃ r, IxR X r ∧ r x y H Q) : IxR X r' := fun value slice pins s σ H x y v u Q I rx ry q => by
  obtain ⟨r, h1, h2⟩ := h _ _ _ _ q
  exact h1 value slice pins s σ H x y v u Q I rx ry h2
def rDix (K : Fg) : R2 := fun x y H Q => ∃ a b d, RD K H a x ∧ RD K H b y ∧ dIx a b = some d ∧ ∀ v, RD K H d v → Q v H
theorem ix_d : IxR X (rDix X.K) := by
  refine IxR.cases fun x y H Q h => ?_
  obtain ⟨a, b, d, ha, hb, he, hq⟩ := h
  unfold dIx at he
  split at he
  · obtain ⟨p, vs, rfl, hs, hr⟩ := ha
    cases hb
    obtain ⟨v, h1, h2⟩ := hr.atI he
    exact ⟨_, ix_tup, p, vs, _, v, rfl, rfl, hs, h1, hq v h2⟩
  · obtain ⟨p, vs, rfl, hs, hr⟩ := ha
    cases hb
    obtain ⟨v, h1, h2⟩ := hr.atI he
    exact ⟨_, ix_list, p, vs, _, v, rfl, rfl, hs.sq, h1, hq v h2⟩
  · split at he
    · rename_i hz
      cases ha; cases hb
      simp only [Option.map_eq_some_iff] at he
      obtain ⟨c, hc, rfl⟩ := he
      exact ⟨_, ix_str, _, _, c, rfl, rfl, by rw [sizeLine_eq]; exact hz, hc, hq _ rfl⟩
    · cases he
  · cases he
theorem SlR.cases {r' : V → Option Int → Option Int → Hp → VK → Prop} (h : ∀ x lo hi H Q, r' x lo hi H Q → ∃ r, SlR X r ∧ r x lo hi H Q) : SlR X r' := fun pins s σ H x v vl vu lo hi sl Q I rx hs pl pu q => by
  obtain ⟨r, h1, h2⟩ := h _ _ _ _ _ q
  exact h1 pins s σ H x v vl vu lo hi sl Q I rx hs pl pu h2
def rDsl (K : Fg) : V → Option Int → Option Int → Hp → VK → Prop := fun x lo hi H Q => ∃ a t, RD K H a x ∧ dSl a lo hi = some t ∧ RRes K t H Q
theorem sl_d : SlR X (rDsl X.K) := by
  refine SlR.cases fun x lo hi H Q h => ?_
  obtain ⟨a, t, ha, he, hq⟩ := h
  unfold dSl at he
  split at he
  · cases he
    obtain ⟨p, vs, rfl, hs, hr⟩ := ha
    refine ⟨_, sl_tupA, p, vs, rfl, hs, fun hw => hq.at ?_, fun _ p hp => hq.newT (hr.cut lo hi) hp⟩
    rw [hr.length] at hw
    rw [cut_whole hw]
    exact ⟨p, vs, rfl, hs, hr⟩
  · cases he
    obtain ⟨p, vs, rfl, hs, hr⟩ := ha
    exact ⟨_, sl_list, p, vs, rfl, hs.sq, fun p hp => hq.newL (hr.cut lo hi) hp⟩
  · split at he <;> cases he
    rename_i hz
    cases ha
    exact ⟨_, sl_str, _, rfl, by rw [sizeLine_eq]; exact hz, hq.at rfl⟩
  · cases he

/-! x[::-1] -/
section
variable {prog : Program} {w : World} {A : Around} {E : Value → Shared → Prop} {s : Shared}
theorem adjust_rev (n : Nat) : Builtin.Slice.sliceAdjust none none (-1) (n : Int) = ((n : Int) - 1, -1) := by
  unfold Builtin.Slice.sliceAdjust
  have h1 : ((-1 : Int) < 0) := by omega
  simp only [h1, if_true]
theorem places_rev (n : Nat) : Builtin.Slice.slicePlaces ((n : Int) - 1) (-1) (-1) = n := by
  unfold Builtin.Slice.slicePlaces
  have h1 : ¬ ((-1 : Int) > 0) := by omega
  simp only [h1, if_false]
  have e : ((n : Int) - 1 - -1 - 1) / - -1 = (n : Int) - 1 := by rw [show (- -1 : Int) = 1 from rfl, Int.ediv_one]; omega
  split <;> omega
theorem sliceApplied_rev {sl : Addr} {t : Tok} {n : Nat} {Q : Int × Int × Nat → Shared → Prop} (hs : s.heap.IsSliceOf sl .none .none (.int (-1) t))
    (h : Q ((n : Int) - 1, -1, n) s) : wpAny (model prog w) A (Builtin.Slice.sliceApplied (.ref sl) (pure (n : Int))) Q E s := by
  obtain ⟨os, hos, hcs, hds⟩ := id hs
  unfold Builtin.Slice.sliceApplied Builtin.Slice.sliceFields
  refine wpAny_bind (wpAny_bind (wpAny_field hos hds (x := .none) rfl (wpAny_bind (wpAny_field hos hds (x := .none) rfl (wpAny_bind (wpAny_field hos hds (x := .int (-1) t) rfl (wpAny_pure ?_)))))))
  refine wpAny_bind (slicePart_int ?_)
  show wpAny _ _ (if ((-1 : Int) == 0) = true then _ else _) _ _ s
  rw [if_neg (by decide)]
  refine wpAny_bind (slicePart_none (wpAny_bind (slicePart_none (wpAny_bind (wpAny_pure ?_)))))
  show wpAny _ _ (match Builtin.Slice.sliceAdjust none none (-1) (n : Int) with | (lo, hi) => pure (lo, (-1 : Int), Builtin.Slice.slicePlaces lo hi (-1))) _ _ s
  rw [adjust_rev n]
  show wpAny _ _ (pure (((n : Int) - 1), (-1 : Int), Builtin.Slice.slicePlaces ((n : Int) - 1) (-1) (-1))) _ _ s
  rw [places_rev]
  exact wpAny_pure h
theorem pick_rev (l : List Value) : ((List.range l.length).filterMap fun (m : Nat) => l.toArray[(((l.length : Int) - 1) + (m : Int) * (-1)).toNat]?).toArray = l.reverse.toArray := by
  congr 1
  have e : ∀ m ∈ List.range l.length, l.toArray[(((l.length : Int) - 1) + (m : Int) * (-1)).toNat]? = l.reverse[m]? := by
    intro m hm
    have hm' := List.mem_range.mp hm
    rw [List.getElem?_reverse hm']
    have : (((l.length : Int) - 1) + (m : Int) * (-1)).toNat = l.length - 1 - m := by omega
    rw [this]
    simp
  have fc : ∀ (r : List Nat) (f g : Nat → Option Value), (∀ m ∈ r, f m = g m) → r.filterMap f = r.filterMap g := by
    intro r f g h
    induction r with
    | nil => rfl
    | cons a r ih => rw [List.filterMap_cons, List.filterMap_cons, h a (by simp), ih fun m hm => h m (by simp [hm])]
  rw [fc _ _ _ e]
  have g : ∀ (r : List Value), (List.range r.length).filterMap (fun m => r[m]?) = r := by
    intro r
    induction r with
    | nil => rfl
    | cons a r ih =>
      rw [List.length_cons, List.range_succ_eq_map, List.filterMap_cons]
      simp only [List.getElem?_cons_zero, List.filterMap_map, Function.comp_def, List.getElem?_cons_succ]
      rw [ih]
  have := g l.reverse
  rw [List.length_reverse] at this
  exact this
theorem getItem_tuple_rev {t sl : Addr} {l : List Value} {tk : Tok} {Q : Value → Shared → Prop} (ht : IsTup s.heap t l.toArray) (hs : s.heap.IsSliceOf sl .none .none (.int (-1) tk))
    (h : Q (.ref s.heap.objs.size) { s with heap := s.heap.push { cls := .type "tuple", data := .seq l.reverse.toArray } })
    (hsz : l.length ≤ sizeLine) : wpAny (model prog w) A (getItem (.ref t) (.ref sl)) Q E s := by
  have htake : sizeOk (.seq l.reverse.toArray) := by
    show l.reverse.toArray.size ≤ sizeLine
    rw [List.size_toArray, List.length_reverse]; exact hsz
  obtain ⟨os, hos, hcs, hds⟩ := id hs
  have hTs : s.TypeIs (.ref sl) "slice" := ⟨os, hos, hcs⟩
  unfold getItem
  try with_reducible refine wpAny_holding ?_
  first | refine wpAny_bind (wpAny_pure ?_) | skip
  refine wpAny_bind (wpAny_sequenceKey ht.typeIs (by decide) ?_)
  refine wpAny_bind (wpAny_callSpecial?_slot (name := Str.ofString "__getitem__") ht.typeIs PyProof.Rows.slot_tuple_getitem
    (wpAny_call_entry PyProof.Rows.slot_tuple_getitem ht.typeIs entry_tuple_getitem ?_ (args_tuple_getitem _ _)))
  show wpAny _ _ (Builtin.Tuple.tupleItemsOf (.ref t) >>= _) _ _ s
  refine wpAny_bind (tupleItemsOf_ ht ?_)
  refine wpAny_bind (wpAny_typeOf hTs ?_)
  rw [if_pos (by decide)]
  rw [List.size_toArray]
  refine wpAny_bind (sliceApplied_rev hs ?_)
  have hno : ¬ ((((l.length : Int) - 1) == 0 && (-1 : Int) == 1 && l.length == l.length) = true) := by
    intro q
    rw [Bool.and_eq_true, Bool.and_eq_true] at q
    exact absurd q.1.2 (by decide)
  show wpAny _ _ (if (((l.length : Int) - 1) == 0 && (-1 : Int) == 1 && l.length == l.length) = true then _ else _) _ _ s
  rw [if_neg hno, pick_rev]
  first
    | exact wpAny_bind (m := Builtin.Tuple.tupleExact _) (wpAny_newObj_type (wpAny_pure ⟨_, rfl, wpAny_pure h⟩) htake)
    | exact wpAny_bind (m := Builtin.Tuple.tupleExact _) (wpAny_newObj_type (wpAny_bind (wpAny_pure (wpAny_pure ⟨_, rfl, wpAny_pure h⟩))) htake)
    | exact wpAny_bind (wpAny_bind (m := Builtin.Tuple.tupleExact _) (wpAny_newObj_type (wpAny_pure (wpAny_pure ⟨_, rfl, wpAny_pure h⟩)) htake))
    | exact wpAny_bind (wpAny_bind (m := Builtin.Tuple.tupleExact _) (wpAny_newObj_type (wpAny_pure ⟨_, rfl, wpAny_pure h⟩) htake))
end
def tRevD (K : Fg) (te : TE) : TE := fun σ H Q => te σ H fun x H1 => ∃ a t, RD K H1 a x ∧ dRev a = some t ∧ RRes K t H1 Q
theorem pe_revD {e : Expr} {te : TE} {p1 p2 p3 pos : Pos} (he : PE X e te) : PE X (.Subscript e (.Slice none none (some (.UnaryOp .USub (.Constant (.int 1) 0 p1) p2)) p3) pos) (tRevD X.K te) := by
  refine ⟨fun pins s σ H Q I h => ?_⟩
  refine Subscript_ (thn (he.run pins s σ H _ I h) fun v s1 ⟨x, H1, I1, r1, q1⟩ => ?_)
  obtain ⟨a, t, ha, ht, q⟩ := q1
  have hst : PO X (some (.UnaryOp .USub (.Constant (.int 1) 0 p1) p2)) (tPart (tUn (rU fun i => .int (-i)) (tC (.int 1)))) := po_some (pe_un un_neg pe_int)
  refine wpAny_Slice (thn (po_none.run pins s1 σ H1 (fun o H2 => o = none ∧ H2 = H1) I1 ⟨rfl, rfl⟩) fun vl s2 ⟨l, H2, I2, pl, el, e2⟩ => ?_)
  subst el e2
  refine thn (po_none.run pins s2 σ H2 (fun o H3 => o = none ∧ H3 = H2) I2 ⟨rfl, rfl⟩) fun vu s3 ⟨u, H3, I3, pu, eu, e3⟩ => ?_
  subst eu e3
  refine thn (hst.run pins s3 σ H3 (fun o H4 => o = some (-1) ∧ H4 = H3) I3 ⟨1, rfl, -1, rfl, rfl, rfl⟩) fun vs s4 ⟨o, H4, I4, ps, eo, e4⟩ => ?_
  subst eo e4
  have I5 : Inv X pins σ H4 { s4 with heap := s4.heap.push { cls := .type "slice", data := .fields #[vl, vu, vs] } } := I4.kept (t' := s4.toks) fun b ob q => Heap.get?_push_of_some _ q
  cases pl; cases pu
  cases ps with
  | int _ tk =>
  unfold dRev at ht
  split at ht
  · cases ht
    obtain ⟨p, us, rfl, hs, hr⟩ := ha
    cases r1
    obtain ⟨its, r, htp, hz⟩ := I5.tuple hs
    have hlen := r.length
    show wpAny (model X.prog X.w) X.A (subscriptTail e (.Slice none none (some (.UnaryOp .USub (.Constant (.int 1) 0 p1) p2)) p3) (.ref p) (.ref s4.heap.objs.size)) (EP X pins σ Q) X.xe _
    refine tail_any (ops := [.ref p, .ref s4.heap.objs.size]) htp.typeIs (PyProof.Rows.slot_tuple_getitem.lookup) ?_ (by with_unfolding_all rfl)
    refine getItem_tuple_rev htp (Heap.IsSliceOf.new _ .none .none (.int (-1) tk)) ?_ (by omega)
    refine ⟨.ref _, _, I5.laid (t' := s4.toks) (o := .tup us.reverse) (fun b ob q => Heap.get?_push_of_some _ q) (Nat.le_refl _) ?_, rfl, q.newT hr.reverse (I5.hok.fresh (Nat.le_refl _))⟩
    exact ⟨by rw [List.length_reverse]; exact hz, _, r.reverse, IsTup.new _ _⟩
  · cases ht
    obtain ⟨p, us, rfl, hs, hr⟩ := ha
    cases r1
    obtain ⟨its, r, htp, hz⟩ := I5.list hs.sq
    have hlen := r.length
    show wpAny (model X.prog X.w) X.A (subscriptTail e (.Slice none none (some (.UnaryOp .USub (.Constant (.int 1) 0 p1) p2)) p3) (.ref p) (.ref s4.heap.objs.size)) (EP X pins σ Q) X.xe _
    refine tail_any (ops := [.ref p, .ref s4.heap.objs.size]) htp.isList.typeIs (PySem.slot_list_getitem.lookup) ?_ (by with_unfolding_all rfl)
    refine wpAny_getItem_list_slice htp.isList (Heap.IsSliceOf.new _ .none .none (.int (-1) tk)) .none .none (.int _ _) (by decide) ?_ (by rw [List.size_toArray]; omega)
    rw [PySem.W.krv_pick]
    refine ⟨.ref _, _, I5.laid (t' := s4.toks) (o := .lst us.reverse) (fun b ob q => Heap.get?_push_of_some _ q) (Nat.le_refl _) ?_, rfl, q.newL hr.reverse (I5.hok.fresh (Nat.le_refl _))⟩
    exact ⟨by rw [List.length_reverse]; exact hz, _, 0, r.reverse, Heap.get?_push_size _ rfl⟩
  · cases ht

/-! built-ins -/
theorem CallR.cases {f : Value} {r' : List V → Hp → VK → Prop} (h : ∀ xs H Q, r' xs H Q → ∃ r, CallR X f r ∧ r xs H Q) : CallR X f r' := fun pins s σ H xs us Q I rx q => by
  obtain ⟨r, h1, h2⟩ := h _ _ _ q
  exact h1 pins s σ H xs us Q I rx h2
theorem foldl_min (ns : List Int) : ∀ n, ns.foldl min n ∈ n :: ns ∧ ∀ y ∈ n :: ns, ns.foldl min n ≤ y := by
  induction ns with
  | nil => intro n; simp
  | cons m ns ih =>
    intro n
    obtain ⟨h1, h2⟩ := ih (min n m)
    rw [List.foldl_cons]
    refine ⟨?_, fun y hy => ?_⟩
    · rcases List.mem_cons.mp h1 with h | h
      · rw [h]
        by_cases hc : n ≤ m
        · rw [Int.min_eq_left hc]; simp
        · rw [Int.min_eq_right (by omega)]; simp
      · simp [h]
    · have h3 := h2 (min n m) (by simp)
      rcases List.mem_cons.mp hy with rfl | hy
      · omega
      · rcases List.mem_cons.mp hy with rfl | hy
        · omega
        · exact h2 y (by simp [hy])
theorem foldl_max (ns : List Int) : ∀ n, ns.foldl max n ∈ n :: ns ∧ ∀ y ∈ n :: ns, y ≤ ns.foldl max n := by
  induction ns with
  | nil => intro n; simp
  | cons m ns ih =>
    intro n
    obtain ⟨h1, h2⟩ := ih (max n m)
    rw [List.foldl_cons]
    refine ⟨?_, fun y hy => ?_⟩
    · rcases List.mem_cons.mp h1 with h | h
      · rw [h]
        by_cases hc : n ≤ m
        · rw [Int.max_eq_right hc]; simp
        · rw [Int.max_eq_left (by omega)]; simp
      · simp [h]
    · have h3 := h2 (max n m) (by simp)
      rcases List.mem_cons.mp hy with rfl | hy
      · omega
      · rcases List.mem_cons.mp hy with rfl | hy
        · omega
        · exact h2 y (by simp [hy])
theorem sorted_the {ns ms : List Int} (p : ms.Perm ns) (s : ms.Pairwise (· ≤ ·)) : ms = ns.mergeSort (fun a b => decide (a ≤ b)) := by
  refine List.Perm.eq_of_pairwise (le := fun a b => a ≤ b) (fun a b _ _ h1 h2 => Int.le_antisymm h1 h2) s ?_ (p.trans (List.mergeSort_perm _ _).symm)
  have := List.pairwise_mergeSort (le := fun (a b : Int) => decide (a ≤ b)) (fun a b c h1 h2 => by simp at *; omega) (fun a b => by simp; omega) ns
  exact this.imp (by simp)
theorem leafs_ints (ns : List Int) : (ns.map fun i => T.leaf (.int i)) = leafs (ns.map .int) := by simp [leafs]
def rDb (K : Fg) (f : B) : List V → Hp → VK → Prop := fun xs H Q => ∃ ds t, RVs K H ds xs ∧ db f ds = some t ∧ RRes K t H Q
theorem RVs.one {K : Fg} {H : Hp} {d : D} {xs : List V} (h : RVs K H [d] xs) : ∃ v, xs = [v] ∧ RV K H d v := by
  obtain ⟨v, r, rfl, h1, h2⟩ := h
  cases h2
  exact ⟨v, rfl, h1⟩
theorem RVs.two {K : Fg} {H : Hp} {d e : D} {xs : List V} (h : RVs K H [d, e] xs) : ∃ v u, xs = [v, u] ∧ RV K H d v ∧ RV K H e u := by
  obtain ⟨v, r, rfl, h1, h2⟩ := h
  obtain ⟨u, rfl, h3⟩ := h2.one
  exact ⟨v, u, rfl, h1, h3⟩
theorem cr_db (hc : X.calm = true) (hu : X.A.units + 65 < cLine) (f : B) : CallR X (.builtin f.id) (rDb X.K f) := by
  refine CallR.cases fun xs H Q h => ?_
  obtain ⟨ds, t, hd, he, hq⟩ := h
  unfold db at he
  split at he
  · simp only [Option.map_eq_some_iff] at he
    obtain ⟨n, hn, rfl⟩ := he
    obtain ⟨v, rfl, hv⟩ := hd.one
    refine ⟨_, call_len, v, n, rfl, ?_, hq.at rfl⟩
    unfold dLen at hn
    split at hn
    · cases hn
      obtain ⟨p, us, rfl, hs, hr⟩ := hv
      exact .inr ⟨us, hs, hr.length.symm⟩
    · cases hn
      obtain ⟨p, us, rfl, hs, hr⟩ := hv
      exact .inl ⟨us, hs, hr.length.symm⟩
    · split at hn <;> cases hn
      rename_i hz
      cases hv
      exact ⟨by rw [sizeLine_eq]; exact hz, rfl⟩
    · cases hn
  · cases he
    obtain ⟨v, rfl, hv⟩ := hd.one
    cases hv
    exact ⟨_, call_abs, _, rfl, hq.at rfl⟩
  · cases he
    obtain ⟨v, u, rfl, hv, hu⟩ := hd.two
    cases hv; cases hu
    exact ⟨_, call_min2 hc, _, _, rfl, hq.at rfl⟩
  · cases he
    obtain ⟨v, u, rfl, hv, hu⟩ := hd.two
    cases hv; cases hu
    exact ⟨_, call_max2 hc, _, _, rfl, hq.at rfl⟩
  · obtain ⟨v, rfl, p, us, rfl, hs, hr⟩ := hd.one
    split at he <;> cases he
    rename_i n ns hi
    have e := ints?_map hi
    subst e
    cases hr.ints
    refine ⟨_, cr_min hc, p, _, rfl, hs, by simp, fun m hm hle => ?_⟩
    have h := foldl_min ns n
    have : m = minL (n :: ns) := Int.le_antisymm (hle _ h.1) (h.2 m hm)
    rw [this]
    exact hq.at rfl
  · obtain ⟨v, rfl, p, us, rfl, hs, hr⟩ := hd.one
    split at he <;> cases he
    rename_i n ns hi
    have e := ints?_map hi
    subst e
    cases hr.ints
    refine ⟨_, cr_max hc, p, _, rfl, hs, by simp, fun m hm hle => ?_⟩
    have h := foldl_max ns n
    have : m = maxL (n :: ns) := Int.le_antisymm (h.2 m hm) (hle _ h.1)
    rw [this]
    exact hq.at rfl
  · obtain ⟨v, rfl, p, us, rfl, hs, hr⟩ := hd.one
    simp only [Option.map_eq_some_iff] at he
    obtain ⟨ns, hi, rfl⟩ := he
    have e := ints?_map hi
    subst e
    cases hr.ints
    exact ⟨_, cr_sum hc, p, _, rfl, hs, hq.at rfl⟩
  · obtain ⟨v, rfl, p, us, rfl, hs, hr⟩ := hd.one
    simp only [Option.map_eq_some_iff] at he
    obtain ⟨ns, hi, rfl⟩ := he
    have e := bls?_map hi
    subst e
    cases hr.bls
    exact ⟨_, cr_all hc, p, _, rfl, hs, hq.at rfl⟩
  · obtain ⟨v, rfl, p, us, rfl, hs, hr⟩ := hd.one
    simp only [Option.map_eq_some_iff] at he
    obtain ⟨ns, hi, rfl⟩ := he
    have e := bls?_map hi
    subst e
    cases hr.bls
    exact ⟨_, cr_any hc, p, _, rfl, hs, hq.at rfl⟩
  · obtain ⟨v, rfl, p, us, rfl, hs, hr⟩ := hd.one
    split at he
    case h_2 =>
      simp only [Option.map_eq_some_iff] at he
      obtain ⟨rs, hrs, rfl⟩ := he
      obtain ⟨e1, e2⟩ := rows?_map hrs
      subst e1
      exact ⟨_, cr_sortR hu, p, rs, us, rfl, hs, RVs.rows hr, e2, fun p us' hp h' => hq.newL h' hp⟩
    cases he
    rename_i ns hi
    have e := ints?_map hi
    subst e
    cases hr.ints
    refine ⟨_, cr_sortedI, p, _, rfl, hs, fun ns' q pm st hn => ?_⟩
    rw [sorted_the pm st]
    rw [leafs_ints] at hq
    exact hq.newL (RDs.ofInts _) hn
  · cases he
theorem RDs.one {K : Fg} {H : Hp} {d : D} {xs : List V} (h : RDs K H [d] xs) : ∃ v, xs = [v] ∧ RD K H d v := by
  obtain ⟨v, r, rfl, h1, h2⟩ := h
  cases h2
  exact ⟨v, rfl, h1⟩
theorem RDs.two {K : Fg} {H : Hp} {d e : D} {xs : List V} (h : RDs K H [d, e] xs) : ∃ v u, xs = [v, u] ∧ RD K H d v ∧ RD K H e u := by
  obtain ⟨v, r, rfl, h1, h2⟩ := h
  obtain ⟨u, rfl, h3⟩ := h2.one
  exact ⟨v, u, rfl, h1, h3⟩
def rDty (K : Fg) (f : Ty) : List V → Hp → VK → Prop := fun xs H Q => ∃ ds t, RDs K H ds xs ∧ dTy f ds = some t ∧ RRes K t H Q
theorem cr_dty (f : Ty) : CallR X (.type f.id) (rDty X.K f) := by
  refine CallR.cases fun xs H Q h => ?_
  obtain ⟨ds, t, hd, he, hq⟩ := h
  unfold dTy at he
  split at he
  · cases he
    obtain ⟨v, rfl, hv⟩ := hd.one
    cases hv
    exact ⟨_, call_int1, .inl ⟨_, rfl, hq.at rfl⟩⟩
  · cases he
    obtain ⟨v, rfl, hv⟩ := hd.one
    cases hv
    exact ⟨_, call_int1, .inr ⟨_, rfl, hq.at rfl⟩⟩
  · cases he
    obtain ⟨v, rfl, p, us, rfl, hs, hr⟩ := hd.one
    exact ⟨_, call_tuple_of, p, us, rfl, .inl ⟨hs.sq, fun l hl => hq.newT hr hl⟩⟩
  · cases he
    obtain ⟨v, rfl, p, us, rfl, hs, hr⟩ := hd.one
    exact ⟨_, call_tuple_of, p, us, rfl, .inr ⟨hs, hq.at ⟨p, us, rfl, hs, hr⟩⟩⟩
  · cases he
    obtain ⟨v, rfl, p, us, rfl, hs, hr⟩ := hd.one
    exact ⟨_, call_list_of, p, us, rfl, .inl hs.sq, fun l hl => hq.newL hr hl⟩
  · cases he
    obtain ⟨v, rfl, p, us, rfl, hs, hr⟩ := hd.one
    exact ⟨_, call_list_of, p, us, rfl, .inr hs, fun l hl => hq.newL hr hl⟩
  · cases he
end
end Mi
end
section
set_option maxRecDepth 100000
/-! Mi7: what an expression's meaning asks and gives, over the hand layer's judgements. -/
namespace Mi
open PySem L2 PySem.Spec PyProof.Rows

/-- what is told of a def: where it stands, its parameters, those whose trees it may change -/
structure FI where
  addr : Addr
  fd : FuncData
  ps : List Str
  io : List Nat
/-- the program around: its model, its facts -/
structure Gd where
  P : Program
  w : World
  K : Fg
  mg : Str → Option Value
  base : Heap
  ca : Nat → Addr
  fi : Nat → FI

section
variable (G : Gd) (W : WX)
/-- behind an expression: rel tells how the result lies -/
def Post {α β : Type} (tch : Nat → Bool) (σ : L2.St) (H : Hp) (fps : Fp) (rel : Hp → Fp → α → β → List Addr → Prop) (r : R α) (Q : β → Hp → Prop) : Prop :=
  match r with
  | .ok a e => ∀ b H' fps' fp, RE G.K H' e σ fps' → rel H' fps' a b fp → Stp tch H fps H' fps' fp → Q b H'
  | .exc x e => ∀ d H' fps', RE G.K H' e σ fps' → Stp tch H fps H' fps' [] → W (.ref (G.ca x.cls)) d σ H'
  | .bad => False
def tG {α β : Type} (tch : Nat → Bool) (rel : Hp → Fp → α → β → List Addr → Prop) (f : Env → R α) : L2.St → Hp → (β → Hp → Prop) → Prop := fun σ H Q => ∃ e fps, RE G.K H e σ fps ∧ Post G W tch σ H fps rel (f e) Q
/-- a tree -/
abbrev relT : Hp → Fp → T → V → List Addr → Prop := fun H fps t v fp => Res G.K H fps t v fp
/-- its data -/
abbrev relF : Hp → Fp → T → V → List Addr → Prop := fun H _ t v fp => RD G.K H t.fz v ∧ fp = []
abbrev relTs : Hp → Fp → List T → List V → List Addr → Prop := fun H fps ts vs fp => Ress G.K H fps ts vs fp
abbrev relFs : Hp → Fp → List T → List V → List Addr → Prop := fun H _ ts vs fp => RDs G.K H (T.fzs ts) vs ∧ fp = []
abbrev tE (tch : Nat → Bool) (f : Env → R T) : TE := tG G W tch (relT G) f
abbrev tF (tch : Nat → Bool) (f : Env → R T) : TE := tG G W tch (relF G) f
abbrev tEs (tch : Nat → Bool) (f : Env → R (List T)) : TA := tG G W tch (relTs G) f
abbrev tFs (tch : Nat → Bool) (f : Env → R (List T)) : TA := tG G W tch (relFs G) f
end
def orT (a b : Nat → Bool) : Nat → Bool := fun i => a i || b i
theorem _root_.L2.PE.im {X : L2.Cx} {e : Expr} {t t' : TE} (h : PE X e t) (i : ∀ σ H Q, t' σ H Q → t σ H Q) : PE X e t' := ⟨fun pins s σ H Q I q => h.run pins s σ H Q I (i _ _ _ q)⟩
theorem _root_.L2.PA.im {X : L2.Cx} {e : List Expr} {t t' : TA} (h : PA X e t) (i : ∀ σ H Q, t' σ H Q → t σ H Q) : PA X e t' := ⟨fun pos pins s σ H Q I q => h.run pos pins s σ H Q I (i _ _ _ q)⟩
theorem _root_.L2.PK.im {X : L2.Cx} {e : List Keyword} {t t' : TA} (h : PK X e t) (i : ∀ σ H Q, t' σ H Q → t σ H Q) : PK X e t' := ⟨fun pos pins s σ H Q I q => h.run pos pins s σ H Q I (i _ _ _ q)⟩
theorem _root_.L2.PT.im {X : L2.Cx} {e : Expr} {t t' : TT} (h : PT X e t) (i : ∀ σ H Q, t' σ H Q → t σ H Q) : PT X e t' := ⟨fun pins s σ H Q I q => h.run pins s σ H Q I (i _ _ _ q)⟩
theorem _root_.L2.PW.im {X : L2.Cx} {e : Expr} {t t' : TT} (h : PW X e t) (i : ∀ σ H Q, t' σ H Q → t σ H Q) : PW X e t' := ⟨fun whole pins s σ H Q I q => h.run whole pins s σ H Q I (i _ _ _ q)⟩
theorem _root_.L2.PS.im {X : L2.Cx} {e : Stmt} {t t' : TS} (h : PS X e t) (i : ∀ D σ H, t' D σ H → t D σ H) : PS X e t' := ⟨fun pins s σ H D I q => h.run pins s σ H D I (i _ _ _ q)⟩
theorem _root_.L2.PSs.im {X : L2.Cx} {e : List Stmt} {t t' : TS} (h : PSs X e t) (i : ∀ D σ H, t' D σ H → t D σ H) : PSs X e t' := ⟨fun pins s σ H D I q => h.run pins s σ H D I (i _ _ _ q)⟩
theorem _root_.L2.PI.im {X : L2.Cx} {tg e : Expr} {t t' : TI} (h : PI X tg e t) (i : ∀ σ H Q, t' σ H Q → t σ H Q) : PI X tg e t' := ⟨fun pins s σ H Q I q => h.run pins s σ H Q I (i _ _ _ q)⟩

section
variable {G : Gd} {W : WX} {α β γ δ : Type} {t1 t2 : Nat → Bool} {σ : L2.St} {H : Hp} {fps : Fp} {e : Env}
def Le (t1 t : Nat → Bool) : Prop := ∀ i, t i = false → t1 i = false
/-- the same end, from a later state -/
theorem Post.on {t : Nat → Bool} {rel : Hp → Fp → α → β → List Addr → Prop} {r : R α} {Q : β → Hp → Prop} {H1 : Hp} {fps1 : Fp} {fp1 : List Addr} (l : Le t1 t) (s : Stp t1 H fps H1 fps1 fp1) (p : Post G W t σ H fps rel r Q) : Post G W t σ H1 fps1 rel r Q := by
  have m : ∀ {H2 fps2 fp2}, Stp t H1 fps1 H2 fps2 fp2 → Stp t H fps H2 fps2 (fp1 ++ fp2) := fun s2 => (s.trans s2).mono fun i hi => by rw [l i hi, hi]; rfl
  cases r with
  | ok a e => exact fun b H' fps' fp re rl s2 => p b H' fps' fp re rl ((m s2).less fun a ha => List.mem_append_right _ ha)
  | exc x e => exact fun d H' fps' re s2 => p d H' fps' re ((m s2).less fun a ha => nomatch ha)
  | bad => exact p
/-- the first of two steps -/
theorem Post.first {t : Nat → Bool} {rel : Hp → Fp → γ → δ → List Addr → Prop} {relA : Hp → Fp → α → β → List Addr → Prop} {r : R α} {k : α → Env → R γ} {Q : δ → Hp → Prop} {Q1 : β → Hp → Prop} (l : Le t1 t) (p : Post G W t σ H fps rel (r.bind k) Q)
    (h : ∀ a e1 b H1 fps1 fp1, r = .ok a e1 → RE G.K H1 e1 σ fps1 → relA H1 fps1 a b fp1 → Stp t1 H fps H1 fps1 fp1 → Post G W t σ H1 fps1 rel (k a e1) Q → Q1 b H1) : Post G W t1 σ H fps relA r Q1 := by
  cases r with
  | ok a e => exact fun b H' fps' fp re rl s => h a e b H' fps' fp rfl re rl s (Post.on (r := k a e) l s p)
  | exc x e => exact fun d H' fps' re s => p d H' fps' re (s.mono l)
  | bad => exact p
theorem Post.mono {rel : Hp → Fp → α → β → List Addr → Prop} {r : R α} {Q : β → Hp → Prop} (p : Post G W t2 σ H fps rel r Q) (h : ∀ i, t2 i = false → t1 i = false) : Post G W t1 σ H fps rel r Q := by
  cases r with
  | ok a e => exact fun b H' fps' fp re rl s => p b H' fps' fp re rl (s.mono h)
  | exc x e => exact fun d H' fps' re s => p d H' fps' re (s.mono h)
  | bad => exact p
theorem Post.imp {rel rel' : Hp → Fp → α → β → List Addr → Prop} {r : R α} {Q Q' : β → Hp → Prop} (p : Post G W t1 σ H fps rel r Q)
    (h : ∀ a e1 b H1 fps1 fp1, r = .ok a e1 → RE G.K H1 e1 σ fps1 → rel' H1 fps1 a b fp1 → Stp t1 H fps H1 fps1 fp1 → (∀ b H' fps' fp, RE G.K H' e1 σ fps' → rel H' fps' a b fp → Stp t1 H fps H' fps' fp → Q b H') → Q' b H1) : Post G W t1 σ H fps rel' r Q' := by
  cases r with
  | ok a e => exact fun b H' fps' fp re rl s => h a e b H' fps' fp rfl re rl s p
  | exc x e => exact p
  | bad => exact p
/-- a new result that is laid without a change of the rest -/
theorem Post.res {Q : VK} {t : T} (re : RE G.K H e σ fps) (p : Post G W t1 σ H fps (relT G) (.ok t e) Q) : RRes G.K t H Q := fun v H' fp rt nd new old => by
  have fx : Fix H H' := fix_of old
  have ap : ∀ a ∈ fp, ∀ i, a ∉ fps i := fun a ha i hi => by
    obtain ⟨u, hu, _⟩ := re.own hi
    rw [new a ha] at hu; cases hu
  refine p v H' fps fp (re.stay fx fun i a ha => ?_) ⟨rt, nd, ap⟩ ⟨fun a u h _ => old a u h, fun i _ => ⟨rfl, fun a ha => ?_⟩, fun a ha => ?_⟩
  · obtain ⟨u, hu, _⟩ := re.own ha
    rw [hu]; exact old a u hu
  · obtain ⟨u, hu, _⟩ := re.own ha
    rw [hu]; exact old a u hu
  · exact ha.elim (fun z => .inr (new a z)) .inl
/-- data that stand -/
theorem Post.leaf {Q : VK} {d : D} {v : V} (re : RE G.K H e σ fps) (p : Post G W t1 σ H fps (relT G) (.ok (.leaf d) e) Q) (h : RD G.K H d v) : Q v H := (p.res re).at h
/-- a change of H alone that no program sees -/
def Ghost (X : L2.Cx) (σ : L2.St) (H1 : Hp) (Q : Hp → Prop) : Prop := ∀ pins s, Inv X pins σ H1 s → ∃ H2, Inv X pins σ H2 s ∧ Q H2
theorem _root_.L2.PE.gh {X : L2.Cx} {e : Expr} {t : TE} (h : PE X e t) : PE X e (fun σ H Q => t σ H fun v H1 => Ghost X σ H1 (Q v)) := ⟨fun pins s σ H Q I q => thn (h.run pins s σ H _ I q) fun u s1 ⟨v, H1, I1, r1, g⟩ => by
  obtain ⟨H2, I2, q2⟩ := g pins s1 I1
  exact ⟨v, H2, I2, r1, q2⟩⟩
theorem _root_.L2.PA.gh {X : L2.Cx} {e : List Expr} {t : TA} (h : PA X e t) : PA X e (fun σ H Q => t σ H fun v H1 => Ghost X σ H1 (Q v)) := ⟨fun pos pins s σ H Q I q => thn (h.run pos pins s σ H _ I q) fun u s1 ⟨v, H1, I1, r1, g⟩ => by
  obtain ⟨H2, I2, q2⟩ := g pins s1 I1
  exact ⟨v, H2, I2, r1, q2⟩⟩
end
/-! ### a tree that is data from now on -/
section
variable {X : L2.Cx} {pins : List (Addr × Obj)} {σ : L2.St} {s : Shared}
mutual
theorem RT.freeze : ∀ {t : T} {v : V} {fp : List Addr} {H : Hp}, RT X.K H t v fp → fp.Nodup → Inv X pins σ H s → ∃ H2, Inv X pins σ H2 s ∧ RD X.K H2 t.fz v ∧ ∀ a, a ∉ fp → H2 a = H a
  | .leaf d, v, fp, H, h, _, I => ⟨H, I, h.1, fun _ _ => rfl⟩
  | .lst ts, v, fp, H, h, nd, I => by
    obtain ⟨a, vs, f, rfl, ha, hr, rfl⟩ := h
    obtain ⟨nd1, nd2⟩ := List.nodup_cons.mp nd
    obtain ⟨H1, I1, r1, k1⟩ := RTs.freeze hr nd2 I
    have ha1 : H1 a = some (.lst vs) := by rw [k1 a nd1]; exact ha
    obtain ⟨od, I2⟩ := I1.lock ha1 (by trivial)
    have fx : Fix H1 (upd H1 a (.frz od (.lst vs))) := fun b u hb ho => by
      by_cases e : b = a
      · subst e; rw [ha1] at hb; cases hb; cases ho
      · rw [upd_ne e]; exact hb
    refine ⟨_, I2, ⟨a, vs, rfl, .inl ⟨od, upd_same⟩, RDs.fix fx r1⟩, fun b hb => ?_⟩
    rw [upd_ne fun e => hb (by simp [e]), k1 b fun z => hb (by simp [z])]
  | .dic _ _, _, _, _, h, _, _ => h.elim
  | .set _, _, _, _, h, _, _ => h.elim
theorem RTs.freeze : ∀ {ts : List T} {vs : List V} {fp : List Addr} {H : Hp}, RTs X.K H ts vs fp → fp.Nodup → Inv X pins σ H s → ∃ H2, Inv X pins σ H2 s ∧ RDs X.K H2 (T.fzs ts) vs ∧ ∀ a, a ∉ fp → H2 a = H a
  | [], vs, fp, H, h, _, I => ⟨H, I, h.1, fun _ _ => rfl⟩
  | t :: ts, vs, fp, H, h, nd, I => by
    obtain ⟨v, r, f, g, rfl, rfl, h1, h2⟩ := h
    obtain ⟨nd1, nd2, nd3⟩ := List.nodup_append.mp nd
    obtain ⟨H1, I1, r1, k1⟩ := RT.freeze h1 nd1 I
    have fx1 : Fix H H1 := fun b u hb ho => by
      rw [k1 b fun z => ?_]; exact hb
      obtain ⟨w, hw, hy⟩ := h1.own b z
      rw [hb] at hw; cases hw; rw [ho] at hy; cases hy
    have h2' : RTs X.K H1 ts r g := h2.stay fx1 fun b hb => k1 b fun z => nd3 b z b hb rfl
    obtain ⟨H2, I2, r2, k2⟩ := RTs.freeze h2' nd2 I1
    have fx2 : Fix H1 H2 := fun b u hb ho => by
      rw [k2 b fun z => ?_]; exact hb
      obtain ⟨w, hw, hy⟩ := h2'.own b z
      rw [hb] at hw; cases hw; rw [ho] at hy; cases hy
    refine ⟨H2, I2, ⟨v, r, rfl, RD.fix fx2 r1, r2⟩, fun b hb => ?_⟩
    rw [k2 b fun z => hb (by simp [z]), k1 b fun z => hb (by simp [z])]
end
end
section
variable {X : L2.Cx} {G : Gd} {W : WX} {tch : Nat → Bool} {σ : L2.St} {H : Hp} {fps : Fp} {e : Env}
theorem Res.freeze {t : T} {v : V} {fp : List Addr} {H1 : Hp} {fps1 : Fp} {e1 : Env} (hk : X.K = G.K) (re : RE G.K H1 e1 σ fps1) (r : Res G.K H1 fps1 t v fp) (s : Stp tch H fps H1 fps1 fp) {Q : Hp → Prop}
    (h : ∀ H2, RE G.K H2 e1 σ fps1 → RD G.K H2 t.fz v → Stp tch H fps H2 fps1 [] → Q H2) : Ghost X σ H1 Q := fun pins sh I => by
  rw [← hk] at re r h
  obtain ⟨H2, I2, rd, k⟩ := r.rt.freeze r.nd I
  have fx : Fix H1 H2 := fun b u hb ho => by
    rw [k b fun z => ?_]; exact hb
    obtain ⟨w, hw, hy⟩ := r.rt.own b z
    rw [hb] at hw; cases hw; rw [ho] at hy; cases hy
  refine ⟨H2, I2, h H2 (re.stay fx fun i a ha => k a fun z => r.ap a z i ha) rd ⟨fun a u hu hn => ?_, fun i hi => ?_, fun a ha => s.new a (ha.elim (fun z => nomatch z) .inr)⟩⟩
  · rw [k a fun z => ?_]
    · exact s.keep a u hu hn
    · rcases s.new a (.inl z) with ⟨i, hi⟩ | hi
      · exact hn i hi
      · rw [hu] at hi; cases hi
  · obtain ⟨e1, k1⟩ := s.own i hi
    exact ⟨e1, fun a ha => by rw [k a fun z => r.ap a z i (by rw [e1]; exact ha)]; exact k1 a ha⟩
theorem Ress.freeze {t : List T} {v : List V} {fp : List Addr} {H1 : Hp} {fps1 : Fp} {e1 : Env} (hk : X.K = G.K) (re : RE G.K H1 e1 σ fps1) (r : Ress G.K H1 fps1 t v fp) (s : Stp tch H fps H1 fps1 fp) {Q : Hp → Prop}
    (h : ∀ H2, RE G.K H2 e1 σ fps1 → RDs G.K H2 (T.fzs t) v → Stp tch H fps H2 fps1 [] → Q H2) : Ghost X σ H1 Q := fun pins sh I => by
  rw [← hk] at re r h
  obtain ⟨H2, I2, rd, k⟩ := r.rt.freeze r.nd I
  have fx : Fix H1 H2 := fun b u hb ho => by
    rw [k b fun z => ?_]; exact hb
    obtain ⟨w, hw, hy⟩ := r.rt.own b z
    rw [hb] at hw; cases hw; rw [ho] at hy; cases hy
  refine ⟨H2, I2, h H2 (re.stay fx fun i a ha => k a fun z => r.ap a z i ha) rd ⟨fun a u hu hn => ?_, fun i hi => ?_, fun a ha => s.new a (ha.elim (fun z => nomatch z) .inr)⟩⟩
  · rw [k a fun z => ?_]
    · exact s.keep a u hu hn
    · rcases s.new a (.inl z) with ⟨i, hi⟩ | hi
      · exact hn i hi
      · rw [hu] at hi; cases hi
  · obtain ⟨e1, k1⟩ := s.own i hi
    exact ⟨e1, fun a ha => by rw [k a fun z => r.ap a z i (by rw [e1]; exact ha)]; exact k1 a ha⟩
/-- the data of a result -/
theorem _root_.L2.PE.fz {pe : Expr} {f : Env → R T} (hk : X.K = G.K) (h : PE X pe (tE G W tch f)) : PE X pe (tF G W tch f) :=
  h.gh.im fun σ H Q ⟨e, fps, re, p⟩ => ⟨e, fps, re, p.imp fun a e1 b H1 fps1 fp1 _ re1 r1 s1 q => r1.freeze hk re1 s1 fun H2 re2 rd s2 => q b H2 fps1 [] re2 ⟨rd, rfl⟩ s2⟩
theorem _root_.L2.PA.fz {pe : List Expr} {f : Env → R (List T)} (hk : X.K = G.K) (h : PA X pe (tEs G W tch f)) : PA X pe (tFs G W tch f) :=
  h.gh.im fun σ H Q ⟨e, fps, re, p⟩ => ⟨e, fps, re, p.imp fun a e1 b H1 fps1 fp1 _ re1 r1 s1 q => r1.freeze hk re1 s1 fun H2 re2 rd s2 => q b H2 fps1 [] re2 ⟨rd, rfl⟩ s2⟩
end
theorem Le.refl {t : Nat → Bool} : Le t t := fun _ h => h
theorem Le.none {t : Nat → Bool} : Le (fun _ => false) t := fun _ _ => rfl
theorem Le.l {t u : Nat → Bool} : Le t (orT t u) := fun i h => by simp [orT] at h; exact h.1
theorem Le.r {t u : Nat → Bool} : Le u (orT t u) := fun i h => by simp [orT] at h; exact h.2
theorem Le.trans {t u v : Nat → Bool} (a : Le t u) (b : Le u v) : Le t v := fun i h => a i (b i h)
/-! ### one construct after the other -/
/-- a test -/
def toB (r : R T) : R Bool := r.bind fun x e => match x with
  | .leaf (.bl b) => .ok b e
  | _ => .bad
abbrev relB : Hp → Fp → Bool → Bool → List Addr → Prop := fun _ _ a b fp => a = b ∧ fp = []
abbrev tT (G : Gd) (W : WX) (tch : Nat → Bool) (f : Env → R T) : TT := tG G W tch relB fun e => toB (f e)
theorem toB_bind {α : Type} (r : R α) (k : α → Env → R T) : toB (r.bind k) = r.bind fun a e => toB (k a e) := by cases r <;> rfl
section
variable {X : L2.Cx} {G : Gd} {W : WX} {t1 t2 t3 : Nat → Bool} {a b c : Expr} {f g h : Env → R T} {pos : Pos}
theorem pm_tF (hk : X.K = G.K) (ha : PE X a (tE G W t1 f)) : PE X a (tF G W t1 f) := ha.fz hk
theorem pt_of (ha : PE X a (tE G W t1 f)) (he : ∀ whole, isTrue a X.env whole = (do let v ← whole; standAt a.pos; holding [v] (truthy v))) : PT X a (tT G W t1 f) :=
  (pt_val ha he).im fun σ H Q ⟨e, fps, re, p⟩ => ⟨e, fps, re, p.first .refl fun x e1 v H1 fps1 fp1 _ re1 r1 s1 p1 => by
    split at p1
    · obtain ⟨h1, rfl⟩ := r1.rt
      exact ⟨_, h1, p1 _ _ _ _ re1 ⟨rfl, rfl⟩ .refl⟩
    · exact p1.elim⟩
theorem pm_cst {d : D} {v : V} (ha : PE X a (tC v)) (r : ∀ H, RD G.K H d v) : PE X a (tE G W (fun _ => false) fun e => .ok (.leaf d) e) :=
  ha.im fun σ H Q ⟨e, fps, re, p⟩ => Post.leaf re p (r H)
theorem pm_bin (hk : X.K = G.K) (o : O2) (ha : PE X a (tE G W t1 f)) (hb : PE X b (tE G W t2 g)) :
    PE X (.BinOp a o.op b pos) (tE G W (orT t1 t2) fun e => (f e).bind fun x e1 => (g e1).bind fun y e2 => optR (d2 o x.fz y.fz) e2) := by
  refine (pe_op (op_d2 o) (ha.fz hk) (hb.fz hk)).im fun σ H Q ⟨e, fps, re, p⟩ => ⟨e, fps, re, p.first .l fun x e1 v H1 fps1 fp1 ex re1 r1 s1 p1 =>
    ⟨e1, fps1, re1, p1.first .r fun y e2 u H2 fps2 fp2 ey re2 r2 s2 p2 => ?_⟩⟩
  rw [hk]
  cases q : d2 o x.fz y.fz with
  | none => rw [q] at p2; exact p2.elim
  | some t =>
    rw [q] at p2
    exact ⟨_, _, t, r1.1.fix (s2.fix re1), r2.1, q, Post.res re2 p2⟩
theorem pm_neg (hk : X.K = G.K) (ha : PE X a (tE G W t1 f)) : PE X (.UnaryOp .USub a pos) (tE G W t1 fun e => (f e).bind fun x e1 => (match x.fz with
    | .int i => .ok (.leaf (.int (-i))) e1
    | _ => .bad)) := by
  refine (pe_un un_neg (ha.fz hk)).im fun σ H Q ⟨e, fps, re, p⟩ => ⟨e, fps, re, p.first .refl fun x e1 v H1 fps1 fp1 ex re1 r1 s1 p1 => ?_⟩
  obtain ⟨r1, _⟩ := r1
  split at p1
  · rename_i i hi
    rw [hi] at r1
    cases r1
    exact ⟨_, rfl, Post.leaf re1 p1 rfl⟩
  · exact p1.elim
theorem pm_cmpW (hk : X.K = G.K) (hu : X.A.units + 65 < cLine) (o : OC) (ha : PE X a (tE G W t1 f)) (hb : PE X b (tE G W t2 g)) :
    ∀ σ H Q, tE G W (orT t1 t2) (fun e => (f e).bind fun x e1 => (g e1).bind fun y e2 => blR (dc o x.fz y.fz) e2) σ H Q → tOp (rDc X.K o) (tF G W t1 f) (tF G W t2 g) σ H Q := by
  refine fun σ H Q ⟨e, fps, re, p⟩ => ⟨e, fps, re, p.first .l fun x e1 v H1 fps1 fp1 ex re1 r1 s1 p1 =>
    ⟨e1, fps1, re1, p1.first .r fun y e2 u H2 fps2 fp2 ey re2 r2 s2 p2 => ?_⟩⟩
  rw [hk]
  cases q : dc o x.fz y.fz with
  | none => rw [q] at p2; exact p2.elim
  | some t =>
    rw [q] at p2
    exact ⟨_, _, t, (r1.1.fix (s2.fix re1)).rv, r2.1.rv, q, Post.leaf re2 p2 rfl⟩
theorem tT_op {r : TE} {f : Env → R T} (i : ∀ σ H Q, tE G W t1 f σ H Q → r σ H Q) : ∀ σ H Q, tT G W t1 f σ H Q → tTest r σ H Q := fun σ H Q ⟨e, fps, re, p⟩ => i σ H _ ⟨e, fps, re, p.first .refl fun x e1 v H1 fps1 fp1 _ re1 r1 s1 p1 => by
    split at p1
    · obtain ⟨h1, rfl⟩ := r1.rt
      exact ⟨_, h1, p1 _ _ _ _ re1 ⟨rfl, rfl⟩ .refl⟩
    · exact p1.elim⟩
theorem pm_cmp (hk : X.K = G.K) (hu : X.A.units + 65 < cLine) (o : OC) (ha : PE X a (tE G W t1 f)) (hb : PE X b (tE G W t2 g)) (hm : behindInMarks o.op b = false) :
    PE X (.Compare a [o.op] [b] pos) (tE G W (orT t1 t2) fun e => (f e).bind fun x e1 => (g e1).bind fun y e2 => blR (dc o x.fz y.fz) e2) :=
  (pe_cmpR (op_dc hu o) (ha.fz hk) (hb.fz hk) hm).im (pm_cmpW hk hu o ha hb)
theorem pmt_cmp (hk : X.K = G.K) (hu : X.A.units + 65 < cLine) (o : OC) (ha : PE X a (tE G W t1 f)) (hb : PE X b (tE G W t2 g)) (hm : behindInMarks o.op b = false) :
    PT X (.Compare a [o.op] [b] pos) (tT G W (orT t1 t2) fun e => (f e).bind fun x e1 => (g e1).bind fun y e2 => blR (dc o x.fz y.fz) e2) :=
  (pt_cmpR (op_dc hu o) (ha.fz hk) (hb.fz hk) hm).im (tT_op (pm_cmpW hk hu o ha hb))
def chnF (o o' : OC) (f g h : Env → R T) : Env → R T := fun e => (f e).bind fun x e1 => (g e1).bind fun y e2 => (match dc o x.fz y.fz with
    | some true => (h e2).bind fun z e3 => blR (dc o' y.fz z.fz) e3
    | some false => .ok (.leaf (.bl false)) e2
    | none => .bad)
theorem pm_chnW (hk : X.K = G.K) (o o' : OC) : ∀ σ H Q, tE G W (orT t1 (orT t2 t3)) (chnF o o' f g h) σ H Q → tChain (rDc X.K o) (rDc X.K o') (tF G W t1 f) (tF G W t2 g) (tF G W t3 h) σ H Q := by
  refine fun σ H Q ⟨e, fps, re, p⟩ => ⟨e, fps, re, p.first .l fun x e1 v H1 fps1 fp1 ex re1 r1 s1 p1 =>
    ⟨e1, fps1, re1, p1.first (Le.l.trans .r) fun y e2 u H2 fps2 fp2 ey re2 r2 s2 p2 => ?_⟩⟩
  rw [hk]
  have rx := (r1.1.fix (s2.fix re1)).rv
  split at p2
  · rename_i q
    refine ⟨_, _, true, rx, r2.1.rv, q, true, rfl, ?_⟩
    refine (if_pos rfl).mpr ⟨e2, fps2, re2, p2.first (Le.r.trans .r) fun z e3 w H3 fps3 fp3 ez re3 r3 s3 p3 => ?_⟩
    cases q : dc o' y.fz z.fz with
    | none => rw [q] at p3; exact p3.elim
    | some t =>
      rw [q] at p3
      exact ⟨_, _, t, (r2.1.fix (s3.fix re2)).rv, r3.1.rv, q, Post.leaf re3 p3 rfl⟩
  · rename_i q
    exact ⟨_, _, false, rx, r2.1.rv, q, false, rfl, (if_neg Bool.false_ne_true).mpr (Post.leaf re2 p2 rfl)⟩
  · exact p2.elim
end
end Mi
end
section
set_option maxRecDepth 100000
/-! Mi8: expressions, construct by construct. -/
namespace Mi
open PySem L2 PySem.Spec PyProof.Rows
section
variable {X : L2.Cx} {G : Gd} {W : WX} {t1 t2 t3 : Nat → Bool} {a b c : Expr} {f g h : Env → R T} {pos : Pos}
theorem pm_chn (hk : X.K = G.K) (hu : X.A.units + 65 < cLine) (o o' : OC) (ha : PE X a (tE G W t1 f)) (hb : PE X b (tE G W t2 g)) (hc : PE X c (tE G W t3 h)) (hm : lastMarks [o.op, o'.op] [b, c] = false) :
    PE X (.Compare a [o.op, o'.op] [b, c] pos) (tE G W (orT t1 (orT t2 t3)) (chnF o o' f g h)) :=
  (pe_chain (op_dc hu o) (op_dc hu o') (ha.fz hk) (hb.fz hk) (hc.fz hk) hm).im (pm_chnW hk o o')
theorem pmt_chn (hk : X.K = G.K) (hu : X.A.units + 65 < cLine) (o o' : OC) (ha : PE X a (tE G W t1 f)) (hb : PE X b (tE G W t2 g)) (hc : PE X c (tE G W t3 h)) (hm : lastMarks [o.op, o'.op] [b, c] = false) :
    PT X (.Compare a [o.op, o'.op] [b, c] pos) (tT G W (orT t1 (orT t2 t3)) (chnF o o' f g h)) :=
  (pt_chain (op_dc hu o) (op_dc hu o') (ha.fz hk) (hb.fz hk) (hc.fz hk) hm).im (tT_op (pm_chnW hk o o'))
/-! and, or, not -/
def bopF (k : Bool) (f g : Env → R T) : Env → R T := fun e => (f e).bind fun x e1 => onBl x fun v => if v = k then g e1 else .ok (.leaf (.bl v)) e1
theorem pm_bop {rest : List Expr} (k : Bool) (ha : PE X a (tE G W t1 f)) (hb : PE X (.BoolOp (if k then .And else .Or) (b :: rest) pos) (tE G W t2 g)) :
    PE X (.BoolOp (if k then .And else .Or) (a :: b :: rest) pos) (tE G W (orT t1 t2) (bopF k f g)) := by
  cases k with
  | true =>
    refine (pe_and ha hb).im fun σ H Q ⟨e, fps, re, p⟩ => ⟨e, fps, re, p.first .l fun x e1 v H1 fps1 fp1 ex re1 r1 s1 p1 => ?_⟩
    unfold onBl at p1
    split at p1
    · rename_i bb
      obtain ⟨h1, rfl⟩ := r1.rt
      refine ⟨bb, h1, ?_⟩
      cases bb with
      | true => exact (if_pos rfl).mpr ⟨e1, fps1, re1, p1.mono Le.r⟩
      | false => exact (if_neg Bool.false_ne_true).mpr (Post.leaf re1 p1 rfl)
    · exact p1.elim
  | false =>
    refine (pe_or ha hb).im fun σ H Q ⟨e, fps, re, p⟩ => ⟨e, fps, re, p.first .l fun x e1 v H1 fps1 fp1 ex re1 r1 s1 p1 => ?_⟩
    unfold onBl at p1
    split at p1
    · rename_i bb
      obtain ⟨h1, rfl⟩ := r1.rt
      refine ⟨bb, h1, ?_⟩
      cases bb with
      | false => exact (if_neg Bool.false_ne_true).mpr ⟨e1, fps1, re1, p1.mono Le.r⟩
      | true => exact (if_pos rfl).mpr (Post.leaf re1 p1 rfl)
    · exact p1.elim
theorem toB_bop (k : Bool) (e : Env) : toB (bopF k f g e) = (toB (f e)).bind fun v e1 => if v = k then toB (g e1) else .ok v e1 := by
  unfold bopF
  cases f e with
  | ok x e1 =>
    cases x with
    | leaf d =>
      cases d with
      | bl v =>
        show toB (if v = k then g e1 else .ok (.leaf (.bl v)) e1) = if v = k then toB (g e1) else .ok v e1
        split <;> rfl
      | _ => rfl
    | _ => rfl
  | exc _ _ => rfl
  | bad => rfl
theorem pmw_one (k : Bool) (ha : PT X a (tT G W t1 f)) : PW X (.BoolOp (if k then .And else .Or) [a] pos) (tT G W t1 f) := by
  cases k with
  | true => exact pw_and1 ha
  | false => exact pw_or1 ha
theorem pmw_bop {rest : List Expr} (k : Bool) (ha : PT X a (tT G W t1 f)) (hb : PW X (.BoolOp (if k then .And else .Or) (b :: rest) pos) (tT G W t2 g)) :
    PW X (.BoolOp (if k then .And else .Or) (a :: b :: rest) pos) (tT G W (orT t1 t2) (bopF k f g)) := by
  cases k with
  | true =>
    refine (pw_and ha hb).im fun σ H Q ⟨e, fps, re, p⟩ => ?_
    dsimp only at p
    rw [toB_bop] at p
    refine ⟨e, fps, re, p.first .l fun x e1 v H1 fps1 fp1 ex re1 r1 s1 p1 => ?_⟩
    obtain ⟨rfl, rfl⟩ := r1
    cases x with
    | true => exact (if_pos rfl).mpr ⟨e1, fps1, re1, p1.mono Le.r⟩
    | false => exact (if_neg Bool.false_ne_true).mpr (p1 _ _ _ _ re1 ⟨rfl, rfl⟩ .refl)
  | false =>
    refine (pw_or ha hb).im fun σ H Q ⟨e, fps, re, p⟩ => ?_
    dsimp only at p
    rw [toB_bop] at p
    refine ⟨e, fps, re, p.first .l fun x e1 v H1 fps1 fp1 ex re1 r1 s1 p1 => ?_⟩
    obtain ⟨rfl, rfl⟩ := r1
    cases x with
    | false => exact (if_neg Bool.false_ne_true).mpr ⟨e1, fps1, re1, p1.mono Le.r⟩
    | true => exact (if_pos rfl).mpr (p1 _ _ _ _ re1 ⟨rfl, rfl⟩ .refl)
def notF (f : Env → R T) : Env → R T := fun e => (f e).bind fun x e1 => onBl x fun v => .ok (.leaf (.bl !v)) e1
theorem pm_not (ha : PE X a (tE G W t1 f)) : PE X (.UnaryOp .Not a pos) (tE G W t1 (notF f)) := by
  refine (pe_not ha).im fun σ H Q ⟨e, fps, re, p⟩ => ⟨e, fps, re, p.first .refl fun x e1 v H1 fps1 fp1 ex re1 r1 s1 p1 => ?_⟩
  unfold onBl at p1
  split at p1
  · obtain ⟨h1, rfl⟩ := r1.rt
    exact ⟨_, h1, Post.leaf re1 p1 rfl⟩
  · exact p1.elim
theorem toB_not (e : Env) : toB (notF f e) = (toB (f e)).bind fun v e1 => .ok (!v) e1 := by
  unfold notF toB
  cases f e with
  | ok x e1 =>
    simp only [R.bind, onBl]
    cases x with
    | leaf d => cases d <;> rfl
    | _ => rfl
  | exc _ _ => rfl
  | bad => rfl
theorem pmt_not (ha : PT X a (tT G W t1 f)) : PT X (.UnaryOp .Not a pos) (tT G W t1 (notF f)) := by
  refine (pt_not ha).im fun σ H Q ⟨e, fps, re, p⟩ => ?_
  dsimp only at p
  rw [toB_not] at p
  refine ⟨e, fps, re, p.first .refl fun x e1 v H1 fps1 fp1 ex re1 r1 s1 p1 => ?_⟩
  obtain ⟨rfl, rfl⟩ := r1
  exact p1 _ _ _ _ re1 ⟨rfl, rfl⟩ .refl
def iteF (f g h : Env → R T) : Env → R T := fun e => (f e).bind fun x e1 => onBl x fun v => if v = true then g e1 else h e1
theorem toB_onBl (e : Env) (k : Bool → Env → R T) : ((f e).bind fun x e1 => onBl x fun v => k v e1) = (toB (f e)).bind fun v e1 => k v e1 := by
  unfold toB
  cases f e with
  | ok x e1 =>
    simp only [R.bind, onBl]
    cases x with
    | leaf d => cases d <;> rfl
    | _ => rfl
  | exc _ _ => rfl
  | bad => rfl
theorem pm_ite (hc : PT X c (tT G W t1 f)) (ha : PE X a (tE G W t2 g)) (hb : PE X b (tE G W t3 h)) : PE X (.IfExp c a b pos) (tE G W (orT t1 (orT t2 t3)) (iteF f g h)) := by
  refine (pe_ifExp hc ha hb).im fun σ H Q ⟨e, fps, re, p⟩ => ?_
  unfold iteF at p
  rw [toB_onBl e fun v e1 => if v = true then g e1 else h e1] at p
  refine ⟨e, fps, re, p.first .l fun x e1 v H1 fps1 fp1 ex re1 r1 s1 p1 => ?_⟩
  obtain ⟨rfl, rfl⟩ := r1
  cases x with
  | true => exact (if_pos rfl).mpr ⟨e1, fps1, re1, p1.mono (Le.trans Le.l Le.r)⟩
  | false => exact (if_neg Bool.false_ne_true).mpr ⟨e1, fps1, re1, p1.mono (Le.trans Le.r Le.r)⟩
theorem pt_ifExp {tA tb tc : TT} (hc : PT X c tA) (ha : PT X a tb) (hb : PT X b tc) : PT X (.IfExp c a b pos) (fun σ H Q => tA σ H fun v H1 => if v = true then tb σ H1 Q else tc σ H1 Q) := by
  refine ⟨fun pins s σ H Q I hw => ?_⟩
  show wpAny _ _ (do if ← isTrue c X.env (eval c X.env) then isTrue a X.env (eval a X.env) else isTrue b X.env (eval b X.env)) _ _ _
  refine wpAny_bind (thn (hc.run pins s σ H _ I hw) fun d s1 ⟨H1, I1, q1⟩ => ?_)
  cases d with
  | true => exact ha.run pins s1 σ H1 Q I1 q1
  | false => exact hb.run pins s1 σ H1 Q I1 q1
theorem pmt_ite (hc : PT X c (tT G W t1 f)) (ha : PT X a (tT G W t2 g)) (hb : PT X b (tT G W t3 h)) : PT X (.IfExp c a b pos) (tT G W (orT t1 (orT t2 t3)) (iteF f g h)) := by
  refine (pt_ifExp hc ha hb).im fun σ H Q ⟨e, fps, re, p⟩ => ?_
  unfold iteF at p
  dsimp only at p
  rw [toB_onBl e fun v e1 => if v = true then g e1 else h e1, toB_bind] at p
  refine ⟨e, fps, re, p.first .l fun x e1 v H1 fps1 fp1 ex re1 r1 s1 p1 => ?_⟩
  obtain ⟨rfl, rfl⟩ := r1
  cases x with
  | true => exact (if_pos rfl).mpr ⟨e1, fps1, re1, p1.mono (Le.trans Le.l Le.r)⟩
  | false => exact (if_neg Bool.false_ne_true).mpr ⟨e1, fps1, re1, p1.mono (Le.trans Le.r Le.r)⟩
/-! items, slices -/
theorem pm_idx (hk : X.K = G.K) (ha : PE X a (tE G W t1 f)) (hb : PE X b (tE G W t2 g)) (hs : PlainIx b) :
    PE X (.Subscript a b pos) (tE G W (orT t1 t2) fun e => (f e).bind fun x e1 => (g e1).bind fun y e2 => leafR (dIx x.fz y.fz) e2) := by
  refine (pe_ix ix_d (ha.fz hk) (hb.fz hk) hs).im fun σ H Q ⟨e, fps, re, p⟩ => ⟨e, fps, re, p.first .l fun x e1 v H1 fps1 fp1 ex re1 r1 s1 p1 =>
    ⟨e1, fps1, re1, p1.first .r fun y e2 u H2 fps2 fp2 ey re2 r2 s2 p2 => ?_⟩⟩
  rw [hk]
  cases q : dIx x.fz y.fz with
  | none => rw [q] at p2; exact p2.elim
  | some t =>
    rw [q] at p2
    exact ⟨_, _, t, r1.1.fix (s2.fix re1), r2.1, q, fun v hv => Post.leaf re2 p2 hv⟩
/-- a part of a slice -/
abbrev relO : Hp → Fp → Option Int → Option Int → List Addr → Prop := fun _ _ d o fp => d = o ∧ fp = []
abbrev tOp' (G : Gd) (W : WX) (tch : Nat → Bool) (f : Env → R (Option Int)) : TO := tG G W tch relO f
theorem PO.im {X : L2.Cx} {e : Option Expr} {t t' : TO} (h : PO X e t) (i : ∀ σ H Q, t' σ H Q → t σ H Q) : PO X e t' := ⟨fun pins s σ H Q I q => h.run pins s σ H Q I (i _ _ _ q)⟩
theorem pm_no : PO X none (tOp' G W t1 fun e => .ok none e) :=
  PO.im po_none fun σ H Q ⟨e, fps, re, p⟩ => p _ _ _ _ re ⟨rfl, rfl⟩ .refl
theorem pm_so (hk : X.K = G.K) (ha : PE X a (tE G W t1 f)) : PO X (some a) (tOp' G W t1 fun e => (f e).bind fun x e1 => (match x.fz with
    | .int i => .ok (some i) e1
    | _ => .bad)) := by
  refine PO.im (po_some (ha.fz hk)) fun σ H Q ⟨e, fps, re, p⟩ => ⟨e, fps, re, p.first .refl fun x e1 v H1 fps1 fp1 ex re1 r1 s1 p1 => ?_⟩
  obtain ⟨r1, _⟩ := r1
  split at p1
  · rename_i i hi
    rw [hi] at r1
    cases r1
    exact ⟨i, rfl, p1 _ _ _ _ re1 ⟨rfl, rfl⟩ .refl⟩
  · exact p1.elim
end
end Mi
end
section
set_option maxRecDepth 100000
/-! Mi9: names, displays, built-in calls. -/
namespace Mi
open PySem L2 PySem.Spec PyProof.Rows
/-! ### no star, no set display, no slice -/
structure Nice (e : Expr) : Prop where
  ns : ∀ es env, starEach (e :: es) env = (false, eval e env) :: starEach es env
  ix : PlainIx e
  bm : ∀ op, behindInMarks op e = false
  fs : ∀ env x, foldedSetIterable e env x = pure x
theorem lastMarks2 {o o' : CmpOp} {b c : Expr} (h : Nice c) : lastMarks [o, o'] [b, c] = false := by
  show behindInMarks o' c = false
  exact h.bm o'
theorem nice_sub {x k : Expr} {p : Pos} : Nice (.Subscript x k p) := ⟨fun _ _ => rfl, fun _ _ => rfl, fun _ => rfl, fun _ _ => rfl⟩
theorem nice_name {x : Str} {p : Pos} : Nice (.Name x p) := ⟨fun _ _ => rfl, fun _ _ => rfl, fun _ => rfl, fun _ _ => rfl⟩
theorem nice_pl (n : Nm) : ∀ (ks : Es) (x : Expr) (as : As), Nice x → Nice (toPl n ks x as).1
  | .nil, x, as, h => by simpa [toPl] using h
  | .cons k r, x, as, h => by rw [toPl]; exact nice_pl n r _ _ nice_sub
theorem nice_toE (n : Nm) (a : E) (as : As) : Nice (toE n a as).1 := by
  cases a
  case pk i ks => rw [toE]; exact nice_pl n _ _ _ nice_name
  all_goals (rw [toE]; exact ⟨fun _ _ => rfl, fun _ _ => rfl, fun _ => rfl, fun _ _ => rfl⟩)
theorem nice_tys (n : List Ty) (as : As) : ∀ e ∈ (toTys n as).1, Nice e := by
  induction n generalizing as with
  | nil => intro e he; simp [toTys] at he
  | cons t ts ih =>
    intro e he
    simp only [toTys, List.mem_cons] at he
    rcases he with rfl | he
    · exact nice_name
    · exact ih _ e he
theorem nice_isT (ts : List Ty) (as : As) : Nice (toIsT ts as).1 := by
  unfold toIsT
  split
  · exact nice_name
  · exact ⟨fun _ _ => rfl, fun _ _ => rfl, fun _ => rfl, fun _ _ => rfl⟩
theorem nice_toEs (n : Nm) : ∀ (es : Es) (as : As), ∀ e ∈ (toEs n es as).1, Nice e
  | .nil, as, e, he => by simp [toEs] at he
  | .cons a r, as, e, he => by
    rw [toEs] at he
    rcases List.mem_cons.mp he with rfl | he
    · exact nice_toE n a as
    · exact nice_toEs n r _ e he
theorem star_all {es : List Expr} {env : PySem.Env} (h : ∀ e ∈ es, Nice e) : starEach es env = es.map fun e => (false, eval e env) := by
  induction es with
  | nil => rfl
  | cons a r ih =>
    rw [(h a (by simp)).ns, ih fun e he => h e (by simp [he])]
    rfl
theorem star_any {es : List Expr} {env : PySem.Env} {pos : Pos} (h : ∀ e ∈ es, Nice e) : (backTo pos (starEach es env)).any (·.1) = false := by
  rw [star_all h]
  unfold backTo
  induction es with
  | nil => rfl
  | cons a r ih => simpa using ih fun e he => h e (by simp [he])

section
variable {X : L2.Cx} {G : Gd} {W : WX} {t1 t2 t3 : Nat → Bool} {a b c : Expr} {f g h : Env → R T} {pos : Pos}
/-! ### names -/
theorem getL_lt {e : Env} {i : Nat} {t : T} (h : getL e i = some t) : i < e.length := by
  unfold getL at h
  cases q : e[i]? with
  | none => rw [q] at h; cases h
  | some x => exact (List.getElem?_eq_some_iff.mp q).1
theorem getL_set_eq {e : Env} {i : Nat} {x : Option T} (h : i < e.length) : getL (e.set i x) i = x := by
  unfold getL
  rw [List.getElem?_set_self h]
  rfl
theorem getL_set_ne {e : Env} {i j : Nat} {x : Option T} (h : j ≠ i) : getL (e.set i x) j = getL e j := by
  unfold getL
  rw [List.getElem?_set_ne (Ne.symm h)]
def updF (fps : Fp) (i : Nat) (l : List Addr) : Fp := fun j => if j = i then l else fps j
theorem updF_eq {fps : Fp} {i : Nat} {l : List Addr} : updF fps i l i = l := if_pos rfl
theorem updF_ne {fps : Fp} {i j : Nat} {l : List Addr} (h : j ≠ i) : updF fps i l j = fps j := if_neg h
section
variable {K : Fg} {H : Hp} {e : Env} {σ : L2.St} {fps : Fp} {i : Nat}
/-- a name's tree set anew; its slot as it is -/
theorem RE.put {t : T} {v : V} {fp : List Addr} (re : RE K H e σ fps) (hv : σ[i]? = some (some v)) (r : RT K H t v fp) (nd : fp.Nodup) (ap : ∀ a ∈ fp, ∀ j, j ≠ i → a ∉ fps j) : RE K H (e.set i (some t)) σ (updF fps i fp) where
  len := by rw [List.length_set]; exact re.len
  rep := fun j u hu => by
    by_cases hj : j = i
    · subst hj
      have hl : j < e.length := by
        rw [re.len]; exact (List.getElem?_eq_some_iff.mp hv).1
      rw [getL_set_eq hl] at hu
      cases hu
      exact ⟨v, hv, by rw [updF_eq]; exact r⟩
    · rw [getL_set_ne hj] at hu
      obtain ⟨w, h1, h2⟩ := re.rep j u hu
      exact ⟨w, h1, by rw [updF_ne hj]; exact h2⟩
  emp := fun j hj => by
    by_cases q : j = i
    · subst q
      have hl : j < e.length := by
        rw [re.len]; exact (List.getElem?_eq_some_iff.mp hv).1
      rw [getL_set_eq hl] at hj; cases hj
    · rw [getL_set_ne q] at hj
      rw [updF_ne q]; exact re.emp j hj
  nd := fun j => by
    by_cases q : j = i
    · subst q; rw [updF_eq]; exact nd
    · rw [updF_ne q]; exact re.nd j
  dis := fun j k a hj hk => by
    by_cases q : j = i
    · subst q
      by_cases q2 : k = j
      · exact q2.symm
      · rw [updF_eq] at hj; rw [updF_ne q2] at hk
        exact (ap a hj k q2 hk).elim
    · by_cases q2 : k = i
      · subst q2
        rw [updF_eq] at hk; rw [updF_ne q] at hj
        exact (ap a hk j q hj).elim
      · rw [updF_ne q] at hj; rw [updF_ne q2] at hk
        exact re.dis j k a hj hk
/-- a name emptied -/
theorem RE.drop (re : RE K H e σ fps) : RE K H (e.set i none) σ (updF fps i []) where
  len := by rw [List.length_set]; exact re.len
  rep := fun j u hu => by
    by_cases hj : j = i
    · subst hj
      by_cases hl : j < e.length
      · rw [getL_set_eq hl] at hu; cases hu
      · have := getL_lt hu
        rw [List.length_set] at this
        exact (hl this).elim
    · rw [getL_set_ne hj] at hu
      obtain ⟨w, h1, h2⟩ := re.rep j u hu
      exact ⟨w, h1, by rw [updF_ne hj]; exact h2⟩
  emp := fun j hj => by
    by_cases q : j = i
    · subst q; rw [updF_eq]
    · rw [getL_set_ne q] at hj
      rw [updF_ne q]; exact re.emp j hj
  nd := fun j => by
    by_cases q : j = i
    · subst q; rw [updF_eq]; exact .nil
    · rw [updF_ne q]; exact re.nd j
  dis := fun j k a hj hk => by
    by_cases q : j = i
    · subst q; rw [updF_eq] at hj; cases hj
    · by_cases q2 : k = i
      · subst q2; rw [updF_eq] at hk; cases hk
      · rw [updF_ne q] at hj; rw [updF_ne q2] at hk
        exact re.dis j k a hj hk
/-- the tree of an emptied name is apart -/
theorem RE.out {t : T} (re : RE K H e σ fps) (h : getL e i = some t) : ∃ v, σ[i]? = some (some v) ∧ Res K H (updF fps i []) t v (fps i) := by
  obtain ⟨v, h1, h2⟩ := re.rep i t h
  refine ⟨v, h1, h2, re.nd i, fun a ha j hj => ?_⟩
  by_cases q : j = i
  · subst q; rw [updF_eq] at hj; cases hj
  · rw [updF_ne q] at hj
    exact q (re.dis j i a hj ha)
abbrev TT : Nat → Bool := fun _ => true
theorem Stp.mk' {H' : Hp} {fps' : Fp} {fp : List Addr} (keep : ∀ a u, H a = some u → (∀ i, a ∉ fps i) → H' a = some u) (new : ∀ a, (a ∈ fp ∨ ∃ i, a ∈ fps' i) → (∃ i, a ∈ fps i) ∨ H a = none) : Stp TT H fps H' fps' fp :=
  ⟨keep, fun i hi => (nomatch hi), new⟩
theorem Stp.tt {H' : Hp} {fps' : Fp} {fp : List Addr} {t : Nat → Bool} (s : Stp t H fps H' fps' fp) : Stp TT H fps H' fps' fp := .mk' s.keep s.new
/-- taken out -/
theorem Stp.take {i : Nat} : Stp TT H fps H (updF fps i []) (fps i) := .mk' (fun _ _ h _ => h) fun a ha => .inl (by
  rcases ha with ha | ⟨j, ha⟩
  · exact ⟨i, ha⟩
  · by_cases q : j = i
    · subst q; rw [updF_eq] at ha; cases ha
    · rw [updF_ne q] at ha; exact ⟨j, ha⟩)
/-- put back -/
theorem Stp.give {H' : Hp} {fps' : Fp} {fp fp2 : List Addr} {i : Nat} (s : Stp TT H fps H' fps' (fp ++ fp2)) : Stp TT H fps H' (updF fps' i fp) fp2 := .mk' s.keep fun a ha => by
  rcases ha with ha | ⟨j, ha⟩
  · exact s.new a (.inl (List.mem_append_right _ ha))
  · by_cases q : j = i
    · subst q; rw [updF_eq] at ha; exact s.new a (.inl (List.mem_append_left _ ha))
    · rw [updF_ne q] at ha; exact s.new a (.inr ⟨j, ha⟩)
/-- a tree put back into its slot -/
theorem Res.put {t : T} {v : V} {fp : List Addr} (r : Res K H fps t v fp) (re : RE K H e σ fps) (hv : σ[i]? = some (some v)) : RE K H (e.set i (some t)) σ (updF fps i fp) := re.put hv r.rt r.nd fun a ha j _ => r.ap a ha j
end
theorem pm_get {i : Nat} (ha : PE X a (tVar i)) : PE X a (tE G W TT fun e => (match getL e i with
    | some (.leaf d) => .ok (.leaf d) e
    | _ => .bad)) := by
  refine ha.im fun σ H Q ⟨e, fps, re, p⟩ => ?_
  dsimp only at p
  cases q : getL e i with
  | none => rw [q] at p; exact p.elim
  | some t =>
    rw [q] at p
    cases t with
    | leaf d =>
      obtain ⟨v, h1, h2⟩ := re.rep i _ q
      exact ⟨v, h1, Post.leaf re p h2.1⟩
    | _ => exact p.elim
theorem pm_mv {i : Nat} {io : Bool} (ha : PE X a (tVar i)) : PE X a (tE G W TT fun e => if io = true then .bad else (match getL e i with
    | some t => .ok t (e.set i none)
    | none => .bad)) := by
  refine ha.im fun σ H Q ⟨e, fps, re, p⟩ => ?_
  dsimp only at p
  cases io with
  | true => exact p.elim
  | false =>
    rw [if_neg Bool.false_ne_true] at p
    cases q : getL e i with
    | none => rw [q] at p; exact p.elim
    | some t =>
      rw [q] at p
      obtain ⟨v, h1, h2⟩ := re.out q
      exact ⟨v, h1, p v H _ _ re.drop h2 .take⟩
theorem pm_fzv {i : Nat} (hk : X.K = G.K) (ha : PE X a (tVar i)) : PE X a (tE G W TT fun e => (match getL e i with
    | some t => .ok (.leaf t.fz) (e.set i (some (.leaf t.fz)))
    | none => .bad)) := by
  refine ha.gh.im fun σ H Q ⟨e, fps, re, p⟩ => ?_
  dsimp only at p
  cases q : getL e i with
  | none => rw [q] at p; exact p.elim
  | some t =>
    rw [q] at p
    obtain ⟨v, h1, h2⟩ := re.out q
    refine ⟨v, h1, h2.freeze hk re.drop .take fun H2 re2 rd s2 => ?_⟩
    have r3 := (Res.leaf rd).put (fps := updF fps i []) re2 h1
    have e3 : (e.set i none).set i (some (.leaf t.fz)) = e.set i (some (.leaf t.fz)) := List.set_set ..
    rw [e3] at r3
    exact p v H2 _ [] r3 (Res.leaf rd) (Stp.give (fp := []) (fp2 := []) s2)
/-! ### some expressions -/
theorem pm_nil : PA X [] (tEs G W TT fun e => .ok [] e) :=
  pa_nil.im fun σ H Q ⟨e, fps, re, p⟩ => p [] H fps [] re ⟨⟨rfl, rfl⟩, .nil, fun _ h => nomatch h⟩ .refl
theorem pm_cons {es : List Expr} {fs : Env → R (List T)} (ha : PE X a (tE G W TT f)) (hr : PA X es (tEs G W TT fs)) (hs : Nice a) : PA X (a :: es) (tEs G W TT fun e => (f e).bind fun x e1 => (fs e1).bind fun xs e2 => .ok (x :: xs) e2) := by
  refine (pa_cons ha hr (hs.ns _ _)).im fun σ H Q ⟨e, fps, re, p⟩ => ⟨e, fps, re, p.first .refl fun x e1 v H1 fps1 fp1 ex re1 r1 s1 p1 =>
    ⟨e1, fps1, re1, ?_⟩⟩
  -- what the head made stays; it is new or was a name's
  have key : ∀ xs e2 vs H2 fps2 fp2, fs e1 = .ok xs e2 → RE G.K H2 e2 σ fps2 → Ress G.K H2 fps2 xs vs fp2 → Stp TT H1 fps1 H2 fps2 fp2 → Q (v :: vs) H2 := fun xs e2 vs H2 fps2 fp2 ey re2 r2 s2 => by
    have p0 : Post G W TT σ H fps (relTs G) ((f e).bind fun x e1 => (fs e1).bind fun xs e2 => .ok (x :: xs) e2) Q := p
    rw [ex] at p0
    simp only [R.bind, ey] at p0
    exact p0 (v :: vs) H2 fps2 (fp1 ++ fp2) re2 (r1.cons re1 s2 r2) (s1.trans s2).tt
  cases q : fs e1 with
  | ok xs e2 => exact fun vs H2 fps2 fp2 re2 r2 s2 => key xs e2 vs H2 fps2 fp2 q re2 r2 s2
  | exc x e2 => rw [q] at p1; exact p1
  | bad => rw [q] at p1; exact p1
/-- a tuple of written items -/
theorem pm_tup {es : List Expr} {fs : Env → R (List T)} (hk : X.K = G.K) (ha : PA X es (tEs G W TT fs)) (hl : ∀ e ts e', fs e = .ok ts e' → ts.length ≤ line) : PE X (.Tuple es 0 pos) (tE G W TT fun e => (fs e).bind fun ts e1 => .ok (.leaf (.tup (T.fzs ts))) e1) := by
  refine (pe_tup (ha.fz hk)).im fun σ H Q ⟨e, fps, re, p⟩ => ⟨e, fps, re, p.first .refl fun ts e1 vs H1 fps1 fp1 ex re1 r1 s1 p1 => ?_⟩
  obtain ⟨r1, rfl⟩ := r1
  refine ⟨?_, fun q hq => (Post.res re1 p1).newT r1 hq⟩
  rw [r1.length, sizeLine_eq]
  have : ∀ ts : List T, (T.fzs ts).length = ts.length := fun ts => by induction ts with
    | nil => rfl
    | cons t ts ih => simp [T.fzs, ih]
  rw [this]
  exact hl e ts e1 ex
/-- a list of written items -/
theorem pm_lst {es : List Expr} {fs : Env → R (List T)} (ha : PA X es (tEs G W TT fs)) (hl : ∀ e ts e', fs e = .ok ts e' → ts.length ≤ line) : PE X (.List es pos) (tE G W TT fun e => (fs e).bind fun ts e1 => .ok (.lst ts) e1) := by
  refine (pe_lst ha).im fun σ H Q ⟨e, fps, re, p⟩ => ⟨e, fps, re, ?_⟩
  dsimp only at p
  cases q : fs e with
  | ok ts e1 =>
    rw [q] at p
    refine fun vs H1 fps1 fp1 re1 r1 s1 => ⟨?_, fun d hd => ?_⟩
    · have : ∀ {ts : List T} {vs : List V} {fp : List Addr}, RTs G.K H1 ts vs fp → vs.length = ts.length := fun {ts} => by
        induction ts with
        | nil => intro vs fp h; rw [h.1]; rfl
        | cons t ts ih =>
          intro vs fp h
          obtain ⟨v, r, f, g, rfl, rfl, h1, h2⟩ := h
          simp [ih h2]
      rw [this r1.rt, sizeLine_eq]
      exact hl e ts e1 q
    · have old := upd_old (o := .lst vs) hd
      have fx := fix_of old
      have nd : d ∉ fp1 := fun z => by
        obtain ⟨u, hu, _⟩ := r1.rt.own d z
        rw [hd] at hu; cases hu
      have ndi : ∀ i, d ∉ fps1 i := fun i z => by
        obtain ⟨u, hu, _⟩ := re1.own z
        rw [hd] at hu; cases hu
      refine p (.ref d) _ fps1 (d :: fp1) (re1.stay fx fun i a ha => upd_ne fun z => ndi i (z ▸ ha)) ⟨⟨d, vs, fp1, rfl, upd_same, r1.rt.stay fx fun a ha => upd_ne fun z => nd (z ▸ ha), rfl⟩, List.nodup_cons.mpr ⟨nd, r1.nd⟩, fun a ha i => ?_⟩ (.mk' (fun a u hu hn => old a u (s1.keep a u hu hn)) fun a ha => ?_)
      · rcases List.mem_cons.mp ha with rfl | ha
        · exact ndi i
        · exact r1.ap a ha i
      · rcases ha with ha | ha
        · rcases List.mem_cons.mp ha with rfl | ha
          · cases z : H a with
            | none => exact .inr rfl
            | some u =>
              left
              refine Classical.byContradiction fun hn => ?_
              rw [s1.keep a u z fun i hi => hn ⟨i, hi⟩] at hd; cases hd
          · exact s1.new a (.inl ha)
        · exact s1.new a (.inr ha)
  | exc x e1 => rw [q] at p; exact p
  | bad => rw [q] at p; exact p
/-! ### built-in calls -/
theorem boot_B (f : B) : bootBuiltins f.nm = some (.builtin f.id) := by cases f <;> decide +kernel
theorem boot_Ty (f : Ty) : bootBuiltins f.nm = some (.type f.id) := by cases f <;> decide +kernel
theorem nm_B (f : B) : f.nm ≠ "__name__" ∧ (f.nm == ("__debug__" : Str)) = false := by cases f <;> decide
theorem nm_Ty (f : Ty) : f.nm ≠ "__name__" ∧ (f.nm == ("__debug__" : Str)) = false := by cases f <;> decide
theorem pm_bi {es : List Expr} {e₀ : Expr} {p : Pos} {fs : Env → R (List T)} (hk : X.K = G.K) (hc : X.calm = true) (hu : X.A.units + 65 < cLine) (k : B) (hg : Gl X k.nm) (hm : X.mg k.nm = none) (ha : PA X (e₀ :: es) (tEs G W TT fs)) (hn : ∀ e ∈ e₀ :: es, Nice e) :
    PE X (.Call (.Name k.nm p) (e₀ :: es) [] pos) (tE G W TT fun e => (fs e).bind fun ts e1 => optR (db k (T.fzs ts)) e1) := by
  refine (pe_callB (cr_db hc hu k) hg hm (boot_B k) (ha.fz hk) (nm_B k).1 (nm_B k).2 ((hn e₀ (by simp)).ns _ _) (star_any fun e he => hn e (by simp [he]))).im fun σ H Q ⟨e, fps, re, p⟩ => ⟨e, fps, re, p.first .refl fun ts e1 vs H1 fps1 fp1 ex re1 r1 s1 p1 => ?_⟩
  rw [hk]
  cases q : db k (T.fzs ts) with
  | none => rw [q] at p1; exact p1.elim
  | some t =>
    rw [q] at p1
    exact ⟨_, t, r1.1.rv, q, Post.res re1 p1⟩
theorem pm_ty {es : List Expr} {e₀ : Expr} {p : Pos} {fs : Env → R (List T)} (hk : X.K = G.K) (k : Ty) (hg : Gl X k.nm) (hm : X.mg k.nm = none) (ha : PA X (e₀ :: es) (tEs G W TT fs)) (hn : ∀ e ∈ e₀ :: es, Nice e) :
    PE X (.Call (.Name k.nm p) (e₀ :: es) [] pos) (tE G W TT fun e => (fs e).bind fun ts e1 => optR (dTy k (T.fzs ts)) e1) := by
  refine (pe_callTy (cr_dty k) hg hm (boot_Ty k) (ha.fz hk) (nm_Ty k).1 (nm_Ty k).2 ((hn e₀ (by simp)).ns _ _) (star_any fun e he => hn e (by simp [he]))).im fun σ H Q ⟨e, fps, re, p⟩ => ⟨e, fps, re, p.first .refl fun ts e1 vs H1 fps1 fp1 ex re1 r1 s1 p1 => ?_⟩
  rw [hk]
  cases q : dTy k (T.fzs ts) with
  | none => rw [q] at p1; exact p1.elim
  | some t =>
    rw [q] at p1
    exact ⟨_, t, r1.1, q, Post.res re1 p1⟩
end
end Mi
end
section
set_option maxRecDepth 100000
/-! Ms1: a set of texts, made from a tuple; how many it has. -/
namespace Ms
open PySem PySem.Spec PyProof.Rows Mi
theorem cntF_le (ss : List Str) : ∀ i, cntF ss i ≤ i
  | 0 => Nat.le_refl 0
  | i + 1 => by
    have := cntF_le ss i
    unfold cntF
    split <;> omega
theorem met_succ {ss : List Str} {i : Nat} (h : i < ss.length) (k : Str) : met ss (i + 1) k = (met ss i k || decide (k = ss.getD i Str.empty)) := by
  have e : ss.getD i Str.empty = ss[i] := by simp [List.getD_eq_getElem?_getD, List.getElem?_eq_getElem h]
  unfold met
  rw [List.take_succ_eq_append_getElem h, List.any_append, e]
  congr 1
  show (ss[i] == k || false) = decide (k = ss[i])
  rw [Bool.or_false]
  by_cases q : ss[i] = k
  · rw [q]; simp
  · rw [beq_eq_false_iff_ne.mpr q, decide_eq_false fun z => q z.symm]
section
variable {pr : Program} {wo : World} {Ar : Around} {RR : Result → Shared → Prop} {it : Addr} {fr wr : List Addr} {GG : Array GenState → Array GenState → Prop} {nn : Nat} {PP : Nat → Value → Prop} {SS : Nat → Shared → Prop}
/-- texts put into a set, one after the other -/
theorem put_texts (ww : WalksS pr wo Ar.in1 it fr wr GG nn PP SS) (z : Addr) (hz : z ∉ fr) (ss : List Str) (hlen : ss.length = nn) (hroom : nn + 1 < scanBound) (hv : ∀ i v, PP i v → ∃ t, v = .str (ss.getD i Str.empty) t) (m : Nat) :
    ∀ (i : Nat) (st : Shared), i + m = nn → SS i st → st.heap.SetOf (PySem.strKind pr wo) z (met ss i) (cntF ss i) →
      (∀ st', Moved (z :: wr) GG st st' → st'.heap.SetOf (PySem.strKind pr wo) z (met ss nn) (cntF ss nn) → RR (.ok (.ret .none)) st') →
      codeAny (model pr wo) Ar (.builtin "set.update.loop" ⟨[.ref z, .ref it], []⟩) RR st := by
  have hzw : z ∉ wr := fun h => hz (ww.sub _ h)
  have wid : ∀ b ∈ wr, b ∈ z :: wr := fun b hb => .tail _ hb
  have stay : ∀ {st st' : Shared} {S : Str → Bool} {c : Nat}, Moved wr GG st st' → st.heap.SetOf (PySem.strKind pr wo) z S c → st'.heap.SetOf (PySem.strKind pr wo) z S c :=
    fun hm ⟨o, es, ep, tb, ho, more⟩ => ⟨o, es, ep, tb, hm.heap z _ hzw ho, more⟩
  induction m with
  | zero =>
    intro i st him hst hS hR
    have him : i = nn := him
    subst him
    refine codeAny_builtin PyProof.Rows.F.entry_set_update_loop ?_; rw [Around.under_plainId PyProof.Rows.F.plain_set_update_loop _]
    show wpAny _ Ar.in1 (pyNext (.ref it) >>= _) _ _ st
    exact wpAny_bind (ww.done st _ _ hst fun st' hm => show wpAny _ Ar.in1 (ret Value.none) _ _ st' from wpAny_pure (hR st' (hm.mono wid) (stay hm hS)))
  | succ m ih =>
    intro i st him hst hS hR
    have hi : i < nn := by omega
    refine codeAny_builtin PyProof.Rows.F.entry_set_update_loop ?_; rw [Around.under_plainId PyProof.Rows.F.plain_set_update_loop _]
    show wpAny _ Ar.in1 (pyNext (.ref it) >>= _) _ _ st
    refine wpAny_bind (ww.item i st _ _ hi hst fun v st' hP hst' hm => ?_)
    obtain ⟨tk, rfl⟩ := hv i v hP
    have hS' := stay hm hS
    generalize hx : ss.getD i Str.empty = x at *
    show wpAny _ Ar.in1 (holding [Value.str x tk] (setAdd z (.str x tk)) >>= _) _ _ st'
    refine wpAny_bind (wpAny_holding ?_); unfold setAdd
    refine wpAny_holding (wpAny_bind ((PySem.strKind pr wo).pyHash (k := x) (strKind_is _ _ _ _) ?_))
    have hc := cntF_le ss i
    refine wpAny_setAddHashed_of (knd := PySem.strKind pr wo) (s := { st' with toks := st'.toks + 1 }) (strKind_is _ _ _ _) rfl hS' (by omega) fun hp sb hN => ?_
    have hN' : hp.SetOf (PySem.strKind pr wo) z (met ss (i + 1)) (cntF ss (i + 1)) := by
      refine SetOf_congr hN (fun k => ?_) ?_
      · rw [met_succ (by omega), hx]
      · show _ = if met ss i (ss.getD i Str.empty) then cntF ss i else cntF ss i + 1
        rw [hx]
    have keep : ∀ b o, b ≠ z → st'.heap.get? b = some o → hp.get? b = some o := fun b o hb e => (sb.2 b hb).trans e
    refine wpAny_pure ⟨plainId_quiet PyProof.Rows.F.plain_set_update_loop _, ih (i + 1) _ (by omega) (ww.frame _ st' _ _ hst' (Nat.le_succ _) fun b hb o e => keep b o (fun h => hz (h ▸ hb)) e) hN' fun st2 hm2 hS2 => ?_⟩
    exact hR st2 (Moved.trans ww.gtrans ((hm.mono wid).then_heap (Nat.le_succ _) fun b o hb e => keep b o (fun h => hb (h ▸ .head _)) e) hm2) hS2
end
section
variable {pr : Program} {wo : World} {Ar : Around} {EE : Value → Shared → Prop} {st : Shared}
set_option maxHeartbeats 3200000 in
/-- set(x), x a tuple of texts -/
theorem set_texts {l : Addr} {items : Array Value} {ss : List Str} {Q : Value → Shared → Prop} (hh : Ar.handled = none) (hl : st.heap.IsTuple l items) (hi : StrsAre items.toList ss) (hroom : ss.length + 1 < scanBound)
    (k : ∀ (hp : Heap) (tk : Nat), hp.SetOf (PySem.strKind pr wo) st.heap.objs.size (met ss ss.length) (cntF ss ss.length) → (∀ b o, b < st.heap.objs.size → st.heap.get? b = some o → hp.get? b = some o) → Q (.ref st.heap.objs.size) { st with heap := hp, toks := tk }) :
    wpAny (model pr wo) Ar (call (.type "set") [.ref l]) Q EE st := by
  have hsz : ss.length = items.size := by rw [← StrsAre.len_eq hi, Array.length_toList]
  obtain ⟨c, tl, hmro⟩ := PySem.F.called_set.mro
  have hmade := PySem.F.called_set.made; have hsub := PySem.F.called_set.sub
  refine wpAny_call (codeAny_of_tree ?_)
  show wpAny _ _ (callAny (.type "set") _) _ _ _
  refine wpAny_pure ⟨Code.quiet_builtin _ (by decide +kernel), codeAny_builtin PySem.F.entry_type_call ?_⟩; rw [Around.under_plain (weight_type_call_type "set" [.ref l] []) rfl]
  have h1 := PySem.F.called_set.notType; have h2 := PySem.F.called_set.canCreate; have hct := PySem.F.typeCall_set_1 (.ref l)
  repeat (any_goals (first | assumption | wp_step))
  refine codeAny_mono (code_set_new_1 (.ref l) (E := EE) (Q₁ := fun ob st1 => ∃ led : Bool, ob = .ref st.heap.objs.size ∧ st1 = { st with heap := st.heap.push { cls := .type "set", dict := none, data := .set #[] 0 (.fresh 0 0 led) } }) fun led => ⟨led, rfl, rfl⟩) fun rr st1 hr => ?_
  rcases rr with er | fl
  · exact hr
  · cases fl with
    | ret ob =>
      obtain ⟨led, rfl, rfl⟩ := hr
      let fresh : Obj := { cls := .type "set", dict := none, data := .set #[] 0 (.fresh 0 0 led) }
      have hS : (st.heap.push fresh).get? st.heap.objs.size = some fresh := Heap.get?_push_size _ rfl
      have hT : Shared.TypeIs { st with heap := st.heap.push fresh } (.ref st.heap.objs.size) "set" := ⟨_, hS, rfl⟩
      have hli := PySem.F.called_set.init.lookup; have hbi := PySem.F.called_set.init.bind (.ref st.heap.objs.size)
      repeat (any_goals (first | assumption | wp_step))
      refine codeAny_mono (codeAny_call_builtin (R := wants (fun r st2 => r = .none ∧ ∃ hp tk, st2 = { st with heap := hp, toks := tk } ∧ hp.SetOf (PySem.strKind pr wo) st.heap.objs.size (met ss ss.length) (cntF ss ss.length) ∧
          (∀ b o, b < st.heap.objs.size → st.heap.get? b = some o → hp.get? b = some o)) EE) PySem.F.called_set.init.plain PySem.F.entry_set_init (check_set_init_1 hT ?_)) fun r2 st2 hr2 => ?_
      · obtain ⟨⟨oc, od, oda, osl⟩, hol, hcl, nl, hdl⟩ := hl
        simp only at hcl hdl
        subst hcl; subst hdl
        have hol' : (st.heap.push fresh).get? l = some { cls := .type "tuple", dict := od, data := .seq items nl, slots := osl } := Heap.get?_push_of_some _ hol
        have hsls := PySem.F.sub_tuple_set; have hslf := PySem.F.sub_tuple_frozenset
        have hne : (Value.type "tuple" == Value.type "dict") = false := by decide
        have hl1 : (st.heap.push fresh).IsTuple l items := ⟨_, hol', rfl, nl, rfl⟩
        unfold Builtin.«set.__init__» noKeywords Builtin.Frozenset.updateFrom
        generalize hPI : pyIter = PI
        wp_walk
        subst hPI
        refine wpAny_pyIter_tuple hl1 (wpAny_bind (wpAny_runValue ?_))
        have lS : l < st.heap.objs.size := Heap.lt_size hol
        have hh3 : Ar.in1.in1.in1.handled = none := by simp [hh]
        have psz : (st.heap.push fresh).objs.size = st.heap.objs.size + 1 := Heap.size_push ..
        have hneI : l ≠ (st.heap.push fresh).objs.size := fun e => by rw [psz] at e; exact absurd (e ▸ lS) (Nat.not_lt.mpr (Nat.le_succ _))
        have away : ∀ b, b < st.heap.objs.size → ¬ (b = st.heap.objs.size) ∧ ¬ (b = (st.heap.push fresh).objs.size) := fun b hb => ⟨Nat.ne_of_lt hb, fun e => by rw [psz] at e; exact absurd (e ▸ hb) (by exact Nat.not_lt.mpr (Nat.le_succ _))⟩
        have hSf : st.heap.objs.size ∉ [(st.heap.push fresh).objs.size, l] := by
          simp only [List.mem_cons, List.not_mem_nil, or_false, not_or]
          exact ⟨fun e => by rw [psz] at e; exact absurd e (Nat.ne_of_lt (Nat.lt_succ_self _)), fun e => (away l lS).1 e.symm⟩
        have hval : ∀ (i : Nat) (v : Value), items[i]? = some v → ∃ t, v = .str (ss.getD i Str.empty) t := fun i v hv => SS.strs_at hi i v (by rw [Array.getElem?_toList]; exact hv)
        refine put_texts ((Walks.tuple hh3 _ l hneI items).toS) st.heap.objs.size hSf ss hsz (by rw [← hsz]; exact hroom) hval items.size 0 _ (by omega) ⟨⟨_, Heap.get?_push_size _ rfl, rfl, rfl⟩, hl1.push _⟩ ?start fun st' hm hS' => ?stop
        case start =>
          exact SetOf_congr ((setObjOf_fresh (knd := PySem.strKind pr wo) led).setOf (Heap.get?_push_of_some _ hS) (by unfold scanBound; omega)) (fun _ => rfl) rfl
        case stop =>
          obtain ⟨hp, g', d', tk', os'⟩ := st'
          have eg : g' = st.gens := hm.gens
          have ed : d' = st.drawn := hm.drawn
          have eo : os' = st.os := hm.os
          subst eg; subst ed; subst eo
          show wpAny _ _ _ _ _ _
          refine wpAny_pure ?_
          show wpAny _ _ (ret Value.none) _ _ _
          rw [← hsz] at hS'
          refine wpAny_pure ⟨rfl, hp, tk', rfl, hS', fun b o hb e => hm.heap b o ?_ (Heap.get?_push_of_some _ (Heap.get?_push_of_some _ e))⟩
          simp only [List.mem_cons, List.not_mem_nil, or_false, not_or]; exact away b hb
      · rcases r2 with er | fl2
        · exact hr2
        · cases fl2 with
          | ret r =>
            obtain ⟨rfl, hp, tk, rfl, hS', hk'⟩ := hr2
            repeat (any_goals (first | assumption | wp_step))
            exact k _ _ hS' hk'
          | _ => exact hr2.elim
    | _ => exact hr.elim
end
end Ms
namespace Mi
open PySem L2 PySem.Spec PyProof.Rows
theorem strs?_map : ∀ {xs : List D} {ss : List Str}, strs? xs = some ss → xs = ss.map .str
  | [], _, h => by cases h; rfl
  | .str s :: r, ss, h => by
    unfold strs? at h
    simp only [Option.map_eq_some_iff] at h
    obtain ⟨q, hq, rfl⟩ := h
    rw [strs?_map hq]; rfl
  | .non :: _, _, h => by cases h
  | .bl _ :: _, _, h => by cases h
  | .int _ :: _, _, h => by cases h
  | .tup _ :: _, _, h => by cases h
  | .lst _ :: _, _, h => by cases h
  | .rng _ _ :: _, _, h => by cases h
  | .dic _ _ :: _, _, h => by cases h
  | .set _ :: _, _, h => by cases h
theorem RDs.strs {K : Fg} {H : Hp} : ∀ {ss : List Str} {vs : List V}, RDs K H (ss.map .str) vs → vs = ss.map V.str
  | [], _, h => by cases h; rfl
  | s :: r, _, h => by
    obtain ⟨v, vs, rfl, h1, h2⟩ := h
    cases h1
    rw [RDs.strs h2]; rfl
def tLsetX (K : Fg) (ta : TE) : TE := fun σ H Q => ta σ H fun x H1 => ∃ (l : Addr) (ss : List Str), x = .ref l ∧ SqT K H1 l (ss.map V.str) ∧ ss.length ≤ 1000 ∧ Q (.int (cntF ss ss.length)) H1
section
variable {X : L2.Cx} {G : Gd} {W : WX} {a : Expr} {f : Env → R T} {p p2 q pos : Pos}
theorem pe_lsetX {ta : TE} (hc : X.calm = true) (hg : Gl X "len") (hm : X.mg "len" = none) (hg2 : Gl X "set") (hm2 : X.mg "set" = none) (ha : PE X a ta) (na : starEach [a] X.env = (false, eval a X.env) :: starEach [] X.env) : PE X (.Call (.Name "len" p) [.Call (.Name "set" p2) [a] [] q] [] pos) (tLsetX X.K ta) := by
  refine ⟨fun pins s σ H Q I h => Call_ (ld_blt I hg hm boot_len (PyProof.Rows.callWith_builtin1 (PyProof.Rows.args_cons ?_ rfl) rfl rfl))⟩
  refine Call_ (ld_blt I hg2 hm2 boot_set (PyProof.Rows.callWith_type1 (PyProof.Rows.args_cons (thn (ha.run pins s σ H _ I h) fun v s1 ⟨x, H1, I1, r1, q1⟩ => PyProof.Rows.args_nil ?_) na) na rfl))
  obtain ⟨l, ss, rfl, hs, h1, q1⟩ := q1
  cases r1
  obtain ⟨its, r, pl, hz⟩ := I1.tuple hs
  have hle := Ms.cntF_le ss ss.length
  refine Ms.set_texts (I1.ok.hd hc) pl (by simpa using strsAre_of r) (by unfold scanBound; omega) fun h' tk hS hk => PyProof.Rows.args_nil ?_
  obtain ⟨o, es, ep, t, ho, hex, hd, _, _, _, hf, hn⟩ := hS
  have I2 : Inv X pins σ H1 { s1 with heap := h', toks := tk } := I1.kept fun b o e => hk b o (Heap.lt_size e) e
  exact call_len_set ho hex hd hf (by rw [hn]; omega) ⟨.int (cntF ss ss.length), H1, I2.tok _, ⟨_, by rw [hn]⟩, q1⟩
end
end Mi
end
section
set_option maxRecDepth 100000
/-! Mi10: isinstance, ranges, slices, places in trees. -/
namespace Mi
open PySem L2 PySem.Spec PyProof.Rows
section
variable {X : L2.Cx} {G : Gd} {W : WX} {a b c : Expr} {f g h : Env → R T} {pos : Pos}
theorem pm_gl {x : Str} {p : Pos} {gl : Str → Option D} (hg : Gl X x) (hd : (x == ("__debug__" : Str)) = false) (hf : ∀ d, gl x = some d → ∃ u v, X.mg x = some u ∧ RelV v u ∧ ∀ H, RD G.K H d v) : PE X (.Name x p) (tE G W TT fun e => leafR (gl x) e) := by
  cases q : gl x with
  | none => exact ⟨fun _ _ _ _ _ _ ⟨e, fps, re, pp⟩ => by dsimp only at pp; exact pp.elim⟩
  | some d =>
    obtain ⟨u, v, h1, h2, h3⟩ := hf d q
    exact (pm_cst (pe_glob hg h1 h2 hd) h3).im fun σ H Q ⟨e, fps, re, pp⟩ => ⟨e, fps, re, Post.mono pp fun i hi => nomatch hi⟩
theorem pm_rev (hk : X.K = G.K) {p1 p2 p3 : Pos} (ha : PE X a (tE G W TT f)) : PE X (.Subscript a (.Slice none none (some (.UnaryOp .USub (.Constant (.int 1) 0 p1) p2)) p3) pos) (tE G W TT fun e => (f e).bind fun x e1 => optR (dRev x.fz) e1) := by
  refine (pe_revD (ha.fz hk)).im fun σ H Q ⟨e, fps, re, p⟩ => ⟨e, fps, re, p.first .refl fun x e1 v H1 fps1 fp1 ex re1 r1 s1 p1 => ?_⟩
  rw [hk]
  cases q : dRev x.fz with
  | none => rw [q] at p1; exact p1.elim
  | some t =>
    rw [q] at p1
    exact ⟨_, t, r1.1, q, Post.res re1 p1⟩
theorem pm_lset (hk : X.K = G.K) (hc : X.calm = true) (hg : Gl X "len") (hm : X.mg "len" = none) (hg2 : Gl X "set") (hm2 : X.mg "set" = none) {p p2 q : Pos} (ha : PE X a (tE G W TT f)) (na : Nice a) : PE X (.Call (.Name "len" p) [.Call (.Name "set" p2) [a] [] q] [] pos) (tE G W TT fun e => (f e).bind fun x e1 => optR (dLset x.fz) e1) := by
  refine (pe_lsetX hc hg hm hg2 hm2 (ha.fz hk) (na.ns _ _)).im fun σ H Q ⟨e, fps, re, p⟩ => ⟨e, fps, re, p.first .refl fun x e1 v H1 fps1 fp1 ex re1 r1 s1 p1 => ?_⟩
  rw [hk]
  cases q : dLset x.fz with
  | none => rw [q] at p1; exact p1.elim
  | some t =>
    rw [q] at p1
    unfold dLset at q
    have hr := r1.1
    split at q
    · rename_i xs hx
      split at q
      · rename_i ss hss
        split at q <;> cases q
        rename_i hl
        rw [hx] at hr
        obtain ⟨l, vs, rfl, hs, hv⟩ := hr
        have e := strs?_map hss
        subst e
        cases hv.strs
        exact ⟨l, ss, rfl, hs, hl, (Post.res re1 p1).at rfl⟩
      · cases q
    · cases q
theorem pm_slc (hk : X.K = G.K) {lo hi : Option Expr} {fl fh : Env → R (Option Int)} {p2 : Pos} (ha : PE X a (tE G W TT f)) (hl : PO X lo (tOp' G W TT fl)) (hh : PO X hi (tOp' G W TT fh)) :
    PE X (.Subscript a (.Slice lo hi none p2) pos) (tE G W TT fun e => (f e).bind fun x e1 => (fl e1).bind fun l e2 => (fh e2).bind fun h e3 => optR (dSl x.fz l h) e3) := by
  refine (pe_slice sl_d (ha.fz hk) hl hh).im fun σ H Q ⟨e, fps, re, p⟩ => ⟨e, fps, re, p.first .refl fun x e1 v H1 fps1 fp1 ex re1 r1 s1 p1 =>
    ⟨e1, fps1, re1, p1.first .refl fun l e2 l' H2 fps2 fp2 ey re2 r2 s2 p2 => ⟨e2, fps2, re2, p2.first .refl fun hh e3 h' H3 fps3 fp3 ez re3 r3 s3 p3 => ?_⟩⟩⟩
  obtain ⟨rfl, _⟩ := r2
  obtain ⟨rfl, _⟩ := r3
  rw [hk]
  cases q : dSl x.fz l hh with
  | none => rw [q] at p3; exact p3.elim
  | some t =>
    rw [q] at p3
    exact ⟨_, t, (r1.1.fix (s2.fix re1)).fix (s3.fix re2), q, Post.res re3 p3⟩
/-! ### isinstance -/
def D.tyn : D → String
  | .non => "NoneType"
  | .bl _ => "bool"
  | .int _ => "int"
  | .str _ => "str"
  | .tup _ => "tuple"
  | .lst _ => "list"
  | _ => ""
theorem kit_d (d : D) (t : Ty) {r : Bool} (h : dIsi d [t] = some r) : kitB d.tyn t.id = some r := by
  have k : ∀ r', dIsi d [t] = some r' → kitB d.tyn t.id = some (dIs d t) ∧ r' = dIs d t := by
    intro r' h'
    cases d <;> simp only [dIsi, List.any_cons, List.any_nil, Bool.or_false, Option.some.injEq, reduceCtorEq] at h' <;> refine ⟨?_, h'.symm⟩ <;> cases t <;> simp only [D.tyn, Ty.id, dIs] <;> decide +kernel
  obtain ⟨k1, k2⟩ := k r h
  rw [k1, k2]
theorem RD.tyx {K : Fg} {H : Hp} {d : D} {v : V} {ts : List Ty} {r : Bool} (h : RD K H d v) (hr : dIsi d ts = some r) : TyX K H v (.type d.tyn) := by
  cases d with
  | non => cases h; exact .base .non
  | bl b => cases h; exact .base (.bl b)
  | int b => cases h; exact .base (.int b)
  | str b => cases h; exact .base (.str b)
  | tup xs =>
    obtain ⟨a, vs, rfl, (hs | ⟨o, hs⟩) | ⟨o, its, n, h1, h2, _⟩, _⟩ := h
    · exact .base (.tup hs)
    · exact .fTuple hs
    · exact .kTuple h1 h2
  | lst xs =>
    obtain ⟨a, vs, rfl, ⟨o, hs⟩ | ⟨its, n, hs, _⟩, _⟩ := h
    · exact .base (.frz hs)
    · exact .kList hs rfl
  | rng _ _ => cases hr
  | dic _ _ => cases hr
  | set _ => cases hr
theorem dIsi_one {d : D} {t : Ty} {ts : List Ty} {r : Bool} (h : dIsi d (t :: ts) = some r) : ∃ r1 r2, dIsi d [t] = some r1 ∧ dIsi d ts = some r2 ∧ r = (r1 || r2) := by
  cases d <;> simp only [dIsi, List.any_cons, List.any_nil, Bool.or_false, Option.some.injEq, reduceCtorEq] at h ⊢ <;> exact ⟨_, _, rfl, rfl, h.symm⟩
theorem kit_any {K : Fg} {d : D} : ∀ {ts : List Ty} {r : Bool}, dIsi d ts = some r → PySem.W.kitAny K (.type d.tyn) (ts.map fun t => Value.type t.id) = some r
  | [], r, h => by
    have : r = false := by cases d <;> simp [dIsi] at h <;> exact h
    subst this; rfl
  | t :: ts, r, h => by
    obtain ⟨r1, r2, h1, h2, rfl⟩ := dIsi_one h
    have ih := kit_any (K := K) h2
    exact kitAny_cons (kit_ty (kit_d d t h1)) (fun e => by rw [e, Bool.false_or]; exact ih) fun e => by rw [e]; rfl
theorem boot_isi : bootBuiltins "isinstance" = some (.builtin "isinstance") := by decide +kernel
theorem pa_tys {ts : List Ty} (hg : ∀ t ∈ ts, Gl X t.nm ∧ X.mg t.nm = none) : ∀ (as : As), PA X (toTys ts as).1 (fun _ H Q => Q (ts.map fun t => V.ty t.id) H) := by
  induction ts with
  | nil => exact fun as => pa_nil
  | cons t ts ih =>
    intro as
    rw [toTys]
    have ht := hg t (by simp)
    exact (pa_cons (pe_bltn (v := .ty t.id) ht.1 ht.2 (boot_Ty t) rfl (nm_Ty t).1 (nm_Ty t).2) (ih (fun u hu => hg u (by simp [hu])) as.tail) (nice_name.ns _ _)).im fun σ H Q h => h
theorem pm_isi (hk : X.K = G.K) {p : Pos} {ts : List Ty} (as : As) (hl : ts.length ≤ line) (hg0 : Gl X "isinstance") (hm0 : X.mg "isinstance" = none) (hg : ∀ t ∈ ts, Gl X t.nm ∧ X.mg t.nm = none) (ha : PE X a (tE G W TT f)) (hn : Nice a) :
    PE X (.Call (.Name "isinstance" p) [a, (toIsT ts as).1] [] pos) (tE G W TT fun e => (f e).bind fun x e1 => blR (dIsi x.fz ts) e1) := by
  have h2 : PA X [a, (toIsT ts as).1] (fun σ H Q => tF G W TT f σ H fun v H1 => (∃ t, ts = [t] ∧ Q [v, .ty t.id] H1) ∨ ((∀ t, ts ≠ [t]) ∧ ∀ q, H1 q = none → Q [v, .ref q] (upd H1 q (.tup (ts.map fun t => V.ty t.id))))) := by
    unfold toIsT
    split
    · rename_i t
      have ht := hg t (by simp)
      refine (pa_cons (ha.fz hk) (pa_cons (pe_bltn (v := .ty t.id) ht.1 ht.2 (boot_Ty t) rfl (nm_Ty t).1 (nm_Ty t).2) pa_nil (nice_name.ns _ _)) (hn.ns _ _)).im fun σ H Q ⟨e, fps, re, p⟩ => ⟨e, fps, re, p.imp fun x e1 v H1 fps1 fp1 ex re1 r1 s1 q => ?_⟩
      rcases q v H1 fps1 fp1 re1 r1 s1 with ⟨t', e', q'⟩ | ⟨n, _⟩
      · cases e'; exact q'
      · exact absurd rfl (n t)
    · rename_i hno
      refine (pa_cons (ha.fz hk) (pa_cons (pe_tup (pa_tys hg as.tail)) pa_nil rfl) (hn.ns _ _)).im fun σ H Q ⟨e, fps, re, p⟩ => ⟨e, fps, re, p.imp fun x e1 v H1 fps1 fp1 ex re1 r1 s1 q => ?_⟩
      refine ⟨by rw [List.length_map, sizeLine_eq]; exact hl, fun d hd => ?_⟩
      rcases q v H1 fps1 fp1 re1 r1 s1 with ⟨t', e', q'⟩ | ⟨n, q'⟩
      · exact absurd e' (hno t')
      · exact q' d hd
  have h3 : CallR X (.builtin "isinstance") (fun xs H Q => rIsi X.K xs H Q ∨ rIsiT X.K xs H Q) := CallR.cases fun xs H Q q => q.elim (fun q => ⟨_, call_isi, q⟩) fun q => ⟨_, call_isiT, q⟩
  refine (pe_callB h3 hg0 hm0 boot_isi h2 (by decide) (by decide) (hn.ns _ _) (star_any fun e he => ?_)).im fun σ H Q ⟨e, fps, re, p⟩ => ⟨e, fps, re, p.first .refl fun x e1 v H1 fps1 fp1 ex re1 r1 s1 p1 => ?_⟩
  · simp only [List.mem_singleton] at he; subst he; exact nice_isT ts as
  · rw [hk]
    cases q : dIsi x.fz ts with
    | none => rw [q] at p1; exact p1.elim
    | some r =>
      rw [q] at p1
      by_cases h1 : ∃ t, ts = [t]
      · obtain ⟨t, rfl⟩ := h1
        exact .inl ⟨t, rfl, .inl ⟨_, _, _, _, r, rfl, .ty _, r1.1.tyx q, kit_ty (kit_d _ t q), Post.leaf re1 p1 rfl⟩⟩
      · refine .inr ⟨fun t e => h1 ⟨t, e⟩, fun d hd => .inr ⟨_, d, _, _, _, r, rfl, upd_same, ?_, (r1.1.fix (fix_of (upd_old hd))).tyx q, kit_any q, ?_⟩⟩
        · have : ∀ ts : List Ty, Paired ClsV (ts.map fun t => V.ty t.id) (ts.map fun t => Value.type t.id) := fun ts => by
            induction ts with
            | nil => exact .nil
            | cons t ts ih => exact .cons (.ty _) ih
          exact this ts
        · exact (Post.res re1 p1) _ _ [] ⟨rfl, rfl⟩ .nil (fun _ h => nomatch h) (upd_old hd)
/-! ### a range as a value -/
def rRng (K : Fg) : List V → Hp → VK → Prop := fun xs H Q => ∃ ds d, RDs K H ds xs ∧ rngOf ds = some d ∧ RRes K (.leaf d) H Q
theorem cr_range1 : CallR X (.type "range") (fun vs H Q => ∃ j, vs = [V.int j] ∧ ∀ p, H p = none → Q (.ref p) (upd H p (.rng 0 j))) := by
  intro pins s σ H vs us Q I r h
  obtain ⟨j, rfl, q⟩ := h
  obtain ⟨u1, rfl, rj⟩ := (show Vals [V.int j] us from r).one
  obtain ⟨u, rfl⟩ := rj
  refine call_range_1 ⟨.ref s.heap.objs.size, upd H s.heap.objs.size (.rng 0 j), I.laid (t' := _) (fun b o e => Heap.get?_push_of_some _ e) (Nat.le_refl _) ?_, rfl, q _ (I.hok.fresh (Nat.le_refl _))⟩
  exact ⟨_, _, _, Heap.get?_push_size _ rfl⟩
theorem cr_rng : CallR X (.type "range") (rRng X.K) := by
  refine CallR.cases fun xs H Q h => ?_
  obtain ⟨ds, d, hd, he, hq⟩ := h
  unfold rngOf at he
  split at he
  · split at he <;> cases he
    rename_i j hj
    obtain ⟨v, rfl, hv⟩ := hd.one
    cases hv
    exact ⟨_, cr_range1, j, rfl, fun p hp => hq _ _ [] ⟨⟨p, j, rfl, upd_same, by rw [Int.sub_zero], by decide, by decide, by omega, by omega⟩, rfl⟩ .nil (fun _ h => nomatch h) (upd_old hp)⟩
  · split at he <;> cases he
    rename_i i j hj
    obtain ⟨v, u, rfl, hv, hu⟩ := hd.two
    cases hv; cases hu
    exact ⟨_, cr_range2, i, j, rfl, fun p hp => hq _ _ [] ⟨⟨p, j, rfl, upd_same, rfl, by omega, by omega, by omega, by omega⟩, rfl⟩ .nil (fun _ h => nomatch h) (upd_old hp)⟩
  · cases he
theorem pm_rg {es : List Expr} {e₀ : Expr} {p : Pos} {fs : Env → R (List T)} (hk : X.K = G.K) (hg : Gl X "range") (hm : X.mg "range" = none) (ha : PA X (e₀ :: es) (tEs G W TT fs)) (hn : ∀ e ∈ e₀ :: es, Nice e) :
    PE X (.Call (.Name "range" p) (e₀ :: es) [] pos) (tE G W TT fun e => (fs e).bind fun ts e1 => leafR (rngOf (T.fzs ts)) e1) := by
  refine (pe_callTy cr_rng hg hm boot_range (ha.fz hk) (by decide) (by decide) ((hn e₀ (by simp)).ns _ _) (star_any fun e he => hn e (by simp [he]))).im fun σ H Q ⟨e, fps, re, p⟩ => ⟨e, fps, re, p.first .refl fun ts e1 vs H1 fps1 fp1 ex re1 r1 s1 p1 => ?_⟩
  rw [hk]
  cases q : rngOf (T.fzs ts) with
  | none => rw [q] at p1; exact p1.elim
  | some t =>
    rw [q] at p1
    exact ⟨_, t, r1.1, q, Post.res re1 p1⟩
/-! ### places in trees -/
/-- the part at a place: it belongs to the root -/
theorem RT.at1 {K : Fg} {H : Hp} {t u : T} {v w : V} {fp : List Addr} {k : D} (r : RT K H t v fp) (hk : RD K H k w) (h : t.at1 k = some u) : (∃ d d', t = .leaf d ∧ u = .leaf d' ∧ dIx d k = some d' ∧ RD K H d v) ∨
    ∃ a vs i ts x f, t = .lst ts ∧ k = .int i ∧ v = .ref a ∧ H a = some (.lst vs) ∧ L2.atI vs i = some x ∧ RT K H u x f ∧ ∀ b ∈ f, b ∈ fp := by
  cases t with
  | leaf d =>
    simp only [T.at1, Option.map_eq_some_iff] at h
    obtain ⟨d', h1, rfl⟩ := h
    exact .inl ⟨d, d', rfl, rfl, h1, r.1⟩
  | lst ts =>
    cases k with
    | int i =>
      obtain ⟨a, vs, f, rfl, ha, hr, rfl⟩ := r
      have key : ∀ {ts : List T} {vs : List V} {f : List Addr} {j : Nat} {u : T}, RTs K H ts vs f → ts[j]? = some u → ts.length = vs.length ∧ ∃ x g, vs[j]? = some x ∧ RT K H u x g ∧ ∀ b ∈ g, b ∈ f := fun {ts} => by
        induction ts with
        | nil => intro vs f j u _ h; simp at h
        | cons t ts ih =>
          intro vs f j u h e
          obtain ⟨v, r, f1, f2, rfl, rfl, h1, h2⟩ := h
          have len : ∀ {ts : List T} {vs : List V} {f : List Addr}, RTs K H ts vs f → ts.length = vs.length := fun {ts} => by
            induction ts with
            | nil => intro vs f h; obtain ⟨rfl, _⟩ := h; rfl
            | cons t ts ih =>
              intro vs f h
              obtain ⟨v, r, f1, f2, rfl, rfl, h1, h2⟩ := h
              simp [ih h2]
          refine ⟨by simp [len h2], ?_⟩
          cases j with
          | zero => simp at e; subst e; exact ⟨v, f1, rfl, h1, fun b hb => by simp [hb]⟩
          | succ j =>
            obtain ⟨_, x, g, h3, h4, h5⟩ := ih h2 (by simpa using e)
            exact ⟨x, g, by simpa using h3, h4, fun b hb => by simp [h5 b hb]⟩
      simp only [T.at1] at h
      unfold L2.atI at h
      cases q : ixN ts.length i with
      | none => rw [q] at h; cases h
      | some j =>
        rw [q] at h
        obtain ⟨h1, x, g, h2, h3, h4⟩ := key hr h
        refine .inr ⟨a, vs, i, ts, x, g, rfl, rfl, rfl, ha, ?_, h3, fun b hb => by simp [h4 b hb]⟩
        unfold L2.atI
        rw [← h1, q]
        exact h2
    | _ => cases h
  | _ => cases h
/-- a part of a tree that may be changed alone -/
def Zip (K : Fg) (H : Hp) (t : T) (v : V) (fp : List Addr) (ks : List D) (u : T) (w : V) (f : List Addr) : Prop :=
  RT K H u w f ∧ f.Nodup ∧ (∀ b ∈ f, b ∈ fp) ∧ t.at ks = some u ∧ ∀ (H' : Hp) (u' : T) (f' : List Addr), (∀ a ∈ fp, a ∉ f → H' a = H a) → Fix H H' → RT K H' u' w f' → f'.Nodup → (∀ a ∈ f', a ∈ fp → a ∈ f) →
    ∃ t' fp', t.mod ks (fun _ => some u') = some t' ∧ RT K H' t' v fp' ∧ fp'.Nodup ∧ ∀ a ∈ fp', a ∈ fp ∨ a ∈ f'
theorem Zip.here {K : Fg} {H : Hp} {t : T} {v : V} {fp : List Addr} (r : RT K H t v fp) (nd : fp.Nodup) : Zip K H t v fp [] t v fp :=
  ⟨r, nd, fun _ h => h, by simp [T.at], fun H' u' f' _ _ r' nd' _ => ⟨u', f', by simp [T.mod], r', nd', fun _ h => .inr h⟩⟩
theorem Zip.stay {K : Fg} {H H1 : Hp} {t u : T} {v w : V} {fp f : List Addr} {ks : List D} (z : Zip K H t v fp ks u w f) (fx : Fix H H1) (k : ∀ a ∈ fp, H1 a = H a) : Zip K H1 t v fp ks u w f := by
  obtain ⟨r, nd, sub, at', md⟩ := z
  exact ⟨r.stay fx fun a ha => k a (sub a ha), nd, sub, at', fun H' u' f' k' fx' r' nd' d' => md H' u' f' (fun a ha hn => (k' a ha hn).trans (k a ha)) (fx.trans fx') r' nd' d'⟩
theorem at_append : ∀ (ks : List D) (t : T) (k : D), t.at (ks ++ [k]) = (t.at ks).bind fun u => u.at1 k
  | [], t, k => by
    simp only [List.nil_append, T.at, Option.bind_some]
    cases t.at1 k <;> simp [T.at]
  | k0 :: ks, t, k => by
    simp only [List.cons_append, T.at]
    cases t.at1 k0 with
    | none => rfl
    | some u => simpa using at_append ks u k
theorem mod_at : ∀ (ks : List D) (t u : T) (F : T → Option T), t.at ks = some u → t.mod ks F = (F u).bind fun u' => t.mod ks fun _ => some u'
  | [], t, u, F, h => by
    simp only [T.at, Option.some.injEq] at h
    subst h
    simp only [T.mod]
    cases F t <;> rfl
  | k :: ks, t, u, F, h => by
    cases t with
    | lst ts =>
      cases k with
      | int i =>
        simp only [T.at, T.at1, L2.atI] at h
        simp only [T.mod]
        cases q : ixN ts.length i with
        | none => rw [q] at h; cases h
        | some j =>
          rw [q] at h
          simp only [Option.bind_some] at h ⊢
          cases q2 : ts[j]? with
          | none => rw [q2] at h; cases h
          | some x =>
            rw [q2] at h
            simp only [Option.bind_some] at h ⊢
            rw [mod_at ks x u F h]
            cases F u <;> rfl
      | _ => simp [T.at, T.at1] at h
    | leaf d => simp only [T.mod]; cases F u <;> rfl
    | _ => simp [T.at, T.at1] at h
theorem mod_append : ∀ (ks : List D) (t : T) (k : D) (F : T → Option T), t.mod (ks ++ [k]) F = t.mod ks fun u => u.mod [k] F
  | [], t, k, F => by simp [T.mod]
  | k0 :: ks, t, k, F => by
    cases t with
    | lst ts =>
      cases k0 with
      | int i =>
        simp only [List.cons_append, T.mod]
        cases ixN ts.length i with
        | none => rfl
        | some j =>
          simp only [Option.bind_some]
          cases ts[j]? with
          | none => rfl
          | some x => simp only [Option.bind_some]; rw [mod_append ks x k F]
      | _ => simp [T.mod]
    | _ => simp [T.mod]
theorem RTs.len {K : Fg} {H : Hp} : ∀ {ts : List T} {vs : List V} {f : List Addr}, RTs K H ts vs f → ts.length = vs.length
  | [], _, _, h => by rw [h.1]; rfl
  | t :: ts, _, _, h => by
    obtain ⟨v, r, f1, f2, rfl, rfl, h1, h2⟩ := h
    simp [RTs.len h2]
/-- a tree in a row exchanged -/
theorem RTs.set {K : Fg} {H : Hp} : ∀ {ts : List T} {vs : List V} {f : List Addr} {j : Nat} {x : T}, RTs K H ts vs f → f.Nodup → ts[j]? = some x → ∃ w g, vs[j]? = some w ∧ RT K H x w g ∧ g.Nodup ∧ (∀ b ∈ g, b ∈ f) ∧
    ∀ (H' : Hp) (x' : T) (g' : List Addr), Fix H H' → (∀ a ∈ f, a ∉ g → H' a = H a) → RT K H' x' w g' → g'.Nodup → (∀ a ∈ g', a ∈ f → a ∈ g) → ∃ f', RTs K H' (ts.set j x') vs f' ∧ f'.Nodup ∧ ∀ a ∈ f', a ∈ f ∨ a ∈ g'
  | [], _, _, j, x, h, _, e => by simp at e
  | t :: ts, _, _, 0, x, h, nd, e => by
    obtain ⟨v, r, f1, f2, rfl, rfl, h1, h2⟩ := h
    obtain ⟨n1, n2, n3⟩ := List.nodup_append.mp nd
    simp at e; subst e
    refine ⟨v, f1, rfl, h1, n1, fun b hb => by simp [hb], fun H' x' g' fx k r' nd' d' => ⟨g' ++ f2, ⟨v, r, g', f2, rfl, rfl, r', h2.stay fx fun a ha => k a (by simp [ha]) fun z => n3 a z a ha rfl⟩, List.nodup_append.mpr ⟨nd', n2, fun a ha b hb e => ?_⟩, fun a ha => ?_⟩⟩
    · subst e
      exact n3 a (d' a ha (by simp [hb])) a hb rfl
    · rcases List.mem_append.mp ha with z | z
      · exact .inr z
      · exact .inl (by simp [z])
  | t :: ts, _, _, j + 1, x, h, nd, e => by
    obtain ⟨v, r, f1, f2, rfl, rfl, h1, h2⟩ := h
    obtain ⟨n1, n2, n3⟩ := List.nodup_append.mp nd
    obtain ⟨w, g, e1, r1, ng, sub, md⟩ := RTs.set h2 n2 (by simpa using e)
    refine ⟨w, g, by simpa using e1, r1, ng, fun b hb => by simp [sub b hb], fun H' x' g' fx k r' nd' d' => ?_⟩
    obtain ⟨f', h3, h4, h5⟩ := md H' x' g' fx (fun a ha hn => k a (by simp [ha]) hn) r' nd' fun a ha hf => d' a ha (by simp [hf])
    refine ⟨f1 ++ f', ⟨v, _, f1, f', rfl, rfl, h1.stay fx fun a ha => k a (by simp [ha]) fun z => n3 a ha a (sub a z) rfl, h3⟩, List.nodup_append.mpr ⟨n1, h4, fun a ha b hb e => ?_⟩, fun a ha => ?_⟩
    · subst e
      rcases h5 a hb with z | z
      · exact n3 a ha a z rfl
      · exact n3 a ha a (sub a (d' a z (by simp [ha]))) rfl
    · rcases List.mem_append.mp ha with z | z
      · exact .inl (by simp [z])
      · exact (h5 a z).imp (fun y => by simp [y]) id
theorem Zip.down {K : Fg} {H : Hp} {t : T} {v : V} {fp f : List Addr} {ks : List D} {ts : List T} {w : V} {i : Int} {x : T} (z : Zip K H t v fp ks (.lst ts) w f) (e : L2.atI ts i = some x) :
    ∃ a vs w' g, w = .ref a ∧ H a = some (.lst vs) ∧ L2.atI vs i = some w' ∧ Zip K H t v fp (ks ++ [.int i]) x w' g := by
  obtain ⟨r, nd, sub, at', md⟩ := z
  obtain ⟨a, vs, f0, rfl, ha, hr, rfl⟩ := r
  obtain ⟨na, nd0⟩ := List.nodup_cons.mp nd
  unfold L2.atI at e
  cases q : ixN ts.length i with
  | none => rw [q] at e; cases e
  | some j =>
    rw [q] at e
    obtain ⟨w', g, e1, r1, ng, sg, md2⟩ := RTs.set hr nd0 e
    refine ⟨a, vs, w', g, rfl, ha, ?_, r1, ng, fun b hb => sub b (by simp [sg b hb]), ?_, fun H' u' f' k fx r' nd' d' => ?_⟩
    · unfold L2.atI
      rw [← hr.len, q]
      exact e1
    · rw [at_append, at']
      simp only [Option.bind_some, T.at1, L2.atI, q]
      exact e
    · have ang : a ∉ g := fun y => na (sg a y)
      obtain ⟨f2, h1, h2, h3⟩ := md2 H' u' f' fx (fun b hb hn => k b (sub b (by simp [hb])) hn) r' nd' fun b hb hf => d' b hb (sub b (by simp [hf]))
      have na2 : a ∉ f2 := fun y => by
        rcases h3 a y with y | y
        · exact na y
        · exact ang (d' a y (sub a (by simp)))
      obtain ⟨t', fp', m1, m2, m3, m4⟩ := md H' (.lst (ts.set j u')) (a :: f2) (fun b hb hn => k b hb fun y => hn (by simp [sg b y])) fx ⟨a, vs, f2, rfl, by rw [k a (sub a (by simp)) ang]; exact ha, h1, rfl⟩ (List.nodup_cons.mpr ⟨na2, h2⟩) (fun b hb hf => by
        rcases List.mem_cons.mp hb with rfl | y
        · simp
        · rcases h3 b y with y | y
          · simp [y]
          · simp [sg b (d' b y hf)])
      refine ⟨t', fp', ?_, m2, m3, fun b hb => ?_⟩
      · rw [mod_append, mod_at ks t (.lst ts) _ at']
        simp only [T.mod, q, Option.bind_some]
        have e0 : ts[j]? = some x := e
        rw [e0]
        exact m1
      · rcases m4 b hb with y | y
        · exact .inl y
        · rcases List.mem_cons.mp y with rfl | y
          · exact .inl (sub b (by simp))
          · exact (h3 b y).imp (fun y => sub b (by simp [y])) id
end
end Mi
end
section
set_option maxRecDepth 100000
/-! Mi11: what is done at places. -/
namespace Mi
open PySem L2 PySem.Spec PyProof.Rows
section
variable {X : L2.Cx} {G : Gd} {W : WX} {a b c x : Expr} {f g h : Env → R T} {pos : Pos} {i : Nat}
/-- at a place: the root is apart from the names, the part in it -/
abbrev relP (G : Gd) (σ : L2.St) (i : Nat) : Hp → Fp → (T × List D × T) → V → List Addr → Prop := fun H' fps' p w fp => ∃ v0, σ[i]? = some (some v0) ∧ Res G.K H' fps' p.1 v0 fp ∧
  ((∃ f, Zip G.K H' p.1 v0 fp p.2.1 p.2.2 w f) ∨ ∃ d, p.2.2 = .leaf d ∧ RD G.K H' d w)
abbrev tPl (G : Gd) (W : WX) (i : Nat) (F : Env → R (T × List D × T)) : TE := fun σ H Q => tG G W TT (relP G σ i) F σ H Q
def pl0 (i : Nat) : Env → R (T × List D × T) := fun e => match getL e i with
  | some t => .ok (t, [], t) (e.set i none)
  | none => .bad
theorem pm_pl0 (ha : PE X a (tVar i)) : PE X a (tPl G W i (pl0 i)) := by
  refine ha.im fun σ H Q ⟨e, fps, re, p⟩ => ?_
  unfold pl0 at p
  cases q : getL e i with
  | none => rw [q] at p; exact p.elim
  | some t =>
    rw [q] at p
    obtain ⟨v, h1, h2⟩ := re.out q
    exact ⟨v, h1, p v H _ _ re.drop ⟨v, h1, h2, .inl ⟨_, .here h2.rt h2.nd⟩⟩ .take⟩
def plS (F : Env → R (T × List D × T)) (g : Env → R T) : Env → R (T × List D × T) := fun e => (F e).bind fun p e1 => (g e1).bind fun y e2 => match p.2.2.at1 y.fz with
  | some u => .ok (p.1, p.2.1 ++ [y.fz], u) e2
  | none => .bad
/-- a result that stays while an expression is worked out -/
theorem relP.stay {σ : L2.St} {e1 : Env} {H1 H2 : Hp} {fps1 fps2 : Fp} {p : T × List D × T} {w : V} {fp fp2 : List Addr} (re : RE G.K H1 e1 σ fps1) (r : relP G σ i H1 fps1 p w fp) (s : Stp TT H1 fps1 H2 fps2 fp2) : relP G σ i H2 fps2 p w fp ∧ ∀ a ∈ fp, a ∉ fp2 := by
  obtain ⟨v0, h1, h2, h3⟩ := r
  have k : ∀ a ∈ fp, H2 a = H1 a := s.at h2.rt.own h2.ap
  refine ⟨⟨v0, h1, h2.stay re s, ?_⟩, (s.ap h2.rt.own h2.ap).2⟩
  rcases h3 with ⟨f, z⟩ | ⟨d, e, r⟩
  · exact .inl ⟨f, z.stay (s.fix re) k⟩
  · exact .inr ⟨d, e, r.fix (s.fix re)⟩
/-- a temporary behind a step: what the first step made, put beside what the second made -/
theorem Post.both {α β γ : Type} {σ : L2.St} {H : Hp} {fps : Fp} {rel : Hp → Fp → γ → β → List Addr → Prop} {r : R α} {k : α → Env → R γ} {Q : β → Hp → Prop} {e1 : Env} {p : α} {H1 : Hp} {fps1 : Fp} {fp1 : List Addr}
    (pp : Post G W TT σ H fps rel (r.bind k) Q) (er : r = .ok p e1) (s1 : Stp TT H fps H1 fps1 fp1) : ∀ {δ ε : Type} {relB : Hp → Fp → δ → ε → List Addr → Prop} {r2 : R δ} {k2 : δ → Env → R γ} {Q2 : ε → Hp → Prop}, k p e1 = r2.bind k2 →
    (∀ y e2 w H2 fps2 fp2, r2 = .ok y e2 → RE G.K H2 e2 σ fps2 → relB H2 fps2 y w fp2 → Stp TT H1 fps1 H2 fps2 fp2 → Post G W TT σ H fps rel (k2 y e2) Q → Stp TT H fps H2 fps2 (fp1 ++ fp2) → Q2 w H2) → Post G W TT σ H1 fps1 relB r2 Q2 := by
  intro δ ε relB r2 k2 Q2 ek h
  rw [er] at pp
  have pp' : Post G W TT σ H fps rel (k p e1) Q := pp
  rw [ek] at pp'
  cases q : r2 with
  | ok y e2 =>
    rw [q] at pp'
    exact fun w H2 fps2 fp2 re2 r2' s2 => h y e2 w H2 fps2 fp2 q re2 r2' s2 pp' (s1.trans s2).tt
  | exc x e2 =>
    rw [q] at pp'
    exact fun d H' fps' re' s' => pp' d H' fps' re' ((s1.trans s').tt.less fun a ha => nomatch ha)
  | bad => rw [q] at pp'; exact pp'
theorem pm_plS (hk : X.K = G.K) {k : Expr} {F : Env → R (T × List D × T)} (hx : PE X x (tPl G W i F)) (hkk : PE X k (tE G W TT g)) (hn : Nice k) : PE X (.Subscript x k pos) (tPl G W i (plS F g)) := by
  have ix : IxR X (fun x y H Q => (∃ (t : T) (fp : List Addr) (d : D) (u : T), (∃ v f ks r, Zip X.K H r v fp ks t x f) ∧ RD X.K H d y ∧ t.at1 d = some u ∧ (∀ w, (∀ v ks r, (∃ f, Zip X.K H r v fp ks t x f) → ∃ f, Zip X.K H r v fp (ks ++ [d]) u w f) ∨ (∃ d', u = .leaf d' ∧ RD X.K H d' w) → Q w H)) ∨
      ∃ d0 d d', RD X.K H d0 x ∧ RD X.K H d y ∧ dIx d0 d = some d' ∧ ∀ w, RD X.K H d' w → Q w H) := by
    refine IxR.cases fun x y H Q h => ?_
    rcases h with ⟨t, fp, d, u, hz, hd, hu, hq⟩ | ⟨d0, d, d', h0, hd, he, hq⟩
    · obtain ⟨v, f, ks, r, z⟩ := hz
      rcases z.1.at1 hd hu with ⟨d0, d', rfl, rfl, h1, h2⟩ | ⟨a, vs, i, ts, w, f', rfl, rfl, rfl, ha, h1, h2, h3⟩
      · exact ⟨_, ix_d, d0, d, d', h2, hd, h1, fun w hw => hq w (.inr ⟨d', rfl, hw⟩)⟩
      · cases hd
        refine ⟨_, ix_list, a, vs, i, w, rfl, rfl, .of ha, h1, hq w (.inl fun v ks r ⟨f, z⟩ => ?_)⟩
        obtain ⟨a', vs', w', g, e1, e2, e3, z'⟩ := z.down (show L2.atI ts i = some u from hu)
        cases e1
        rw [ha] at e2; cases e2
        rw [h1] at e3; cases e3
        exact ⟨g, z'⟩
    · exact ⟨_, ix_d, d0, d, d', h0, hd, he, hq⟩
  refine (pe_ix ix hx (hkk.fz hk) hn.ix).im fun σ H Q ⟨e, fps, re, p⟩ => ⟨e, fps, re, p.first .refl fun q e1 w H1 fps1 fp1 eq re1 r1 s1 p1 => ⟨e1, fps1, re1, Post.both p eq s1 rfl fun y e2 w2 H2 fps2 fp2 ey re2 r2 s2 p2 s12 => ?_⟩⟩
  obtain ⟨⟨v0, h1, h2, h3⟩, ap2⟩ := r1.stay re1 s2
  obtain ⟨ry, rfl⟩ := r2
  rw [List.append_nil] at s12
  split at p2
  · rename_i u hu
    rw [hk]
    rcases h3 with ⟨f, z⟩ | ⟨d0, e0, rd⟩
    · refine .inl ⟨q.2.2, fp1, y.fz, u, ⟨v0, f, _, _, z⟩, ry, hu, fun w' hw => p2 w' H2 fps2 fp1 re2 ⟨v0, h1, h2, ?_⟩ s12⟩
      rcases hw with hw | hw
      · exact .inl (hw v0 _ _ ⟨f, z⟩)
      · exact .inr hw
    · rw [e0] at hu
      simp only [T.at1, Option.map_eq_some_iff] at hu
      obtain ⟨d', hd', rfl⟩ := hu
      exact .inr ⟨d0, y.fz, d', rd, ry, hd', fun w' hw => p2 w' H2 fps2 fp1 re2 ⟨v0, h1, h2, .inr ⟨d', rfl, hw⟩⟩ s12⟩
  · exact p2.elim
theorem R.bind_assoc {α β γ : Type} (r : R α) (k : α → Env → R β) (k2 : β → Env → R γ) : (r.bind k).bind k2 = r.bind fun a e => (k a e).bind k2 := by cases r <;> rfl
end
end Mi
end
section
set_option maxRecDepth 100000
/-! Mi12: what is done at places, the rest. -/
namespace Mi
open PySem L2 PySem.Spec PyProof.Rows
section
variable {X : L2.Cx} {G : Gd} {W : WX} {a b c x : Expr} {f g h : Env → R T} {pos : Pos} {i : Nat}
/-- the root put back -/
theorem relP.back {σ : L2.St} {H H1 : Hp} {fps fps1 : Fp} {e1 : Env} {p : T × List D × T} {w : V} {fp : List Addr} {d : D} {v : V} {Q : VK} (re : RE G.K H1 e1 σ fps1) (r : relP G σ i H1 fps1 p w fp) (s : Stp TT H fps H1 fps1 fp)
    (pp : Post G W TT σ H fps (relT G) (.ok (.leaf d) (e1.set i (some p.1))) Q) (hv : RD G.K H1 d v) : Q v H1 := by
  obtain ⟨v0, h1, h2, _⟩ := r
  exact pp v H1 (updF fps1 i fp) [] (h2.put re h1) (Res.leaf hv) (Stp.give (fp2 := []) (by rw [List.append_nil]; exact s))
theorem relP.rv {σ : L2.St} {H1 : Hp} {fps1 : Fp} {p : T × List D × T} {w : V} {fp : List Addr} (r : relP G σ i H1 fps1 p w fp) : RV G.K H1 p.2.2.fz w := by
  obtain ⟨v0, h1, h2, ⟨f, z⟩ | ⟨d, e, rd⟩⟩ := r
  · exact z.1.rv
  · rw [e]; exact rd.rv
theorem pm_pk {F : Env → R (T × List D × T)} (hx : PE X x (tPl G W i F)) : PE X x (tE G W TT fun e => (F e).bind fun p e1 => (match p.2.2 with
      | .leaf d => .ok (.leaf d) (e1.set i (some p.1))
      | _ => .bad)) := by
  refine hx.im fun σ H Q ⟨e, fps, re, p⟩ => ⟨e, fps, re, ?_⟩
  dsimp only at p
  cases q : F e with
  | ok q1 e1 =>
    rw [q] at p
    refine fun w H1 fps1 fp1 re1 r1 s1 => ?_
    have p' : Post G W TT σ H fps (relT G) (match q1.2.2 with
      | .leaf d => .ok (.leaf d) (e1.set i (some q1.1))
      | _ => .bad) Q := p
    split at p'
    · rename_i d hd
      have rd : RD G.K H1 d w := by
        obtain ⟨v0, h1, h2, ⟨f, z⟩ | ⟨d', e', rd⟩⟩ := r1
        · have := z.1; rw [hd] at this; exact this.1
        · rw [hd] at e'; cases e'; exact rd
      exact r1.back re1 s1 p' rd
    · exact p'.elim
  | exc _ _ => rw [q] at p; exact p
  | bad => rw [q] at p; exact p
/-- a new result, the root put back -/
theorem relP.res {σ : L2.St} {H H1 : Hp} {fps fps1 : Fp} {e1 : Env} {p : T × List D × T} {w : V} {fp : List Addr} {t : T} {Q : VK} (re : RE G.K H1 e1 σ fps1) (r : relP G σ i H1 fps1 p w fp) (s : Stp TT H fps H1 fps1 fp)
    (pp : Post G W TT σ H fps (relT G) (.ok t (e1.set i (some p.1))) Q) : RRes G.K t H1 Q := by
  obtain ⟨v0, h1, h2, _⟩ := r
  exact Post.res (h2.put re h1) (Post.on (l := Le.refl) (Stp.give (fp2 := []) (by rw [List.append_nil]; exact s)) pp)
theorem RTs.unl : ∀ {ts : List T} {ds : List D} {vs : List V} {fp : List Addr} {K : Fg} {H : Hp}, unl ts = some ds → RTs K H ts vs fp → RDs K H ds vs
  | [], _, _, _, _, _, h, r => by cases h; exact r.1
  | .leaf d :: ts, ds, _, _, _, _, h, r => by
    unfold Mi.unl at h
    simp only [Option.map_eq_some_iff] at h
    obtain ⟨q, hq, rfl⟩ := h
    obtain ⟨v, vs, g1, g2, rfl, rfl, h1, h2⟩ := r
    exact ⟨v, vs, rfl, h1.1, RTs.unl hq h2⟩
  | .lst _ :: _, _, _, _, _, _, h, _ => by cases h
  | .dic _ _ :: _, _, _, _, _, _, h, _ => by cases h
  | .set _ :: _, _, _, _, _, _, h, _ => by cases h
theorem pm_psl {F : Env → R (T × List D × T)} {k : Int} {p1 p2 : Pos} (hk : X.K = G.K) (hx : PE X x (tPl G W i F)) : PE X (.Subscript x (.Slice (some (.Constant (.int k) 0 p1)) none none p2) pos) (tE G W TT fun e => (F e).bind fun p e1 => (match p.2.2 with
      | .lst ts => (match unl ts with
        | some ds => .ok (.lst (leafs (cut ds (some k) none))) (e1.set i (some p.1))
        | none => .bad)
      | _ => .bad)) := by
  refine (pe_slice sl_list hx (po_some pe_int) po_none).im fun σ H Q ⟨e, fps, re, p⟩ => ⟨e, fps, re, ?_⟩
  dsimp only at p
  cases q : F e with
  | ok q1 e1 =>
    rw [q] at p
    refine fun w H1 fps1 fp1 re1 r1 s1 => ?_
    have p' : Post G W TT σ H fps (relT G) (match q1.2.2 with
      | .lst ts => (match unl ts with
        | some ds => .ok (.lst (leafs (cut ds (some k) none))) (e1.set i (some q1.1))
        | none => .bad)
      | _ => .bad) Q := p
    split at p'
    · rename_i ts hts
      split at p'
      · rename_i ds hds
        have hq := r1.res re1 s1 p'
        obtain ⟨v0, h1, h2, ⟨f, z⟩ | ⟨d', e', rd⟩⟩ := r1
        · have z1 := z.1
          rw [hts] at z1
          obtain ⟨a, vs, g, rfl, ha, r, rfl⟩ := z1
          refine ⟨k, rfl, a, vs, rfl, .inl (.of ha), fun p hp => hq.newL ((RTs.unl hds r).cut (some k) none) hp⟩
        · rw [hts] at e'; cases e'
      · exact p'.elim
    · exact p'.elim
  | exc _ _ => rw [q] at p; exact p
  | bad => rw [q] at p; exact p
theorem pm_vb {F : Env → R (T × List D × T)} {p0 : Pos} (hk : X.K = G.K) (hc : X.calm = true) (hu : X.A.units + 65 < cLine) (k : B) (hg : Gl X k.nm) (hm : X.mg k.nm = none) (hx : PE X x (tPl G W i F)) (hn : Nice x) :
    PE X (.Call (.Name k.nm p0) [x] [] pos) (tE G W TT fun e => (F e).bind fun p e1 => optR (db k [p.2.2.fz]) (e1.set i (some p.1))) := by
  refine (pe_callB (cr_db hc hu k) hg hm (boot_B k) (pa_cons hx pa_nil (hn.ns _ _)) (nm_B k).1 (nm_B k).2 (hn.ns _ _) rfl).im fun σ H Q ⟨e, fps, re, p⟩ => ⟨e, fps, re, ?_⟩
  dsimp only at p
  cases q : F e with
  | ok q1 e1 =>
    rw [q] at p
    refine fun w H1 fps1 fp1 re1 r1 s1 => ?_
    have p' : Post G W TT σ H fps (relT G) (optR (db k [q1.2.2.fz]) (e1.set i (some q1.1))) Q := p
    rw [hk]
    cases y : db k [q1.2.2.fz] with
    | none => rw [y] at p'; exact p'.elim
    | some t =>
      rw [y] at p'
      exact ⟨[q1.2.2.fz], t, ⟨w, [], rfl, r1.rv, rfl⟩, y, r1.res re1 s1 p'⟩
  | exc _ _ => rw [q] at p; exact p
  | bad => rw [q] at p; exact p
theorem pm_vcmp {F : Env → R (T × List D × T)} (hk : X.K = G.K) (hu : X.A.units + 65 < cLine) (o : OC) (hx : PE X x (tPl G W i F)) (ha : PE X a (tE G W TT g)) (hm : behindInMarks o.op a = false) :
    (PE X (.Compare x [o.op] [a] pos) (tE G W TT fun e => (F e).bind fun p e1 => (g e1).bind fun y e2 => blR (dc o p.2.2.fz y.fz) (e2.set i (some p.1)))) ∧
    PT X (.Compare x [o.op] [a] pos) (tT G W TT fun e => (F e).bind fun p e1 => (g e1).bind fun y e2 => blR (dc o p.2.2.fz y.fz) (e2.set i (some p.1))) := by
  have k : ∀ σ H Q, tE G W TT (fun e => (F e).bind fun p e1 => (g e1).bind fun y e2 => blR (dc o p.2.2.fz y.fz) (e2.set i (some p.1))) σ H Q → tOp (rDc X.K o) (tPl G W i F) (tF G W TT g) σ H Q := by
    refine fun σ H Q ⟨e, fps, re, p⟩ => ⟨e, fps, re, p.first .refl fun q e1 w H1 fps1 fp1 eq re1 r1 s1 p1 => ⟨e1, fps1, re1, Post.both p eq s1 rfl fun y e2 w2 H2 fps2 fp2 ey re2 r2 s2 p2 s12 => ?_⟩⟩
    obtain ⟨r3, _⟩ := r1.stay re1 s2
    obtain ⟨ry, rfl⟩ := r2
    rw [List.append_nil] at s12
    rw [hk]
    cases z : dc o q.2.2.fz y.fz with
    | none => rw [z] at p2; exact p2.elim
    | some t =>
      rw [z] at p2
      exact ⟨_, _, t, r3.rv, ry.rv, z, r3.back re2 s12 p2 rfl⟩
  exact ⟨(pe_cmpR (op_dc hu o) hx (ha.fz hk) hm).im k, (pt_cmpR (op_dc hu o) hx (ha.fz hk) hm).im (tT_op k)⟩
theorem pm_vin {F : Env → R (T × List D × T)} (hk : X.K = G.K) (hu : X.A.units + 65 < cLine) (o : OC) (ha : PE X a (tE G W TT g)) (hx : PE X x (tPl G W i F)) (hm : behindInMarks o.op x = false) :
    (PE X (.Compare a [o.op] [x] pos) (tE G W TT fun e => (g e).bind fun y e1 => (F e1).bind fun p e2 => blR (dc o y.fz p.2.2.fz) (e2.set i (some p.1)))) ∧
    PT X (.Compare a [o.op] [x] pos) (tT G W TT fun e => (g e).bind fun y e1 => (F e1).bind fun p e2 => blR (dc o y.fz p.2.2.fz) (e2.set i (some p.1))) := by
  have k : ∀ σ H Q, tE G W TT (fun e => (g e).bind fun y e1 => (F e1).bind fun p e2 => blR (dc o y.fz p.2.2.fz) (e2.set i (some p.1))) σ H Q → tOp (rDc X.K o) (tF G W TT g) (tPl G W i F) σ H Q := by
    refine fun σ H Q ⟨e, fps, re, p⟩ => ⟨e, fps, re, p.first .refl fun y e1 w H1 fps1 fp1 eq re1 r1 s1 p1 => ⟨e1, fps1, re1, ?_⟩⟩
    cases q : F e1 with
    | ok q1 e2 =>
      rw [q] at p1
      refine fun w2 H2 fps2 fp2 re2 r2 s2 => ?_
      have p' : Post G W TT σ H1 fps1 (relT G) (blR (dc o y.fz q1.2.2.fz) (e2.set i (some q1.1))) Q := p1
      rw [hk]
      cases z : dc o y.fz q1.2.2.fz with
      | none => rw [z] at p'; exact p'.elim
      | some t =>
        rw [z] at p'
        exact ⟨_, _, t, (r1.1.fix (s2.fix re1)).rv, r2.rv, z, r2.back re2 s2 p' rfl⟩
    | exc _ _ => rw [q] at p1; exact p1
    | bad => rw [q] at p1; exact p1
  exact ⟨(pe_cmpR (op_dc hu o) (ha.fz hk) hx hm).im k, (pt_cmpR (op_dc hu o) (ha.fz hk) hx hm).im (tT_op k)⟩
/-! ### methods that change a list -/
theorem mt_extendF : MtM X "list.extend" (fun x vs H Q => ∃ l b xs zs, x = .ref l ∧ vs = [.ref b] ∧ H l = some (.lst xs) ∧ FzL X.K H b zs ∧ xs.length + zs.length ≤ sizeLine ∧ Q .non (upd H l (.lst (xs ++ zs)))) := by
  intro pins s σ H x vs v us Q I rx rv h
  obtain ⟨l, b, xs, zs, rfl, rfl, hH, hB, hz, q⟩ := h
  cases rx
  obtain ⟨u, rfl, ru⟩ := rv.one
  cases ru
  obtain ⟨z, its, n, r, hl, e⟩ := I.lstM hH
  obtain ⟨z2, its2, n2, r2, hl2, e2⟩ := lstZ I hB
  have hsz : its.toArray.size + its2.toArray.size ≤ sizeLine := by rw [List.size_toArray, List.size_toArray]; omega
  have hlong : ¬ (!its.toArray.isEmpty && Builtin.List.listTooLong (its.toArray.size + its2.toArray.size)) = true := by
    rw [notLongL hsz, Bool.and_false]
    exact Bool.false_ne_true
  refine call_meets F.slot_list_extend ⟨_, e, rfl⟩ F.entry_list_extend (F.args_list_extend_2 _ _)
    (AutoSeq1.list_extend_list_list_0 l its.toArray n b its2.toArray n2 hlong (by rw [List.size_toArray]; omega) (by omega)) ⟨e, e2, ?_⟩
  refine ⟨.non, _, I.lset (its' := its ++ its2) hH e (by simp) (r.append r2) ?_, rfl, q⟩
  rw [List.length_append]
  omega
theorem RTs.append {K : Fg} {H : Hp} : ∀ {ts us : List T} {vs ws : List V} {f g : List Addr}, RTs K H ts vs f → RTs K H us ws g → RTs K H (ts ++ us) (vs ++ ws) (f ++ g)
  | [], us, _, ws, _, g, h, h' => by obtain ⟨rfl, rfl⟩ := h; exact h'
  | t :: ts, us, _, ws, _, g, h, h' => by
    obtain ⟨v, r, f1, f2, rfl, rfl, h1, h2⟩ := h
    exact ⟨v, r ++ ws, f1, f2 ++ g, rfl, by rw [List.append_assoc], h1, RTs.append h2 h'⟩
/-- a part of a name's tree is changed -/
theorem mt_core {σ : L2.St} {H H2 : Hp} {fps fps2 : Fp} {e2 : Env} {t t' u u' : T} {v0 : V} {l : Addr} {fp f fq f' : List Addr} {ks : List D} {ob : HO} {Q : VK} {rv : V} {r : D} (re2 : RE G.K H2 e2 σ fps2) (hv : σ[i]? = some (some v0)) (root : Res G.K H2 fps2 t v0 fp) (z : Zip G.K H2 t v0 fp ks u (.ref l) f)
    (hm : t.mod ks (fun _ => some u') = some t') (lf : l ∈ f) (ho : ∃ o, H2 l = some o ∧ isOwn o = true) (hu : RT G.K (upd H2 l ob) u' (.ref l) f') (nd : f'.Nodup) (sub : ∀ a ∈ f', a ∈ f ∨ (a ∈ fq ∧ a ∉ fp ∧ ∀ j, a ∉ fps2 j)) (s : Stp TT H fps H2 fps2 (fp ++ fq))
    (hr : RD G.K (upd H2 l ob) r rv) (pp : Post G W TT σ H fps (relT G) (.ok (.leaf r) (e2.set i (some t'))) Q) : Q rv (upd H2 l ob) := by
  obtain ⟨o, ho, hy⟩ := ho
  have lfp : l ∈ fp := z.2.2.1 l lf
  have fx : Fix H2 (upd H2 l ob) := fun b w hb hw => by
    by_cases e : b = l
    · subst e; rw [ho] at hb; cases hb; rw [hy] at hw; cases hw
    · rw [upd_ne e]; exact hb
  obtain ⟨t2, fp', m1, m2, m3, m4⟩ := z.2.2.2.2 (upd H2 l ob) u' f' (fun a ha hn => upd_ne fun e => hn (e ▸ lf)) fx hu nd fun a ha hf => by
    rcases sub a ha with y | ⟨_, y, _⟩
    · exact y
    · exact (y hf).elim
  rw [m1] at hm
  cases hm
  have re3 : RE G.K (upd H2 l ob) e2 σ fps2 := re2.stay fx fun j a ha => upd_ne fun e => root.ap l lfp j (e ▸ ha)
  have m5 : ∀ a ∈ fp', a ∈ fp ∨ (a ∈ fq ∧ ∀ j, a ∉ fps2 j) := fun a ha => by
    rcases m4 a ha with y | y
    · exact .inl y
    · rcases sub a y with y | ⟨y, _, y2⟩
      · exact .inl (z.2.2.1 a y)
      · exact .inr ⟨y, y2⟩
  have re4 := re3.put hv m2 m3 fun a ha j _ => by
    rcases m5 a ha with y | ⟨_, y⟩
    · exact root.ap a y j
    · exact y j
  refine pp rv _ _ [] re4 (Res.leaf hr) (.mk' (fun a w ha hn => ?_) fun a ha => ?_)
  · rw [upd_ne]
    · exact s.keep a w ha hn
    · intro e
      subst e
      rcases s.new a (.inl (List.mem_append_left _ lfp)) with ⟨j, hj⟩ | hj
      · exact hn j hj
      · rw [ha] at hj; cases hj
  · rcases ha with ha | ⟨j, ha⟩
    · cases ha
    · by_cases e : j = i
      · subst e
        rw [updF_eq] at ha
        rcases m5 a ha with y | ⟨y, _⟩
        · exact s.new a (.inl (List.mem_append_left _ y))
        · exact s.new a (.inl (List.mem_append_right _ y))
      · rw [updF_ne e] at ha
        exact s.new a (.inr ⟨j, ha⟩)
theorem mt_core0 {σ : L2.St} {H H2 : Hp} {fps fps2 : Fp} {e2 : Env} {t t' u' r : T} {ts us : List T} {v0 w : V} {vs : List V} {fp f fq : List Addr} {ks : List D} {Q : VK} (re2 : RE G.K H2 e2 σ fps2) (hv : σ[i]? = some (some v0)) (root : Res G.K H2 fps2 t v0 fp) (z : Zip G.K H2 t v0 fp ks (.lst ts) w f)
    (hu : Ress G.K H2 fps2 us vs fq) (ap : ∀ a ∈ fp, a ∉ fq) (hs : mtSem 0 (.lst ts) us = some (u', r)) (hm : t.mod ks (fun _ => some u') = some t') (s : Stp TT H fps H2 fps2 (fp ++ fq)) (pp : Post G W TT σ H fps (relT G) (.ok r (e2.set i (some t'))) Q) : rAppend w vs H2 Q := by
  obtain ⟨l, xs, f0, rfl, hl, hr, rfl⟩ := id z.1
  cases us with
  | nil => cases hs
  | cons x rest =>
    cases rest with
    | cons _ _ => cases hs
    | nil =>
      simp only [mtSem] at hs
      split at hs <;> cases hs
      rename_i hz
      obtain ⟨y, r', f1, f2, rfl, rfl, h1, rfl, rfl⟩ := hu.rt
      rw [List.append_nil] at *
      have n1 := z.2.1
      obtain ⟨n2, n3⟩ := List.nodup_cons.mp n1
      have lfp : l ∈ fp := z.2.2.1 l (by simp)
      have fx : Fix H2 (upd H2 l (.lst (xs ++ [y]))) := fun b w hb hw => by
        by_cases e : b = l
        · subst e; rw [hl] at hb; cases hb; cases hw
        · rw [upd_ne e]; exact hb
      refine ⟨l, xs, y, rfl, rfl, hl, by rw [← hr.len, sizeLine_eq]; exact hz, mt_core (r := .non) re2 hv root z hm (by simp) ⟨_, hl, rfl⟩ (f' := l :: (f0 ++ f1)) (fq := f1) ⟨l, xs ++ [y], f0 ++ f1, rfl, upd_same, RTs.append (hr.stay fx fun a ha => upd_ne fun e => n2 (e ▸ ha)) ⟨y, [], f1, [], rfl, by simp, h1.stay fx fun a ha => upd_ne fun e => ap l lfp (e ▸ ha), rfl, rfl⟩, rfl⟩ ?_ ?_ s rfl pp⟩
      · refine List.nodup_cons.mpr ⟨fun q => ?_, List.nodup_append.mpr ⟨n3, by simpa using hu.nd, fun a ha b hb e => ?_⟩⟩
        · rcases List.mem_append.mp q with q | q
          · exact n2 q
          · exact ap l lfp q
        · subst e
          exact ap a (z.2.2.1 a (by simp [ha])) hb
      · intro a ha
        rcases List.mem_cons.mp ha with rfl | ha
        · exact .inl (by simp)
        · rcases List.mem_append.mp ha with ha | ha
          · exact .inl (by simp [ha])
          · exact .inr ⟨ha, fun q => ap a q ha, fun j => hu.ap a (by simpa using ha) j⟩
theorem mt_core1 {σ : L2.St} {H H2 : Hp} {fps fps2 : Fp} {e2 : Env} {t t' u' r : T} {ts us : List T} {v0 w : V} {vs : List V} {fp f : List Addr} {ks : List D} {Q : VK} (re2 : RE G.K H2 e2 σ fps2) (hv : σ[i]? = some (some v0)) (root : Res G.K H2 fps2 t v0 fp) (z : Zip G.K H2 t v0 fp ks (.lst ts) w f)
    (hu : RDs G.K H2 (T.fzs us) vs) (hs : mtSem 1 (.lst ts) us = some (u', r)) (hm : t.mod ks (fun _ => some u') = some t') (s : Stp TT H fps H2 fps2 fp) (pp : Post G W TT σ H fps (relT G) (.ok r (e2.set i (some t'))) Q) :
    ∃ l b xs zs, w = .ref l ∧ vs = [.ref b] ∧ H2 l = some (.lst xs) ∧ FzL G.K H2 b zs ∧ xs.length + zs.length ≤ sizeLine ∧ Q .non (upd H2 l (.lst (xs ++ zs))) := by
  obtain ⟨l, xs, f0, rfl, hl, hr, rfl⟩ := id z.1
  cases us with
  | nil => cases hs
  | cons x rest =>
    cases rest with
    | cons _ _ => cases hs
    | nil =>
      simp only [mtSem] at hs
      split at hs
      · rename_i ds hd
        split at hs <;> cases hs
        rename_i hz
        have hu' : RDs G.K H2 [x.fz] vs := hu
        rw [hd] at hu'
        obtain ⟨y, rfl, b, zs, rfl, hb, hy⟩ := hu'.one
        · have n1 := z.2.1
          obtain ⟨n2, n3⟩ := List.nodup_cons.mp n1
          have fx : Fix H2 (upd H2 l (.lst (xs ++ zs))) := fun b w hb hw => by
            by_cases e : b = l
            · subst e; rw [hl] at hb; cases hb; cases hw
            · rw [upd_ne e]; exact hb
          refine ⟨l, b, xs, zs, rfl, rfl, hl, hb, by rw [← hr.len, hy.length, sizeLine_eq]; exact hz, mt_core (r := .non) re2 hv root z hm (by simp) ⟨_, hl, rfl⟩ (f' := l :: f0) (fq := []) ⟨l, xs ++ zs, f0, rfl, upd_same, ?_, rfl⟩ n1 (fun a ha => .inl ha) (by rw [List.append_nil]; exact s) rfl pp⟩
          have := RTs.append (hr.stay fx fun a ha => upd_ne fun e => n2 (e ▸ ha)) (RDs.fix fx hy).rts
          rw [List.append_nil] at this
          exact this
      · cases hs
theorem tyL {K : Fg} {H : Hp} {l : Addr} {xs : List V} (h : H l = some (.lst xs)) : tyV K "list" (.ref l) H := .inl ⟨rfl, xs, .of h⟩
def mtF (o i : Nat) (F : Env → R (T × List D × T)) (fs : Env → R (List T)) : Env → R T := fun e => (F e).bind fun p e1 => (match p.2.2 with
      | .lst ts => (fs e1).bind fun us e2 => (match mtSem o (.lst ts) us with
        | some (u', r) => (match p.1.mod p.2.1 fun _ => some u' with
          | some t' => .ok r (e2.set i (some t'))
          | none => .bad)
        | none => .bad)
      | _ => .bad)
theorem pm_mt {F : Env → R (T × List D × T)} {fs : Env → R (List T)} {es : List Expr} {p2 : Pos} (o : Nat) (hk : X.K = G.K) (hx : PE X x (tPl G W i F)) (ha : PA X (a :: es) (tEs G W TT fs)) (hn : ∀ e ∈ a :: es, Nice e) (hb : attributeBase x (mtNm o) X.env (eval x X.env) = eval x X.env) (hl : (p2.endLine == pos.line) = true) (h30 : (a :: es).length < 30) (ho : o = 0 ∨ o = 1) :
    PE X (.Call (.Attribute x (mtNm o) p2) (a :: es) [] pos) (tE G W TT (mtF o i F fs)) := by
  have hfew : ((backTo pos (starEach (a :: es) X.env)).all (fun x => !x.1) && (backToKw pos (keywordEach [] X.env)).all (fun x => x.1.isSome)
      && decide ((a :: es).length + ([] : List Keyword).length + (if ([] : List Keyword).isEmpty then 0 else 1) < 30)) = true := by
    have h1 := star_any (pos := pos) (env := X.env) hn
    have h2 : (backTo pos (starEach (a :: es) X.env)).all (fun x => !x.1) = true := by
      rw [List.all_eq_not_any_not]
      simpa using h1
    rw [h2]
    simpa [backToKw, keywordEach] using h30
  rcases ho with rfl | rfl
  · refine (pe_bm PySem.F.plainAttrs_list PySem.F.slot_list_append PySem.F.type_list_append mt_append hx ha hb hfew hl ((hn a (by simp)).ns _ _) (star_any fun e he => hn e (by simp [he]))).im fun σ H Q ⟨e, fps, re, p⟩ => ⟨e, fps, re, p.first .refl fun q e1 w H1 fps1 fp1 eq re1 r1 s1 p1 => ?_⟩
    split at p1
    · rename_i ts hq
      obtain ⟨v0, hv, root, ⟨f, z⟩ | ⟨d, e', _⟩⟩ := id r1
      · obtain ⟨l, xs, f0, rfl, hl, _, _⟩ := (show RT G.K H1 (.lst ts) w f from hq ▸ z.1)
        refine ⟨tyL hl, e1, fps1, re1, Post.both p eq s1 (by rw [hq]) fun us e2 vs H2 fps2 fp2 ey re2 r2 s2 p2 s12 => ?_⟩
        obtain ⟨⟨v0', hv', root', z'⟩, ap⟩ := r1.stay re1 s2
        rw [hv] at hv'; cases hv'
        rcases z' with ⟨f', z'⟩ | ⟨d, e', _⟩
        · rw [hq] at z'
          split at p2
          · rename_i u' r hs
            split at p2
            · rename_i t' hm
              exact mt_core0 re2 hv root' z' r2 ap hs hm s12 p2
            · exact p2.elim
          · exact p2.elim
        · rw [hq] at e'; cases e'
      · rw [hq] at e'; cases e'
    · exact p1.elim
  · refine (pe_bm PySem.F.plainAttrs_list PySem.F.slot_list_extend PySem.F.type_list_extend mt_extendF hx (ha.fz hk) hb hfew hl ((hn a (by simp)).ns _ _) (star_any fun e he => hn e (by simp [he]))).im fun σ H Q ⟨e, fps, re, p⟩ => ⟨e, fps, re, p.first .refl fun q e1 w H1 fps1 fp1 eq re1 r1 s1 p1 => ?_⟩
    split at p1
    · rename_i ts hq
      obtain ⟨v0, hv, root, ⟨f, z⟩ | ⟨d, e', _⟩⟩ := id r1
      · obtain ⟨l, xs, f0, rfl, hl, _, _⟩ := (show RT G.K H1 (.lst ts) w f from hq ▸ z.1)
        refine ⟨tyL hl, e1, fps1, re1, Post.both p eq s1 (by rw [hq]) fun us e2 vs H2 fps2 fp2 ey re2 r2 s2 p2 s12 => ?_⟩
        obtain ⟨⟨v0', hv', root', z'⟩, ap⟩ := r1.stay re1 s2
        rw [hv] at hv'; cases hv'
        obtain ⟨r2, rfl⟩ := r2
        rw [List.append_nil] at s12
        rcases z' with ⟨f', z'⟩ | ⟨d, e', _⟩
        · rw [hq] at z'
          split at p2
          · rename_i u' r hs
            split at p2
            · rename_i t' hm
              rw [hk]; exact mt_core1 re2 hv root' z' r2 hs hm s12 p2
            · exact p2.elim
          · exact p2.elim
        · rw [hq] at e'; cases e'
      · rw [hq] at e'; cases e'
    · exact p1.elim
def mv0F (o i : Nat) (fs : Env → R (List T)) : Env → R T := fun e => (match getL e i with
    | some (.lst _) => (fs e).bind fun us e2 => (match (getL e2 i).bind fun u => mtSem o u us with
      | some (u', r) => .ok r (e2.set i (some u'))
      | none => .bad)
    | _ => .bad)
theorem pm_mv0 {fs : Env → R (List T)} {es : List Expr} {p2 : Pos} (o : Nat) (hk : X.K = G.K) (hx : PE X x (tVar i)) (ha : PA X (a :: es) (tEs G W TT fs)) (hn : ∀ e ∈ a :: es, Nice e) (hb : attributeBase x (mtNm o) X.env (eval x X.env) = eval x X.env) (hl : (p2.endLine == pos.line) = true) (h30 : (a :: es).length < 30) (ho : o = 0 ∨ o = 1) :
    PE X (.Call (.Attribute x (mtNm o) p2) (a :: es) [] pos) (tE G W TT (mv0F o i fs)) := by
  have hfew : ((backTo pos (starEach (a :: es) X.env)).all (fun x => !x.1) && (backToKw pos (keywordEach [] X.env)).all (fun x => x.1.isSome)
      && decide ((a :: es).length + ([] : List Keyword).length + (if ([] : List Keyword).isEmpty then 0 else 1) < 30)) = true := by
    have h1 := star_any (pos := pos) (env := X.env) hn
    have h2 : (backTo pos (starEach (a :: es) X.env)).all (fun x => !x.1) = true := by
      rw [List.all_eq_not_any_not]
      simpa using h1
    rw [h2]
    simpa [backToKw, keywordEach] using h30
  -- the name's tree at the end
  have fin : ∀ {σ : L2.St} {H H2 : Hp} {fps fps2 : Fp} {e2 : Env} {u : T} {fq : List Addr}, RE G.K H2 e2 σ fps2 → getL e2 i = some u → Stp TT H fps H2 fps2 fq → (∀ a ∈ fq, ∀ j, a ∉ fps2 j) → ∃ v0, σ[i]? = some (some v0) ∧ RE G.K H2 (e2.set i none) σ (updF fps2 i []) ∧ Res G.K H2 (updF fps2 i []) u v0 (fps2 i) ∧ Zip G.K H2 u v0 (fps2 i) [] u v0 (fps2 i) ∧
      Stp TT H fps H2 (updF fps2 i []) (fps2 i ++ fq) ∧ ∀ a ∈ fps2 i, a ∉ fq := fun {σ H H2 fps fps2 e2 u fq} re2 hu s ap => by
    obtain ⟨v0, h1, h2⟩ := re2.out hu
    refine ⟨v0, h1, re2.drop, h2, .here h2.rt h2.nd, .mk' s.keep fun a ha => ?_, fun a ha hq => ap a hq i ha⟩
    rcases ha with ha | ⟨j, ha⟩
    · rcases List.mem_append.mp ha with ha | ha
      · exact s.new a (.inr ⟨i, ha⟩)
      · exact s.new a (.inl ha)
    · by_cases e : j = i
      · subst e; rw [updF_eq] at ha; cases ha
      · rw [updF_ne e] at ha; exact s.new a (.inr ⟨j, ha⟩)
  have lst : ∀ {u : T} {us : List T} {u' r : T}, (o = 0 ∨ o = 1) → mtSem o u us = some (u', r) → ∃ ts, u = .lst ts := fun {u us u' r} ho h => by
    cases u with
    | lst ts => exact ⟨ts, rfl⟩
    | _ => rcases ho with rfl | rfl <;> simp [mtSem] at h
  have set2 : ∀ {e2 : Env} {x : Option T}, (e2.set i none).set i x = e2.set i x := fun {e2 x} => List.set_set ..
  rcases id ho with rfl | rfl
  · refine (pe_bm PySem.F.plainAttrs_list PySem.F.slot_list_append PySem.F.type_list_append mt_append hx ha hb hfew hl ((hn a (by simp)).ns _ _) (star_any fun e he => hn e (by simp [he]))).im fun σ H Q ⟨e, fps, re, p⟩ => ?_
    unfold mv0F at p
    split at p
    · rename_i ts hq
      obtain ⟨v0, hv, l, xs, f0, rfl, hl, _, _⟩ := re.rep i _ hq
      refine ⟨.ref l, hv, tyL hl, e, fps, re, ?_⟩
      cases q : fs e with
      | ok us e2 =>
        rw [q] at p
        refine fun vs H2 fps2 fp2 re2 r2 s2 => ?_
        simp only [R.bind] at p
        cases q2 : getL e2 i with
        | none => rw [q2] at p; exact p.elim
        | some u =>
          rw [q2] at p
          simp only [Option.bind_some] at p
          split at p
          · rename_i u' r hs
            obtain ⟨ts', rfl⟩ := lst ho hs
            obtain ⟨v0, hv', re3, root, z, s3, ap3⟩ := fin re2 q2 s2 r2.ap
            rw [hv] at hv'; cases hv'
            refine mt_core0 (t' := u') re3 hv root z ⟨r2.rt, r2.nd, fun a ha j => ?_⟩ ap3 hs (by simp [T.mod]) s3 (by rw [set2]; exact p)
            by_cases e : j = i
            · subst e; rw [updF_eq]; exact fun h => nomatch h
            · rw [updF_ne e]; exact r2.ap a ha j
          · exact p.elim
      | exc _ _ => rw [q] at p; exact p
      | bad => rw [q] at p; exact p
    · exact p.elim
  · refine (pe_bm PySem.F.plainAttrs_list PySem.F.slot_list_extend PySem.F.type_list_extend mt_extendF hx (ha.fz hk) hb hfew hl ((hn a (by simp)).ns _ _) (star_any fun e he => hn e (by simp [he]))).im fun σ H Q ⟨e, fps, re, p⟩ => ?_
    unfold mv0F at p
    split at p
    · rename_i ts hq
      obtain ⟨v0, hv, l, xs, f0, rfl, hl, _, _⟩ := re.rep i _ hq
      refine ⟨.ref l, hv, tyL hl, e, fps, re, ?_⟩
      cases q : fs e with
      | ok us e2 =>
        rw [q] at p
        refine fun vs H2 fps2 fp2 re2 r2 s2 => ?_
        obtain ⟨r2, rfl⟩ := r2
        simp only [R.bind] at p
        cases q2 : getL e2 i with
        | none => rw [q2] at p; exact p.elim
        | some u =>
          rw [q2] at p
          simp only [Option.bind_some] at p
          split at p
          · rename_i u' r hs
            obtain ⟨ts', rfl⟩ := lst ho hs
            obtain ⟨v0, hv', re3, root, z, s3, ap3⟩ := fin re2 q2 s2 (fun _ h => nomatch h)
            rw [hv] at hv'; cases hv'
            rw [List.append_nil] at s3
            rw [hk]; exact mt_core1 (t' := u') re3 hv root z r2 hs (by simp [T.mod]) s3 (by rw [set2]; exact p)
          · exact p.elim
      | exc _ _ => rw [q] at p; exact p
      | bad => rw [q] at p; exact p
    · exact p.elim
end
end Mi
end
section
set_option maxRecDepth 100000
/-! Mi13: calls of defs. -/
namespace Mi
open PySem L2 PySem.Spec PyProof.Rows
/-- what a def promises, by what it computes -/
def spOf (G : Gd) (c : List T → Out) : Sp := fun vs H Q E => ∃ ts fps, RE G.K H (ts.map some) (vs.map some) fps ∧ match c ts with
  | .ret t outs => ∀ v H' fps' fp, RE G.K H' outs (vs.map some) fps' → Res G.K H' fps' t v fp → Stp TT H fps H' fps' fp → Q v H'
  | .exc x outs => ∀ d H' fps', RE G.K H' outs (vs.map some) fps' → Stp TT H fps H' fps' [] → E (.ref (G.ca x.cls)) d H'
  | .bad => False
def arr {α : Type} (d : α) (perm : List Nat) (us ws : List α) : List α := perm.map fun j => ((us ++ ws)[j]?).getD d
theorem arr_vals {perm : List Nat} {vs zs : List V} {us ws : List Value} (r : Vals vs us) (r2 : Vals zs ws) : Vals (arr .non perm vs zs) (arr .none perm us ws) := by
  have r3 := r.append r2
  unfold arr
  induction perm with
  | nil => exact .nil
  | cons j perm ih =>
    refine .cons ?_ ih
    show L2.RelV (((vs ++ zs)[j]?).getD V.non) (((us ++ ws)[j]?).getD Value.none)
    cases q : (vs ++ zs)[j]? with
    | some v =>
      obtain ⟨u, h1, h2⟩ := r3.get q
      rw [h1]
      exact h2
    | none =>
      rw [r3.none_of q]
      rfl
/-- all keywords have names -/
def kwNm : List Keyword → List Str
  | [] => []
  | ⟨some k, _, _⟩ :: r => k :: kwNm r
  | ⟨none, _, _⟩ :: r => kwNm r
def KwOk (kws : List Keyword) : Prop := ∀ k ∈ kws, k.arg.isSome = true
theorem kw_all {kws : List Keyword} {env : PySem.Env} {pos : Pos} (h : KwOk kws) : (backToKw pos (keywordEach kws env)).all (·.1.isSome) = true ∧ (backToKw pos (keywordEach kws env)).filterMap (·.1) = kwNm kws ∧ (backToKw pos (keywordEach kws env)).any (·.1.isNone) = false ∧ (kwNm kws).length = kws.length := by
  induction kws with
  | nil => exact ⟨rfl, rfl, rfl, rfl⟩
  | cons k r ih =>
    obtain ⟨n, e, p⟩ := k
    have h0 := h _ (List.mem_cons_self ..)
    cases n with
    | none => cases h0
    | some n =>
      obtain ⟨h1, h2, h3, h4⟩ := ih fun k hk => h k (by simp [hk])
      refine ⟨?_, ?_, ?_, by simp [kwNm, h4]⟩
      · show (true && (backToKw pos (keywordEach r env)).all (·.1.isSome)) = true
        rw [h1]; rfl
      · show n :: (backToKw pos (keywordEach r env)).filterMap (·.1) = n :: kwNm r
        rw [h2]
      · show (false || (backToKw pos (keywordEach r env)).any (·.1.isNone)) = false
        rw [h3]; rfl
section
variable {X : L2.Cx} {CX : CXT} {k : Nat} {f : Addr} {fd : FuncData} {ps names : List Str} {sp : Sp} {E : L2.St → XK} {x : Str} {p pos : Pos} {es : List Expr} {kws : List Keyword} {t tk : TA} {perm : List Nat}
theorem run_fnG {pins : List (Addr × Obj)} {σ : L2.St} {H : Hp} {s : Shared} {Q : VK} {us ws : List Value} {vs zs : List V} (F : FnOk X.prog X.w X.K X.mg X.base CX k f fd ps sp) (hr : Room k X.A) (hb : BindsTo s fd ⟨us, names.zip ws⟩ (ps.zip (arr .none perm us ws))) (hx : PassesAt CX X σ (E σ))
    (I : Inv X pins σ H s) (r : Vals vs us) (rz : Vals zs ws) (h : sp (arr .non perm vs zs) H Q (E σ)) : wpAny (model X.prog X.w) X.A (call (.ref f) us (names.zip ws)) (EP X pins σ Q) X.xe s := by
  refine wpAny_call (codeAny_mono (F.run X.A X.stack s H ⟨us, names.zip ws⟩ (arr .none perm us ws) (arr .non perm vs zs) Q (E σ) hr I.env0 hb (arr_vals r rz) h) fun r s' hq => ?_)
  cases r with
  | error e => exact hx pins H s e s' I hq
  | ok fl =>
    cases fl with
    | ret u => exact I.after hq
    | next => exact False.elim hq
    | brk => exact False.elim hq
    | cont => exact False.elim hq
theorem pe_callG0 (F : FnOk X.prog X.w X.K X.mg X.base CX k f fd ps sp) (hr : Room k X.A) (hg : Gl X x) (hm : X.mg x = some (.ref f)) (hk : PySem.W.keepIn X.K (.ref f) = true) (hb : ∀ (s : Shared) (us ws : List Value), us.length = 0 → ws.length = kws.length → BindsTo s fd ⟨us, (kwNm kws).zip ws⟩ (ps.zip (arr .none perm us ws)))
    (hx : ∀ σ, PassesAt CX X σ (E σ)) (hkw : PK X kws tk) (hko : KwOk kws) (hdb : (x == ("__debug__" : Str)) = false) :
    PE X (.Call (.Name x p) [] kws pos) (fun σ H Q => tk σ H fun zs H2 => zs.length = kws.length ∧ sp (arr .non perm [] zs) H2 Q (E σ)) := by
  refine ⟨fun pins s σ H Q I h => ?_⟩
  refine wpAny_Call_Name_kw (ld_glob I hg hm ?_ hdb)
  obtain ⟨k1, k2, k3, k4⟩ := kw_all (env := X.env) (pos := pos) hko
  exact PySem.W.callWith_KW0 (h₀ := X.base) I.ok.mod.kin hk k1 (thn (hkw.run pos pins s σ H _ I h) fun ws s2 ⟨zs, H2, I2, rz, l2, hsp⟩ => ⟨I2.kIn, by
    rw [k2]
    exact run_fnG F hr (hb s2 [] ws rfl (by rw [← rz.length]; exact l2)) (hx σ) I2 .nil rz hsp⟩) (by rw [k3]; rfl)
theorem pe_callG {e : Expr} (F : FnOk X.prog X.w X.K X.mg X.base CX k f fd ps sp) (hr : Room k X.A) (hg : Gl X x) (hm : X.mg x = some (.ref f)) (hk : PySem.W.keepIn X.K (.ref f) = true) (hb : ∀ (s : Shared) (us ws : List Value), us.length = (e :: es).length → ws.length = kws.length → BindsTo s fd ⟨us, (kwNm kws).zip ws⟩ (ps.zip (arr .none perm us ws)))
    (hx : ∀ σ, PassesAt CX X σ (E σ)) (ha : PA X (e :: es) t) (hkw : PK X kws tk) (hn : ∀ e' ∈ e :: es, Nice e') (hko : KwOk kws) (hdb : (x == ("__debug__" : Str)) = false) :
    PE X (.Call (.Name x p) (e :: es) kws pos) (fun σ H Q => t σ H fun vs H1 => tk σ H1 fun zs H2 => vs.length = (e :: es).length ∧ zs.length = kws.length ∧ sp (arr .non perm vs zs) H2 Q (E σ)) := by
  refine ⟨fun pins s σ H Q I h => ?_⟩
  refine wpAny_Call_Name_kw (ld_glob I hg hm ?_ hdb)
  obtain ⟨k1, k2, k3, k4⟩ := kw_all (env := X.env) (pos := pos) hko
  have hs := (hn e (by simp)).ns es X.env
  have hp := star_any (env := X.env) (pos := pos) hn
  exact PySem.W.callWith_KW (h₀ := X.base) I.ok.mod.kin hk k1 (thn (ha.run pos pins s σ H _ I h) fun us s1 ⟨vs, H1, I1, r, q⟩ => thn (hkw.run pos pins s1 σ H1 _ I1 q) fun ws s2 ⟨zs, H2, I2, rz, l1, l2, hsp⟩ => ⟨I2.kIn, by
    rw [k2]
    exact run_fnG F hr (hb s2 us ws (by rw [← r.length]; exact l1) (by rw [← rz.length]; exact l2)) (hx σ) I2 r rz hsp⟩) (by rw [hp, k3]; rfl) hs
end
/-! ### arguments -/
def mixA (σ : L2.St) : Ag → List V → Option (List V)
  | .nil, [] => some []
  | .v _ r, w :: ws => (mixA σ r ws).map (w :: ·)
  | .io i r, ws => (match σ[i]? with
    | some (some v) => (mixA σ r ws).map (v :: ·)
    | _ => none)
  | _, _ => none
def mixK (σ : L2.St) : Kw → List V → Option (List V)
  | .nil, [] => some []
  | .v _ _ r, w :: ws => (mixK σ r ws).map (w :: ·)
  | .io _ i r, ws => (match σ[i]? with
    | some (some v) => (mixK σ r ws).map (v :: ·)
    | _ => none)
  | _, _ => none
abbrev relA (G : Gd) (σ : L2.St) (as : Ag) : Hp → Fp → List T → List V → List Addr → Prop := fun H fps ts vs fp => ∃ ws, Ress G.K H fps ts ws fp ∧ mixA σ as ws = some vs
abbrev relK (G : Gd) (σ : L2.St) (as : Kw) : Hp → Fp → List T → List V → List Addr → Prop := fun H fps ts vs fp => ∃ ws, Ress G.K H fps ts ws fp ∧ mixK σ as ws = some vs
abbrev tAg (G : Gd) (W : WX) (as : Ag) (f : Env → R (List T)) : TA := fun σ H Q => tG G W TT (relA G σ as) f σ H Q
abbrev tKw (G : Gd) (W : WX) (as : Kw) (f : Env → R (List T)) : TA := fun σ H Q => tG G W TT (relK G σ as) f σ H Q
section
variable {X : L2.Cx} {G : Gd} {W : WX} {a b c : Expr} {f g h : Env → R T} {pos : Pos} {i : Nat} {fs : Env → R (List T)} {es : List Expr} {kws : List Keyword}
theorem pm_Anil : PA X [] (tAg G W .nil fun e => .ok [] e) :=
  pa_nil.im fun σ H Q ⟨e, fps, re, p⟩ => p [] H fps [] re ⟨[], ⟨⟨rfl, rfl⟩, .nil, fun _ h => nomatch h⟩, rfl⟩ .refl
theorem pm_Knil : PK X [] (tKw G W .nil fun e => .ok [] e) :=
  PK.im pk_nil fun σ H Q ⟨e, fps, re, p⟩ => p [] H fps [] re ⟨[], ⟨⟨rfl, rfl⟩, .nil, fun _ h => nomatch h⟩, rfl⟩ .refl
theorem pm_Av {x : E} {as : Ag} (ha : PE X a (tE G W TT f)) (hr : PA X es (tAg G W as fs)) (hs : Nice a) : PA X (a :: es) (tAg G W (.v x as) fun e => (f e).bind fun x e1 => (fs e1).bind fun xs e2 => .ok (x :: xs) e2) := by
  refine (pa_cons ha hr (hs.ns _ _)).im fun σ H Q ⟨e, fps, re, p⟩ => ⟨e, fps, re, p.first .refl fun x e1 v H1 fps1 fp1 ex re1 r1 s1 p1 =>
    ⟨e1, fps1, re1, Post.both p ex s1 rfl fun ts e2 vs H2 fps2 fp2 ey re2 r2 s2 p2 s12 => ?_⟩⟩
  obtain ⟨ws, rs, hm⟩ := r2
  exact p2 (v :: vs) H2 fps2 (fp1 ++ fp2) re2 ⟨v :: ws, r1.cons re1 s2 rs, by simp [mixA, hm]⟩ s12
theorem pm_Kv {x : E} {as : Kw} {k : Str} {kp : Pos} (ha : PE X a (tE G W TT f)) (hr : PK X kws (tKw G W as fs)) : PK X (⟨some k, a, kp⟩ :: kws) (tKw G W (.v k x as) fun e => (f e).bind fun x e1 => (fs e1).bind fun xs e2 => .ok (x :: xs) e2) := by
  refine PK.im (pk_cons ha hr) fun σ H Q ⟨e, fps, re, p⟩ => ⟨e, fps, re, p.first .refl fun x e1 v H1 fps1 fp1 ex re1 r1 s1 p1 =>
    ⟨e1, fps1, re1, Post.both p ex s1 rfl fun ts e2 vs H2 fps2 fp2 ey re2 r2 s2 p2 s12 => ?_⟩⟩
  obtain ⟨ws, rs, hm⟩ := r2
  exact p2 (v :: vs) H2 fps2 (fp1 ++ fp2) re2 ⟨v :: ws, r1.cons re1 s2 rs, by simp [mixK, hm]⟩ s12
theorem pm_Aio {as : Ag} (ha : PE X a (tVar i)) (hr : PA X es (tAg G W as fs)) (hs : Nice a) : PA X (a :: es) (tAg G W (.io i as) fun e => (match getL e i with
    | some _ => fs e
    | none => .bad)) := by
  refine (pa_cons ha hr (hs.ns _ _)).im fun σ H Q ⟨e, fps, re, p⟩ => ?_
  dsimp only at p
  cases q : getL e i with
  | none => rw [q] at p; exact p.elim
  | some t =>
    rw [q] at p
    obtain ⟨v, hv, _⟩ := re.rep i t q
    refine ⟨v, hv, e, fps, re, ?_⟩
    cases q2 : fs e with
    | ok ts e2 =>
      rw [q2] at p
      intro vs H2 fps2 fp2 re2 r2 s2
      obtain ⟨ws, rs, hm⟩ := r2
      exact p (v :: vs) H2 fps2 fp2 re2 ⟨ws, rs, by simp [mixA, hv, hm]⟩ s2
    | exc _ _ => rw [q2] at p; exact p
    | bad => rw [q2] at p; exact p
theorem pm_Kio {as : Kw} {k : Str} {kp : Pos} (ha : PE X a (tVar i)) (hr : PK X kws (tKw G W as fs)) : PK X (⟨some k, a, kp⟩ :: kws) (tKw G W (.io k i as) fun e => (match getL e i with
    | some _ => fs e
    | none => .bad)) := by
  refine PK.im (pk_cons ha hr) fun σ H Q ⟨e, fps, re, p⟩ => ?_
  dsimp only at p
  cases q : getL e i with
  | none => rw [q] at p; exact p.elim
  | some t =>
    rw [q] at p
    obtain ⟨v, hv, _⟩ := re.rep i t q
    refine ⟨v, hv, e, fps, re, ?_⟩
    cases q2 : fs e with
    | ok ts e2 =>
      rw [q2] at p
      intro vs H2 fps2 fp2 re2 r2 s2
      obtain ⟨ws, rs, hm⟩ := r2
      exact p (v :: vs) H2 fps2 fp2 re2 ⟨ws, rs, by simp [mixK, hv, hm]⟩ s2
    | exc _ _ => rw [q2] at p; exact p
    | bad => rw [q2] at p; exact p
end
/-! ### the arguments as a def's names -/
def itA : Ag → Nat → List Ar
  | .nil, _ => []
  | .v _ r, j => .v j :: itA r (j + 1)
  | .io i r, j => .io i :: itA r j
def nvA : Ag → Nat
  | .nil => 0
  | .v _ r => nvA r + 1
  | .io _ r => nvA r
def itK : Kw → Nat → List Ar
  | .nil, _ => []
  | .v _ _ r, j => .v j :: itK r (j + 1)
  | .io _ i r, j => .io i :: itK r j
def valAr (σ : L2.St) (ws : List V) : Ar → V
  | .v j => (ws[j]?).getD .non
  | .io i => ((σ[i]?).getD none).getD .non
theorem mixA_val {σ : L2.St} : ∀ {as : Ag} {ws vs : List V} (pre post : List V), mixA σ as ws = some vs → vs = (itA as pre.length).map (valAr σ (pre ++ ws ++ post)) ∧ ws.length = nvA as
  | .nil, [], vs, pre, post, h => by cases h; exact ⟨rfl, rfl⟩
  | .nil, _ :: _, vs, pre, post, h => by cases h
  | .v _ r, [], vs, pre, post, h => by cases h
  | .v _ r, w :: ws, vs, pre, post, h => by
    simp only [mixA, Option.map_eq_some_iff] at h
    obtain ⟨us, h1, rfl⟩ := h
    obtain ⟨e1, e2⟩ := mixA_val (pre ++ [w]) post h1
    refine ⟨?_, by simp [nvA, e2]⟩
    rw [itA, List.map_cons, e1]
    simp [valAr]
  | .io i r, ws, vs, pre, post, h => by
    have h' : (match σ[i]? with
      | some (some v) => (mixA σ r ws).map (v :: ·)
      | _ => none) = some vs := by cases ws <;> exact h
    split at h'
    · rename_i v hv
      simp only [Option.map_eq_some_iff] at h'
      obtain ⟨us, h1, rfl⟩ := h'
      obtain ⟨e1, e2⟩ := mixA_val pre post h1
      refine ⟨?_, by simpa [nvA] using e2⟩
      rw [itA, List.map_cons, e1]
      simp [valAr, hv]
    · cases h'
theorem mixK_val {σ : L2.St} : ∀ {as : Kw} {ws vs : List V} (pre : List V), mixK σ as ws = some vs → vs = (itK as pre.length).map (valAr σ (pre ++ ws))
  | .nil, [], vs, pre, h => by cases h; rfl
  | .nil, _ :: _, vs, pre, h => by cases h
  | .v _ _ r, [], vs, pre, h => by cases h
  | .v _ _ r, w :: ws, vs, pre, h => by
    simp only [mixK, Option.map_eq_some_iff] at h
    obtain ⟨us, h1, rfl⟩ := h
    have e1 := mixK_val (pre ++ [w]) h1
    rw [itK, List.map_cons, e1]
    simp [valAr]
  | .io _ i r, ws, vs, pre, h => by
    have h' : (match σ[i]? with
      | some (some v) => (mixK σ r ws).map (v :: ·)
      | _ => none) = some vs := by cases ws <;> exact h
    split at h'
    · rename_i v hv
      simp only [Option.map_eq_some_iff] at h'
      obtain ⟨us, h1, rfl⟩ := h'
      have e1 := mixK_val pre h1
      rw [itK, List.map_cons, e1]
      simp [valAr, hv]
    · cases h'
/-- the parameters' arguments, from the written ones -/
def permAr (items : List Ar) (perm : List Nat) : Option (List Ar) := perm.mapM fun j => items[j]?
theorem arr_permAr {σ : L2.St} {ws : List V} {items ars : List Ar} : ∀ {perm : List Nat} {us zs : List V}, us ++ zs = items.map (valAr σ ws) → permAr items perm = some ars → arr .non perm us zs = ars.map (valAr σ ws) := fun {perm us zs} e h => by
  induction perm generalizing ars with
  | nil =>
    simp only [permAr, List.mapM_nil] at h
    cases h; rfl
  | cons j perm ih =>
    simp only [permAr, List.mapM_cons] at h
    cases q : items[j]? with
    | none => rw [q] at h; cases h
    | some x =>
      rw [q] at h
      cases q2 : perm.mapM fun j => items[j]? with
      | none => rw [q2] at h; cases h
      | some r =>
        rw [q2] at h
        cases h
        have := ih q2
        unfold arr at this ⊢
        rw [List.map_cons, List.map_cons, this, e, List.getElem?_map, q]
        rfl
end Mi
end
section
set_option maxRecDepth 100000
/-! Mi14: the arguments of a call are taken out and put back. -/
namespace Mi
open PySem L2 PySem.Spec PyProof.Rows
def consF (f : List Addr) (g : Fp) : Fp
  | 0 => f
  | k + 1 => g k
section
variable {K : Fg} {H : Hp}
theorem getL_cons0 {x : Option T} {e : Env} : getL (x :: e) 0 = x := rfl
theorem getL_cons1 {x : Option T} {e : Env} {k : Nat} : getL (x :: e) (k + 1) = getL e k := rfl
theorem RE.nil : RE K H [] [] fun _ => [] := ⟨rfl, fun i t h => by simp [getL] at h, fun _ _ => rfl, fun _ => .nil, fun _ _ _ h => nomatch h⟩
theorem RE.cons {e : Env} {σ : L2.St} {g : Fp} {t : T} {v : V} {f : List Addr} (re : RE K H e σ g) (r : RT K H t v f) (nd : f.Nodup) (ap : ∀ a ∈ f, ∀ k, a ∉ g k) : RE K H (some t :: e) (some v :: σ) (consF f g) where
  len := by simp [re.len]
  rep := fun i u hu => by
    cases i with
    | zero => rw [getL_cons0] at hu; cases hu; exact ⟨v, rfl, r⟩
    | succ k => rw [getL_cons1] at hu; exact re.rep k u hu
  emp := fun i hi => by
    cases i with
    | zero => rw [getL_cons0] at hi; cases hi
    | succ k => rw [getL_cons1] at hi; exact re.emp k hi
  nd := fun i => by
    cases i with
    | zero => exact nd
    | succ k => exact re.nd k
  dis := fun i j a hi hj => by
    cases i with
    | zero =>
      cases j with
      | zero => rfl
      | succ k => exact (ap a hi k hj).elim
    | succ m =>
      cases j with
      | zero => exact (ap a hj m hi).elim
      | succ k => rw [re.dis m k a hi hj]
theorem RE.tail {x : Option T} {e : Env} {y : Option V} {σ : L2.St} {g : Fp} (re : RE K H (x :: e) (y :: σ) g) : RE K H e σ fun k => g (k + 1) where
  len := by have := re.len; simpa using this
  rep := fun i u hu => re.rep (i + 1) u hu
  emp := fun i hi => re.emp (i + 1) hi
  nd := fun i => re.nd _
  dis := fun i j a hi hj => Nat.succ.inj (re.dis _ _ a hi hj)
/-- temporaries as names -/
theorem Ress.re : ∀ {ts : List T} {ws : List V} {fp : List Addr}, RTs K H ts ws fp → fp.Nodup → ∃ g, RE K H (ts.map some) (ws.map some) g ∧ ∀ j a, a ∈ g j → a ∈ fp
  | [], _, _, h, _ => by
    obtain ⟨rfl, rfl⟩ := h
    exact ⟨_, .nil, fun _ _ h => nomatch h⟩
  | t :: ts, _, _, h, nd => by
    obtain ⟨v, r, f, f2, rfl, rfl, h1, h2⟩ := h
    obtain ⟨n1, n2, n3⟩ := List.nodup_append.mp nd
    obtain ⟨g, re, sub⟩ := Ress.re h2 n2
    refine ⟨consF f g, re.cons h1 n1 fun a ha k hk => n3 a ha a (sub k a hk) rfl, fun j a ha => ?_⟩
    cases j with
    | zero => exact List.mem_append_left _ ha
    | succ k => exact List.mem_append_right _ (sub k a ha)
theorem take_ok {σ : L2.St} {ws : List V} {ts : List T} {gT : Fp} (reT : RE K H (ts.map some) (ws.map some) gT) : ∀ {ars : List Ar} {e e2 : Env} {fps : Fp} {us : List T}, RE K H e σ fps → (∀ j a, a ∈ gT j → ∀ i, a ∉ fps i) → ars.Nodup → takeAr ars ts e = some (us, e2) →
    ∃ gA fps2, RE K H (us.map some) ((ars.map (valAr σ ws)).map some) gA ∧ RE K H e2 σ fps2 ∧ (∀ k a, a ∈ gA k → (∃ j, Ar.v j ∈ ars ∧ a ∈ gT j) ∨ ∃ i, a ∈ fps i) ∧ (∀ i a, a ∈ fps2 i → a ∈ fps i) ∧ (∀ k a i, a ∈ gA k → a ∉ fps2 i) ∧ ∀ i, Ar.io i ∈ ars → ∃ v, σ[i]? = some (some v)
  | [], e, e2, fps, us, re, _, _, h => by
    simp only [takeAr, Option.some.injEq, Prod.mk.injEq] at h
    obtain ⟨rfl, rfl⟩ := h
    exact ⟨_, fps, .nil, re, fun _ _ h => (nomatch h), fun _ _ h => h, fun _ _ _ h => (nomatch h), fun _ h => nomatch h⟩
  | .v j :: r, e, e2, fps, us, re, ap, nd, h => by
    simp only [takeAr, Option.bind_eq_some_iff, Option.map_eq_some_iff] at h
    obtain ⟨t, ht, ⟨us', e2'⟩, h1, h2⟩ := h
    cases h2
    obtain ⟨nj, nd'⟩ := List.nodup_cons.mp nd
    obtain ⟨gA, fps2, rA, r2, sA, s2, d2, io⟩ := take_ok reT re ap nd' h1
    have hg : getL (ts.map some) j = some t := by unfold getL; rw [List.getElem?_map, ht]; rfl
    obtain ⟨v, hv, rt⟩ := reT.rep j t hg
    have hv' : ws[j]? = some v := by
      rw [List.getElem?_map] at hv
      cases q : ws[j]? with
      | none => rw [q] at hv; cases hv
      | some w => rw [q] at hv; cases hv; rfl
    have apA : ∀ a ∈ gT j, ∀ k, a ∉ gA k := fun a ha k hk => by
      rcases sA k a hk with ⟨j', hj', hj''⟩ | ⟨i, hi⟩
      · have := reT.dis j j' a ha hj''
        subst this
        exact nj hj'
      · exact ap j a ha i hi
    refine ⟨consF (gT j) gA, fps2, ?_, r2, fun k a ha => ?_, s2, fun k a i ha hi => ?_, fun i hi => io i (by simpa using hi)⟩
    · have e0 : valAr σ ws (.v j) = v := by show (ws[j]?).getD .non = v; rw [hv']; rfl
      rw [List.map_cons, List.map_cons, List.map_cons, e0]
      exact rA.cons rt (reT.nd j) apA
    · cases k with
      | zero => exact .inl ⟨j, by simp, ha⟩
      | succ k => exact (sA k a ha).imp (fun ⟨j', h1, h2⟩ => ⟨j', by simp [h1], h2⟩) id
    · cases k with
      | zero => exact ap j a ha i (s2 i a hi)
      | succ k => exact d2 k a i ha hi
  | .io i :: r, e, e2, fps, us, re, ap, nd, h => by
    simp only [takeAr, Option.bind_eq_some_iff, Option.map_eq_some_iff] at h
    obtain ⟨t, ht, ⟨us', e2'⟩, h1, h2⟩ := h
    cases h2
    obtain ⟨ni, nd'⟩ := List.nodup_cons.mp nd
    obtain ⟨v, hv, res⟩ := re.out ht
    have sub1 : ∀ j a, a ∈ updF fps i [] j → a ∈ fps j := fun j a ha => by
      by_cases q : j = i
      · subst q; rw [updF_eq] at ha; cases ha
      · rw [updF_ne q] at ha; exact ha
    obtain ⟨gA, fps2, rA, r2, sA, s2, d2, io⟩ := take_ok reT re.drop (fun j a ha k hk => ap j a ha k (sub1 k a hk)) nd' h1
    have apA : ∀ a ∈ fps i, ∀ k, a ∉ gA k := fun a ha k hk => by
      rcases sA k a hk with ⟨j', _, hj''⟩ | ⟨m, hm⟩
      · exact ap j' a hj'' i ha
      · exact res.ap a ha m hm
    refine ⟨consF (fps i) gA, fps2, ?_, r2, fun k a ha => ?_, fun j a ha => sub1 j a (s2 j a ha), fun k a m ha hm => ?_, fun m hm => ?_⟩
    · have e0 : valAr σ ws (.io i) = v := by show ((σ[i]?).getD none).getD .non = v; rw [hv]; rfl
      rw [List.map_cons, List.map_cons, List.map_cons, e0]
      exact rA.cons res.rt res.nd apA
    · cases k with
      | zero => exact .inr ⟨i, ha⟩
      | succ k => exact (sA k a ha).imp (fun ⟨j', h1, h2⟩ => ⟨j', by simp [h1], h2⟩) fun ⟨m, hm⟩ => ⟨m, sub1 m a hm⟩
    · cases k with
      | zero => exact res.ap a ha m (s2 m a hm)
      | succ k => exact d2 k a m ha hm
    · rcases List.mem_cons.mp hm with e | hm
      · cases e; exact ⟨v, hv⟩
      · exact io m hm
theorem put_ok {σ : L2.St} {ws : List V} : ∀ {ars : List Ar} {outs : List (Option T)} {e e3 : Env} {fps gO : Fp}, RE K H e σ fps → RE K H outs ((ars.map (valAr σ ws)).map some) gO → (∀ k a i, a ∈ gO k → a ∉ fps i) → (∀ i, Ar.io i ∈ ars → ∃ v, σ[i]? = some (some v)) → putAr ars outs e = some e3 →
    ∃ fps3, RE K H e3 σ fps3 ∧ ∀ i a, a ∈ fps3 i → a ∈ fps i ∨ ∃ k, a ∈ gO k
  | [], outs, e, e3, fps, gO, re, _, _, _, h => by
    simp only [putAr, Option.some.injEq] at h
    subst h
    exact ⟨fps, re, fun _ _ h => .inl h⟩
  | .v j :: r, [], e, e3, fps, gO, re, rO, ap, io, h => by simp [putAr] at h
  | .v j :: r, o :: os, e, e3, fps, gO, re, rO, ap, io, h => by
    simp only [putAr] at h
    obtain ⟨fps3, r3, s3⟩ := put_ok re rO.tail (fun k a i ha => ap (k + 1) a i ha) (fun i hi => io i (by simp [hi])) h
    exact ⟨fps3, r3, fun i a ha => (s3 i a ha).imp id fun ⟨k, hk⟩ => ⟨k + 1, hk⟩⟩
  | .io i :: r, [], e, e3, fps, gO, re, rO, ap, io, h => by simp [putAr] at h
  | .io i :: r, none :: os, e, e3, fps, gO, re, rO, ap, io, h => by simp [putAr] at h
  | .io i :: r, some t :: os, e, e3, fps, gO, re, rO, ap, io, h => by
    simp only [putAr] at h
    obtain ⟨v, hv⟩ := io i (by simp)
    obtain ⟨v', hv', rt⟩ := rO.rep 0 t rfl
    have ev : v' = v := by
      have : some (some (((σ[i]?).getD none).getD .non)) = some (some v') := hv'
      rw [hv] at this
      simpa using this.symm
    subst ev
    have re2 := re.put hv rt (rO.nd 0) fun a ha j _ => ap 0 a j ha
    obtain ⟨fps3, r3, s3⟩ := put_ok re2 rO.tail (fun k a m ha hm => by
      by_cases q : m = i
      · subst q
        rw [updF_eq] at hm
        have := rO.dis 0 (k + 1) a hm ha
        cases this
      · rw [updF_ne q] at hm; exact ap (k + 1) a m ha hm) (fun m hm => io m (by simp [hm])) h
    refine ⟨fps3, r3, fun m a ha => ?_⟩
    rcases s3 m a ha with z | ⟨k, hk⟩
    · by_cases q : m = i
      · subst q; rw [updF_eq] at z; exact .inr ⟨0, z⟩
      · rw [updF_ne q] at z; exact .inl z
    · exact .inr ⟨k + 1, hk⟩
end
/-! ### the call -/
def callF (call : List T → Out) (ars : List Ar) (fA fK : Env → R (List T)) : Env → R T := fun e => (fA e).bind fun ts e0 => (fK e0).bind fun zs e1 => (match takeAr ars (ts ++ zs) e1 with
    | some (us, e2) => (match call us with
      | .ret t outs => (match putAr ars outs e2 with
        | some e3 => .ok t e3
        | none => .bad)
      | .exc x outs => (match putAr ars outs e2 with
        | some e3 => .exc x e3
        | none => .bad)
      | .bad => .bad)
    | none => .bad)
section
variable {G : Gd} {W : WX} {σ : L2.St} {H : Hp} {fps : Fp} {e : Env}
/-- what a call asks, from its arguments -/
theorem call_core {call : List T → Out} {ars : List Ar} {ts : List T} {ws : List V} {fp : List Addr} {H1 : Hp} {fps1 : Fp} {e1 : Env} {Q : VK} (nd : ars.Nodup) (re1 : RE G.K H1 e1 σ fps1) (r : Ress G.K H1 fps1 ts ws fp) (s : Stp TT H fps H1 fps1 fp)
    (p : Post G W TT σ H fps (relT G) (match takeAr ars ts e1 with
      | some (us, e2) => (match call us with
        | .ret t outs => (match putAr ars outs e2 with
          | some e3 => .ok t e3
          | none => .bad)
        | .exc x outs => (match putAr ars outs e2 with
          | some e3 => .exc x e3
          | none => .bad)
        | .bad => .bad)
      | none => .bad) Q) : spOf G call (ars.map (valAr σ ws)) H1 Q (WE W σ) := by
  split at p
  · rename_i us e2 ht
    obtain ⟨gT, reT, subT⟩ := Ress.re r.rt r.nd
    obtain ⟨gA, fps2, rA, r2, sA, s2, d2, io⟩ := take_ok reT re1 (fun j a ha i => r.ap a (subT j a ha) i) nd ht
    refine ⟨us, gA, rA, ?_⟩
    -- an argument's own is old or new
    have oldA : ∀ k a, a ∈ gA k → (∃ i, a ∈ fps i) ∨ H a = none := fun k a ha => by
      rcases sA k a ha with ⟨j, _, hj⟩ | hi
      · exact s.new a (.inl (subT j a hj))
      · exact s.new a (.inr hi)
    have old1 : ∀ a, H1 a = none → (∃ i, a ∈ fps i) ∨ H a = none := fun a ha => by
      cases q : H a with
      | none => exact .inr rfl
      | some u =>
        left
        refine Classical.byContradiction fun hn => ?_
        rw [s.keep a u q fun i hi => hn ⟨i, hi⟩] at ha; cases ha
    have fin : ∀ {H' : Hp} {gO : Fp} {fpR : List Addr} {outs : List (Option T)} {e3 : Env}, RE G.K H' outs ((ars.map (valAr σ ws)).map some) gO → Stp TT H1 gA H' gO fpR → (∀ a ∈ fpR, ∀ k, a ∉ gO k) → putAr ars outs e2 = some e3 →
        ∃ fps3, RE G.K H' e3 σ fps3 ∧ Stp TT H fps H' fps3 fpR ∧ ∀ a ∈ fpR, ∀ i, a ∉ fps3 i := fun {H' gO fpR outs e3} rO sO apR hp => by
      have fx : Fix H1 H' := sO.fix rA
      have st : ∀ i, ∀ a ∈ fps2 i, H' a = H1 a := fun i a ha => by
        obtain ⟨u, hu, _⟩ := r2.own ha
        rw [hu]; exact sO.keep a u hu fun k hk => d2 k a i hk ha
      have apO : ∀ k a i, a ∈ gO k → a ∉ fps2 i := fun k a i hk hi => by
        rcases sO.new a (.inr ⟨k, hk⟩) with ⟨m, hm⟩ | hn
        · exact d2 m a i hm hi
        · obtain ⟨u, hu, _⟩ := r2.own hi
          rw [hn] at hu; cases hu
      obtain ⟨fps3, r3, s3⟩ := put_ok (r2.stay fx st) rO apO io hp
      have newO : ∀ a, (a ∈ fpR ∨ ∃ k, a ∈ gO k) → (∃ i, a ∈ fps i) ∨ H a = none := fun a ha => by
        rcases sO.new a ha with ⟨k, hk⟩ | hn
        · exact oldA k a hk
        · exact old1 a hn
      refine ⟨fps3, r3, .mk' (fun a u hu hn => ?_) fun a ha => ?_, fun a ha i hi => ?_⟩
      · refine sO.keep a u (s.keep a u hu hn) fun k hk => ?_
        rcases oldA k a hk with ⟨i, hi⟩ | hn'
        · exact hn i hi
        · rw [hu] at hn'; cases hn'
      · rcases ha with ha | ⟨i, hi⟩
        · exact newO a (.inl ha)
        · rcases s3 i a hi with z | z
          · exact s.new a (.inr ⟨i, s2 i a z⟩)
          · exact newO a (.inr z)
      · rcases s3 i a hi with z | ⟨k, hk⟩
        · rcases sO.new a (.inl ha) with ⟨m, hm⟩ | hn
          · exact d2 m a i hm z
          · obtain ⟨u, hu, _⟩ := r2.own z
            rw [hn] at hu; cases hu
        · exact apR a ha k hk
    cases q : call us with
    | ret t outs =>
      rw [q] at p
      simp only at p
      intro v H' gO fpR rO rR sO
      cases hp : putAr ars outs e2 with
      | none => rw [hp] at p; exact p.elim
      | some e3 =>
        rw [hp] at p
        obtain ⟨fps3, r3, st3, ap3⟩ := fin rO sO rR.ap hp
        exact p v H' fps3 fpR r3 ⟨rR.rt, rR.nd, ap3⟩ st3
    | exc x outs =>
      rw [q] at p
      simp only at p
      intro d H' gO rO sO
      cases hp : putAr ars outs e2 with
      | none => rw [hp] at p; exact p.elim
      | some e3 =>
        rw [hp] at p
        obtain ⟨fps3, r3, st3, ap3⟩ := fin rO sO (fun _ h => nomatch h) hp
        exact p d H' fps3 r3 st3
    | bad => rw [q] at p; exact p
  · exact p.elim
end
end Mi
end
section
set_option maxRecDepth 100000
/-! Mi15: calls; what loops walk. -/
namespace Mi
open PySem L2 PySem.Spec PyProof.Rows
theorem Ress.append {K : Fg} {H : Hp} {fps : Fp} {ts us : List T} {vs ws : List V} {f g : List Addr} (r : Ress K H fps ts vs f) (q : Ress K H fps us ws g) (ap : ∀ a ∈ f, a ∉ g) : Ress K H fps (ts ++ us) (vs ++ ws) (f ++ g) :=
  ⟨RTs.append r.rt q.rt, List.nodup_append.mpr ⟨r.nd, q.nd, fun a ha b hb e => ap a ha (e ▸ hb)⟩, fun a ha => (List.mem_append.mp ha).elim (r.ap a) (q.ap a)⟩
section
variable {X : L2.Cx} {G : Gd} {W : WX} {pos p : Pos} {x : Str} {k : Nat} {f : Addr} {fd : FuncData} {ps : List Str} {call : List T → Out} {es : List Expr} {kws : List Keyword} {as : Ag} {ks : Kw} {ars : List Ar} {perm : List Nat} {fA fK : Env → R (List T)}
theorem pm_call {e₀ : Expr} (F : FnOk X.prog X.w X.K X.mg X.base (L2.CX X.prog X.w) k f fd ps (spOf G call)) (hr : Room k X.A) (hg : Gl X x) (hm : X.mg x = some (.ref f)) (hkp : PySem.W.keepIn X.K (.ref f) = true)
    (hb : ∀ (s : Shared) (us ws : List Value), us.length = (e₀ :: es).length → ws.length = kws.length → BindsTo s fd ⟨us, (kwNm kws).zip ws⟩ (ps.zip (arr .none perm us ws))) (tk : Takes X W)
    (ha : PA X (e₀ :: es) (tAg G W as fA)) (hkw : PK X kws (tKw G W ks fK)) (hn : ∀ e ∈ e₀ :: es, Nice e) (hko : KwOk kws) (hdb : (x == ("__debug__" : Str)) = false) (hnd : ars.Nodup) (hp : permAr (itA as 0 ++ itK ks (nvA as)) perm = some ars)
    (l1 : (itA as 0).length = (e₀ :: es).length) (l2 : ∀ j, (itK ks j).length = kws.length) :
    PE X (.Call (.Name x p) (e₀ :: es) kws pos) (tE G W TT (callF call ars fA fK)) := by
  refine (pe_callG (E := WE W) F hr hg hm hkp hb (passAt tk) ha hkw hn hko hdb).im fun σ H Q ⟨e, fps, re, pp⟩ => ⟨e, fps, re, pp.first .refl fun ts e1 vs H1 fps1 fp1 ex re1 r1 s1 p1 =>
    ⟨e1, fps1, re1, Post.both pp ex s1 rfl fun zs e2 us H2 fps2 fp2 ey re2 r2 s2 p2 s12 => ?_⟩⟩
  obtain ⟨ws1, q1, m1⟩ := r1
  obtain ⟨ws2, q2, m2⟩ := r2
  obtain ⟨v1, n1⟩ := mixA_val [] ws2 m1
  have v2 := mixK_val ws1 m2
  rw [List.nil_append] at v1
  rw [n1] at v2
  simp only [List.length_nil] at v1
  have q1' := q1.stay re1 s2
  have e0 : vs ++ us = (itA as 0 ++ itK ks (nvA as)).map (valAr σ (ws1 ++ ws2)) := by rw [List.map_append, v1, v2]
  refine ⟨by rw [v1, List.length_map]; exact l1, by rw [v2, List.length_map]; exact l2 _, ?_⟩
  rw [arr_permAr e0 hp]
  exact call_core hnd re2 (q1'.append q2 (s2.ap q1.rt.own q1.ap).2) s12 p2
theorem pm_call0 (F : FnOk X.prog X.w X.K X.mg X.base (L2.CX X.prog X.w) k f fd ps (spOf G call)) (hr : Room k X.A) (hg : Gl X x) (hm : X.mg x = some (.ref f)) (hkp : PySem.W.keepIn X.K (.ref f) = true)
    (hb : ∀ (s : Shared) (us ws : List Value), us.length = 0 → ws.length = kws.length → BindsTo s fd ⟨us, (kwNm kws).zip ws⟩ (ps.zip (arr .none perm us ws))) (tk : Takes X W)
    (hkw : PK X kws (tKw G W ks fK)) (hko : KwOk kws) (hdb : (x == ("__debug__" : Str)) = false) (hnd : ars.Nodup) (hp : permAr (itK ks 0) perm = some ars) (l2 : ∀ j, (itK ks j).length = kws.length) :
    PE X (.Call (.Name x p) [] kws pos) (tE G W TT (callF call ars (fun e => .ok [] e) fK)) := by
  refine (pe_callG0 (E := WE W) F hr hg hm hkp hb (passAt tk) hkw hko hdb).im fun σ H Q ⟨e, fps, re, pp⟩ => ⟨e, fps, re, pp.first .refl fun zs e2 us H2 fps2 fp2 ey re2 r2 s2 p2 => ?_⟩
  obtain ⟨ws2, q2, m2⟩ := r2
  have v2 := mixK_val [] m2
  simp only [List.length_nil, List.nil_append] at v2
  refine ⟨by rw [v2, List.length_map]; exact l2 _, ?_⟩
  have e0 : [] ++ us = (itK ks 0).map (valAr σ ws2) := by rw [List.nil_append, v2]
  rw [arr_permAr e0 hp]
  have pp' : Post G W TT σ H fps (relT G) ((fK e).bind fun zs e1 => (match takeAr ars zs e1 with
    | some (us, e2) => (match call us with
      | .ret t outs => (match putAr ars outs e2 with
        | some e3 => .ok t e3
        | none => .bad)
      | .exc x outs => (match putAr ars outs e2 with
        | some e3 => .exc x e3
        | none => .bad)
      | .bad => .bad)
    | none => .bad)) Q := pp
  rw [ey] at pp'
  exact call_core hnd re2 q2 s2 pp'
end
/-! ### what loops walk -/
/-- at turn i it gives the i-th of ds; what stood stands -/
def YD (K : Fg) (ds : List D) : Nat → Hp → V → Hp → Prop := fun i H x H' => (∀ a u, H a = some u → H' a = some u) ∧ ∀ d, ds[i]? = some d → RD K H' d x
structure Wk (K : Fg) (J : It) (ds : List D) (H : Hp) : Prop where
  wk : ∃ Gd : Hp → Prop, Gd H ∧ (∀ H1 H2, Fix H1 H2 → Gd H1 → Gd H2) ∧ Walk J ds.length Gd (YD K ds)
abbrev relJ (G : Gd) : Hp → Fp → List D → It → List Addr → Prop := fun H _ ds J fp => fp = [] ∧ ds.length ≤ line ∧ Wk G.K J ds H
abbrev tI (G : Gd) (W : WX) (f : Env → R (List D)) : TI := tG G W TT (relJ G) f
section
variable {K : Fg} {H : Hp} {ds : List D} {a : Addr} {vs : List V}
theorem wk_tup (h : SqT K H a vs) (r : RDs K H ds vs) : Wk K (Itt K a) ds H := by
  refine ⟨fun H => SqT K H a vs ∧ RDs K H ds vs, ⟨h, r⟩, fun H1 H2 f q => ⟨SqT.fix f q.1, RDs.fix f q.2⟩, ?_⟩
  rw [← r.length]
  refine walk_tup.mono (fun _ q => q.1) fun i H x H' _ q y => ?_
  obtain ⟨rfl, y⟩ := y
  refine ⟨fun _ _ h => h, fun d hd => ?_⟩
  obtain ⟨v, h1, h2⟩ := q.2.get hd
  rw [y] at h1; cases h1
  exact h2
theorem wk_lst (h : FzL K H a vs) (r : RDs K H ds vs) : Wk K (Itl K a) ds H := by
  refine ⟨fun H => FzL K H a vs ∧ RDs K H ds vs, ⟨h, r⟩, fun H1 H2 f q => ⟨FzL.fix f q.1, RDs.fix f q.2⟩, ?_⟩
  rw [← r.length]
  refine walk_list.mono (fun _ q => q.1.sq) fun i H x H' _ q y => ?_
  obtain ⟨rfl, y⟩ := y
  refine ⟨fun _ _ h => h, fun d hd => ?_⟩
  obtain ⟨v, h1, h2⟩ := q.2.get hd
  rw [y] at h1; cases h1
  exact h2
theorem wk_str {z : Str} : Wk K (Its z) (z.cps.toList.map fun c => .str ⟨#[c]⟩) H := by
  refine ⟨fun _ => True, trivial, fun _ _ _ h => h, ?_⟩
  rw [List.length_map, Array.length_toList]
  refine walk_str.mono (fun _ q => q) fun i H x H' hi q y => ?_
  obtain ⟨rfl, c, hc, rfl⟩ := y
  refine ⟨fun _ _ h => h, fun d hd => ?_⟩
  rw [List.getElem?_map, Array.getElem?_toList, hc] at hd
  cases hd
  exact rfl
theorem wk_rng {lo : Int} {n : Nat} : Wk K (Itr lo n) ((List.range n).map fun (i : Nat) => .int (lo + i)) H := by
  refine ⟨fun _ => True, trivial, fun _ _ _ h => h, ?_⟩
  rw [List.length_map, List.length_range]
  refine walk_range.mono (fun _ q => q) fun i H x H' hi q y => ?_
  obtain ⟨rfl, rfl⟩ := y
  refine ⟨fun _ _ h => h, fun d hd => ?_⟩
  rw [List.getElem?_map, List.getElem?_range hi] at hd
  cases hd
  exact rfl
theorem zip_wk {xs ys : List D} {us vs : List V} {J : It} {n : Nat} {P : Hp → Prop} (hP : P H) (fP : ∀ H1 H2, Fix H1 H2 → P H1 → P H2) (w : ∀ hn : n = min us.length vs.length, Walk J n P (YPair (fun i => us[i]?) (fun i => vs[i]?))) (hn : n = min us.length vs.length) (r : RDs K H xs us) (r' : RDs K H ys vs) :
    Wk K J ((xs.zip ys).map fun p => .tup [p.1, p.2]) H := by
  refine ⟨fun H => P H ∧ RDs K H xs us ∧ RDs K H ys vs, ⟨hP, r, r'⟩, fun H1 H2 f q => ⟨fP _ _ f q.1, RDs.fix f q.2.1, RDs.fix f q.2.2⟩, ?_⟩
  have e : ((xs.zip ys).map fun p => D.tup [p.1, p.2]).length = n := by rw [List.length_map, List.length_zip, hn, r.length, r'.length]
  rw [e]
  refine (w hn).mono (fun _ q => q.1) fun i H x H' hi q y => ?_
  obtain ⟨T, x1, y1, rfl, h2, rfl, h3, h4⟩ := y
  refine ⟨upd_old h2, fun d hd => ?_⟩
  rw [List.getElem?_map] at hd
  cases z : (xs.zip ys)[i]? with
  | none => rw [z] at hd; cases hd
  | some p =>
    rw [z] at hd
    cases hd
    have z' := List.getElem?_zip_eq_some.mp z
    obtain ⟨v, g1, g2⟩ := q.2.1.get z'.1
    obtain ⟨u, g3, g4⟩ := q.2.2.get z'.2
    dsimp only at h3 h4
    rw [h3] at g1; cases g1
    rw [h4] at g3; cases g3
    have fx := fix_of (upd_old (o := .tup [x1, y1]) h2)
    exact ⟨T, _, rfl, .of upd_same, x1, _, rfl, g2.fix fx, y1, _, rfl, g4.fix fx, rfl⟩
end
section
variable {X : L2.Cx} {G : Gd} {W : WX} {tg l m : Expr} {f g : Env → R T} {pos p : Pos}
/-- data that are walked -/
theorem pi_any {tl : TE} (hl : PE X l tl) : PI X tg l (fun σ H R => tl σ H fun x H1 => (∃ z, x = .str z ∧ R (Its z) H1) ∨ ∃ a, x = .ref a ∧ ((∃ xs, SqL X.K H1 a xs) ∧ R (Itl X.K a) H1 ∨ (∃ xs, SqT X.K H1 a xs) ∧ R (Itt X.K a) H1 ∨
    ∃ lo hi, H1 a = some (.rng lo hi) ∧ -(2 ^ 62) ≤ lo ∧ lo < 2 ^ 62 ∧ -(2 ^ 62) ≤ hi ∧ hi < 2 ^ 62 ∧ R (Itr lo (hi - lo).toNat) H1)) := by
  refine ⟨fun pins s σ H R I h => ?_⟩
  refine thn (hl.run pins s σ H _ I h) fun v s1 ⟨x, H1, I1, r1, q1⟩ => ?_
  rcases q1 with ⟨z, e, q⟩ | q1
  · subst e
    obtain ⟨t, rfl⟩ := r1
    cases ha : z.cps.all (· < 128)
    · exact wpAny_pyIter_wide ha (pi_one (tk := s1.toks) I1 _ (turn_str _ z t "str_iterator" (.inr rfl)) ⟨_, Heap.get?_push_size _ rfl, rfl, rfl⟩ q)
    · exact wpAny_pyIter_ascii ha (pi_one (tk := s1.toks) I1 _ (turn_str _ z t "str_ascii_iterator" (.inl rfl)) ⟨_, Heap.get?_push_size _ rfl, rfl, rfl⟩ q)
  obtain ⟨a, e, q1⟩ := q1
  subst e
  cases r1
  rcases q1 with ⟨⟨xs, hq⟩, q⟩ | ⟨⟨xs, hq⟩, q⟩ | ⟨lo, hi, hq, h1, h2, h3, h4, q⟩
  · obtain ⟨its, rv, p, hz⟩ := I1.list hq
    refine wpAny_pyIter_list p.isList ?_
    refine ⟨s1.heap.objs.size, [s1.heap.objs.size], _, _, H1, rfl, I1.kept (t' := s1.toks) fun b o e => Heap.get?_push_of_some _ e, turn_list a _, ⟨_, Heap.get?_push_size _ rfl, rfl, rfl⟩, fun b hb => ?_, q⟩
    have e : b = s1.heap.objs.size := by simpa using hb
    subst e
    exact I1.fpOk (Nat.le_refl _) (I1.hok.fresh (Nat.le_refl _))
  · obtain ⟨its, rv, p, hz⟩ := I1.tuple hq
    refine wpAny_pyIter_tuple (show s1.heap.IsTuple a its.toArray from p) ?_
    refine ⟨s1.heap.objs.size, [s1.heap.objs.size], _, _, H1, rfl, I1.kept (t' := s1.toks) fun b o e => Heap.get?_push_of_some _ e, turn_tuple a _, ⟨_, Heap.get?_push_size _ rfl, rfl, rfl⟩, fun b hb => ?_, q⟩
    have e : b = s1.heap.objs.size := by simpa using hb
    subst e
    exact I1.fpOk (Nat.le_refl _) (I1.hok.fresh (Nat.le_refl _))
  · obtain ⟨t, u, v, hg⟩ := (show ∃ t u v, s1.heap.get? a = some { cls := .type "range", data := .fields #[.int lo t, .int hi u, .int 1 v] } from I1.hok a _ hq)
    refine wpAny_pyIter_range hg (small_one h1 h2 h3 h4) ?_
    refine ⟨s1.heap.objs.size, [s1.heap.objs.size], _, _, H1, rfl, I1.kept (t' := s1.toks) fun b o e => Heap.get?_push_of_some _ e, turn_range _ lo (hi - lo).toNat, ?_, fun b hb => ?_, q⟩
    · have e1 : lo + ((0 : Nat) : Int) * 1 = lo := by simp
      have e2 : (((hi - lo).toNat : Nat) : Int) - ((0 : Nat) : Int) = Builtin.Range.rangeSize lo hi 1 := by rw [rangeSize_one]; split <;> omega
      show IsRangeIter _ _ (lo + ((0 : Nat) : Int) * 1) ((((hi - lo).toNat : Nat) : Int) - ((0 : Nat) : Int)) 1
      rw [e1, e2]
      exact Heap.get?_push_size _ rfl
    · have e : b = s1.heap.objs.size := by simpa using hb
      subst e
      exact I1.fpOk (Nat.le_refl _) (I1.hok.fresh (Nat.le_refl _))
/-- nothing that stands is too long -/
def SzOk (K : Fg) (H : Hp) : Prop := ∀ a xs, (SqT K H a xs ∨ SqL K H a xs) → xs.length ≤ sizeLine
theorem sz_of {pins : List (Addr × Obj)} {σ : L2.St} {H : Hp} {s : Shared} (I : Inv X pins σ H s) : SzOk X.K H := fun a xs h => by
  rcases h with h | h
  · obtain ⟨_, _, _, z⟩ := I.tuple h; exact z
  · obtain ⟨_, _, _, z⟩ := I.list h; exact z
theorem _root_.L2.PE.sz {e : Expr} {t : TE} (h : PE X e t) : PE X e (fun σ H Q => t σ H fun v H1 => SzOk X.K H1 → Q v H1) := ⟨fun pins s σ H Q I q => thn (h.run pins s σ H _ I q) fun u s1 ⟨v, H1, I1, r1, g⟩ => ⟨v, H1, I1, r1, g (sz_of I1)⟩⟩
theorem _root_.L2.PA.sz {e : List Expr} {t : TA} (h : PA X e t) : PA X e (fun σ H Q => t σ H fun v H1 => SzOk X.K H1 → Q v H1) := ⟨fun pos pins s σ H Q I q => thn (h.run pos pins s σ H _ I q) fun u s1 ⟨v, H1, I1, r1, g⟩ => ⟨v, H1, I1, r1, g (sz_of I1)⟩⟩
theorem pm_Id (hk : X.K = G.K) (hl : PE X l (tE G W TT f)) : PI X tg l (tI G W fun e => (f e).bind fun x e1 => (match dWalk x.fz with
    | some ds => .ok ds e1
    | none => .bad)) := by
  refine (pi_any (tg := tg) (hl.fz hk).sz).im fun σ H R ⟨e, fps, re, p⟩ => ⟨e, fps, re, p.first .refl fun x e1 v H1 fps1 fp1 ex re1 r1 s1 p1 sz => ?_⟩
  obtain ⟨r1, rfl⟩ := r1
  rw [hk] at sz ⊢
  cases q : dWalk x.fz with
  | none => rw [q] at p1; exact p1.elim
  | some ds =>
    rw [q] at p1
    unfold dWalk at q
    split at q
    · cases q
      rename_i hx
      rw [hx] at r1
      obtain ⟨a, vs, rfl, hs, hr⟩ := r1
      exact .inr ⟨a, rfl, .inr (.inl ⟨⟨vs, hs⟩, p1 _ H1 fps1 [] re1 ⟨rfl, by have := sz a vs (.inl hs); rw [hr.length, sizeLine_eq] at this; exact this, wk_tup hs hr⟩ .refl⟩)⟩
    · cases q
      rename_i hx
      rw [hx] at r1
      obtain ⟨a, vs, rfl, hs, hr⟩ := r1
      exact .inr ⟨a, rfl, .inl ⟨⟨vs, hs.sq⟩, p1 _ H1 fps1 [] re1 ⟨rfl, by have := sz a vs (.inr hs.sq); rw [hr.length, sizeLine_eq] at this; exact this, wk_lst hs hr⟩ .refl⟩⟩
    · split at q <;> cases q
      rename_i lo n hx hz
      rw [hx] at r1
      obtain ⟨a, hi, rfl, hs, rfl, h1, h2, h3, h4⟩ := r1
      exact .inr ⟨a, rfl, .inr (.inr ⟨lo, hi, hs, h1, h2, h3, h4, p1 _ H1 fps1 [] re1 ⟨rfl, by rw [List.length_map, List.length_range]; exact hz, wk_rng⟩ .refl⟩)⟩
    · split at q <;> cases q
      rename_i z hx hz
      rw [hx] at r1
      cases r1
      exact .inl ⟨z, rfl, p1 _ H1 fps1 [] re1 ⟨rfl, by rw [List.length_map, Array.length_toList]; exact hz, wk_str⟩ .refl⟩
    · cases q
theorem walk_zipT {K : Fg} {a b : Addr} {xs ys : List V} {n : Nat} (hn : n = min xs.length ys.length) : Walk (RZ.ItzT K a b) n (fun H => SqT K H a xs ∧ SqT K H b ys) (YPair (fun i => xs[i]?) (fun i => ys[i]?)) := by
  subst hn
  refine ⟨fun i _ hi q => ?_, fun _ q => ⟨xs, ys, q.1, q.2, by omega⟩, fun i H v H' _ q y => ?_⟩
  · have h1 : i < xs.length := by omega
    have h2 : i < ys.length := by omega
    exact ⟨xs, ys, xs[i], ys[i], q.1, q.2, by simp [h1], by simp [h2]⟩
  · obtain ⟨T, x, y, h1, h2, h3, h4, h5⟩ := y
    exact ⟨T, x, y, h1, h2, h3, h4 xs q.1, h5 ys q.2⟩
theorem pm_Izp {elts : List Expr} {tpos : Pos} (hk : X.K = G.K) (hg : Gl X "zip") (hm : X.mg "zip" = none) (hl : PE X l (tE G W TT f)) (hr : PE X m (tE G W TT g)) (nl : Nice l) (nm : Nice m) :
    PI X (.Tuple elts 0 tpos) (.Call (.Name "zip" p) [l, m] [] pos) (tI G W fun e => (f e).bind fun x e1 => (g e1).bind fun y e2 => (match dZip x.fz y.fz with
    | some ds => .ok ds e2
    | none => .bad)) := by
  have h2 : PA X [l, m] (fun σ H Q => tF G W TT f σ H fun v H1 => tF G W TT g σ H1 fun u H2 => SzOk X.K H2 → Q [v, u] H2) := (pa_cons (hl.fz hk) (pa_cons (hr.fz hk) pa_nil (nm.ns _ _)) (nl.ns _ _)).sz.im fun σ H Q h => h
  refine (RZ.pi_zipA hg hm h2 (nl.ns _ _) (star_any fun e he => by simp at he; subst he; exact nm)).im fun σ H R ⟨e, fps, re, p⟩ => ⟨e, fps, re, p.first .refl fun x e1 v H1 fps1 fp1 ex re1 r1 s1 p1 => ⟨e1, fps1, re1, p1.first .refl fun y e2 u H2 fps2 fp2 ey re2 r2 s2 p2 sz => ?_⟩⟩
  obtain ⟨r1, rfl⟩ := r1
  obtain ⟨r2, rfl⟩ := r2
  have r1 := r1.fix (s2.fix re1)
  rw [hk] at sz ⊢
  cases q : dZip x.fz y.fz with
  | none => rw [q] at p2; exact p2.elim
  | some ds =>
    rw [q] at p2
    unfold dZip at q
    split at q
    · cases q
      rename_i hx hy
      rw [hx] at r1; rw [hy] at r2
      obtain ⟨a, vs, rfl, hs, hr⟩ := r1
      obtain ⟨b, us, rfl, hs', hr'⟩ := r2
      refine ⟨a, b, vs, us, rfl, .inr ⟨hs, hs', p2 _ H2 fps2 [] re2 ⟨rfl, ?_, zip_wk (n := min vs.length us.length) (P := fun H => SqT G.K H a vs ∧ SqT G.K H b us) ⟨hs, hs'⟩ (fun _ _ f q => ⟨SqT.fix f q.1, SqT.fix f q.2⟩) (fun hn => walk_zipT hn) rfl hr hr'⟩ .refl⟩⟩
      have := sz a vs (.inl hs)
      rw [hr.length, sizeLine_eq] at this
      rw [List.length_map, List.length_zip]
      exact Nat.le_trans (Nat.min_le_left _ _) this
    · cases q
      rename_i hx hy
      rw [hx] at r1; rw [hy] at r2
      obtain ⟨a, vs, rfl, hs, hr⟩ := r1
      obtain ⟨b, us, rfl, hs', hr'⟩ := r2
      refine ⟨a, b, vs, us, rfl, .inl ⟨hs.sq, hs'.sq, p2 _ H2 fps2 [] re2 ⟨rfl, ?_, zip_wk (n := min vs.length us.length) (P := fun H => FzL G.K H a vs ∧ FzL G.K H b us) ⟨hs, hs'⟩ (fun _ _ f q => ⟨FzL.fix f q.1, FzL.fix f q.2⟩) (fun hn => (walk_zip hn).mono (fun _ q => ⟨q.1.sq, q.2.sq⟩) fun _ _ _ _ _ _ y => y) rfl hr hr'⟩ .refl⟩⟩
      have := sz a vs (.inr hs.sq)
      rw [hr.length, sizeLine_eq] at this
      rw [List.length_map, List.length_zip]
      exact Nat.le_trans (Nat.min_le_left _ _) this
    · cases q
theorem en_wk {K : Fg} {H : Hp} {a : Addr} {xs : List D} {us : List V} (h : FzL K H a us) (r : RDs K H xs us) : Wk K (Ite K a) (xs.zipIdx.map fun p => .tup [.int (p.2 : Nat), p.1]) H := by
  refine ⟨fun H => FzL K H a us ∧ RDs K H xs us, ⟨h, r⟩, fun H1 H2 f q => ⟨FzL.fix f q.1, RDs.fix f q.2⟩, ?_⟩
  have e : (xs.zipIdx.map fun p => D.tup [.int (p.2 : Nat), p.1]).length = us.length := by rw [List.length_map, List.length_zipIdx, r.length]
  rw [e]
  refine walk_enum.mono (fun _ q => q.1.sq) fun i H x H' hi q y => ?_
  obtain ⟨T, x1, y1, rfl, h2, rfl, h3, h4⟩ := y
  refine ⟨upd_old h2, fun d hd => ?_⟩
  rw [List.getElem?_map, List.getElem?_zipIdx] at hd
  cases z : xs[i]? with
  | none => rw [z] at hd; cases hd
  | some p =>
    rw [z] at hd
    simp only [Option.map_some, Nat.zero_add, Option.some.injEq] at hd
    subst hd
    obtain ⟨v, g1, g2⟩ := q.2.get z
    dsimp only at h3 h4
    rw [h4] at g1; cases g1
    cases h3
    exact ⟨T, _, rfl, .of upd_same, .int i, _, rfl, rfl, y1, _, rfl, g2.fix (fix_of (upd_old h2)), rfl⟩
theorem pm_Ien {elts : List Expr} {tpos : Pos} (hk : X.K = G.K) (hg : Gl X "enumerate") (hm : X.mg "enumerate" = none) (hl : PE X l (tE G W TT f)) (nl : Nice l) :
    PI X (.Tuple elts 0 tpos) (.Call (.Name "enumerate" p) [l] [] pos) (tI G W fun e => (f e).bind fun x e1 => (match dEn x.fz with
    | some ds => .ok ds e1
    | none => .bad)) := by
  have h2 : PA X [l] (fun σ H Q => tF G W TT f σ H fun v H1 => SzOk X.K H1 → Q [v] H1) := (pa_cons (hl.fz hk) pa_nil (nl.ns _ _)).sz.im fun σ H Q h => h
  refine (pi_enum hg hm h2 (nl.ns _ _)).im fun σ H R ⟨e, fps, re, p⟩ => ⟨e, fps, re, p.first .refl fun x e1 v H1 fps1 fp1 ex re1 r1 s1 p1 sz => ?_⟩
  obtain ⟨r1, rfl⟩ := r1
  rw [hk] at sz ⊢
  cases q : dEn x.fz with
  | none => rw [q] at p1; exact p1.elim
  | some ds =>
    rw [q] at p1
    unfold dEn at q
    split at q
    · cases q
      rename_i hx
      rw [hx] at r1
      obtain ⟨a, vs, rfl, hs, hr⟩ := r1
      refine ⟨a, vs, rfl, hs.sq, p1 _ H1 fps1 [] re1 ⟨rfl, ?_, en_wk hs hr⟩ .refl⟩
      have := sz a vs (.inr hs.sq)
      rw [hr.length, sizeLine_eq] at this
      rw [List.length_map, List.length_zipIdx]
      exact this
    · cases q
end
end Mi
end
section
set_option maxRecDepth 100000
/-! Mi16: targets, comprehensions. -/
namespace Mi
open PySem L2 PySem.Spec PyProof.Rows
section
variable {K : Fg} {H : Hp} {e : Env} {σ : L2.St} {fps : Fp} {i : Nat}
/-- a name is stored -/
theorem RE.store {t : T} {v : V} {fp : List Addr} (re : RE K H e σ fps) (hl : i < e.length) (r : RT K H t v fp) (nd : fp.Nodup) (ap : ∀ a ∈ fp, ∀ j, j ≠ i → a ∉ fps j) : RE K H (e.set i (some t)) (σ.set i (some v)) (updF fps i fp) where
  len := by rw [List.length_set, List.length_set]; exact re.len
  rep := fun j u hu => by
    by_cases hj : j = i
    · subst hj
      rw [getL_set_eq hl] at hu
      cases hu
      exact ⟨v, by rw [List.getElem?_set_self (by rw [← re.len]; exact hl)], by rw [updF_eq]; exact r⟩
    · rw [getL_set_ne hj] at hu
      obtain ⟨w, h1, h2⟩ := re.rep j u hu
      exact ⟨w, by rw [List.getElem?_set_ne (Ne.symm hj)]; exact h1, by rw [updF_ne hj]; exact h2⟩
  emp := fun j hj => by
    by_cases q : j = i
    · subst q
      rw [getL_set_eq hl] at hj; cases hj
    · rw [getL_set_ne q] at hj
      rw [updF_ne q]; exact re.emp j hj
  nd := fun j => by
    by_cases q : j = i
    · subst q; rw [updF_eq]; exact nd
    · rw [updF_ne q]; exact re.nd j
  dis := fun j k a hj hk => by
    by_cases q : j = i
    · subst q
      by_cases q2 : k = j
      · exact q2.symm
      · rw [updF_eq] at hj; rw [updF_ne q2] at hk
        exact (ap a hj k q2 hk).elim
    · by_cases q2 : k = i
      · subst q2
        rw [updF_eq] at hk; rw [updF_ne q] at hj
        exact (ap a hk j q hj).elim
      · rw [updF_ne q] at hj; rw [updF_ne q2] at hk
        exact re.dis j k a hj hk
/-- a slot emptied on both sides -/
theorem RE.wipe1 (re : RE K H e σ fps) : RE K H (e.set i none) (σ.set i none) (updF fps i []) where
  len := by rw [List.length_set, List.length_set]; exact re.len
  rep := fun j u hu => by
    by_cases hj : j = i
    · subst hj
      by_cases hl : j < e.length
      · rw [getL_set_eq hl] at hu; cases hu
      · have := getL_lt hu
        rw [List.length_set] at this
        exact (hl this).elim
    · rw [getL_set_ne hj] at hu
      obtain ⟨w, h1, h2⟩ := re.rep j u hu
      exact ⟨w, by rw [List.getElem?_set_ne (Ne.symm hj)]; exact h1, by rw [updF_ne hj]; exact h2⟩
  emp := re.drop.emp
  nd := re.drop.nd
  dis := re.drop.dis
def wipeF : List Nat → Fp → Fp
  | [], g => g
  | v :: vs, g => updF (wipeF vs g) v []
theorem wipeF_in {own : List Nat} {g : Fp} {j : Nat} (h : j ∈ own) : wipeF own g j = [] := by
  induction own with
  | nil => cases h
  | cons v vs ih =>
    unfold wipeF
    by_cases q : j = v
    · subst q; exact updF_eq
    · rw [updF_ne q]; exact ih (by simpa [q] using h)
theorem wipeF_out {own : List Nat} {g : Fp} {j : Nat} (h : j ∉ own) : wipeF own g j = g j := by
  induction own with
  | nil => rfl
  | cons v vs ih =>
    unfold wipeF
    rw [updF_ne fun q => h (by simp [q])]
    exact ih fun q => h (by simp [q])
theorem wipeF_sub {own : List Nat} {g : Fp} {j : Nat} {a : Addr} (h : a ∈ wipeF own g j) : a ∈ g j := by
  by_cases q : j ∈ own
  · rw [wipeF_in q] at h; cases h
  · rw [wipeF_out q] at h; exact h
theorem RE.wipe (re : RE K H e σ fps) : ∀ own : List Nat, RE K H (Mi.wipe own e) (L2.wipe σ own) (wipeF own fps)
  | [] => re
  | v :: vs => by
    unfold Mi.wipe L2.wipe wipeF
    exact (re.wipe vs).wipe1
theorem wipe_len (own : List Nat) (e : Env) : (Mi.wipe own e).length = e.length := by
  induction own with
  | nil => rfl
  | cons v vs ih => unfold Mi.wipe; rw [List.length_set, ih]
theorem getL_wipe {own : List Nat} {e : Env} {j : Nat} : getL (Mi.wipe own e) j = if j ∈ own then none else getL e j := by
  induction own with
  | nil => simp [Mi.wipe]
  | cons v vs ih =>
    unfold Mi.wipe
    by_cases q : j = v
    · subst q
      by_cases hl : j < (Mi.wipe vs e).length
      · rw [getL_set_eq hl]; simp
      · rw [if_pos (by simp)]
        unfold getL
        rw [List.getElem?_eq_none (by rw [List.length_set]; omega)]
        rfl
    · rw [getL_set_ne q, ih]
      simp [q]
theorem getL_back {own : List Nat} {e₀ e : Env} {j : Nat} (hl : e₀.length = e.length) : getL (back own e₀ e) j = if j ∈ own then getL e₀ j else getL e j := by
  have len : ∀ own : List Nat, (back own e₀ e).length = e.length := fun own => by
    induction own with
    | nil => rfl
    | cons v vs ih => unfold back; rw [List.length_set, ih]
  induction own with
  | nil => simp [back]
  | cons v vs ih =>
    unfold back
    by_cases q : j = v
    · subst q
      rw [if_pos (by simp)]
      by_cases hj : j < e.length
      · rw [getL_set_eq (by rw [len]; exact hj)]
      · unfold getL
        rw [List.getElem?_eq_none (by rw [List.length_set, len]; omega), List.getElem?_eq_none (by rw [hl]; omega)]
    · rw [getL_set_ne q, ih]
      simp [q]
theorem back_len (own : List Nat) (e₀ e : Env) : (back own e₀ e).length = e.length := by
  induction own with
  | nil => rfl
  | cons v vs ih => unfold back; rw [List.length_set, ih]
theorem l2wipe_get {σ : L2.St} {own : List Nat} {j : Nat} (h : j ∉ own) : (L2.wipe σ own)[j]? = σ[j]? := wipe_out h
/-- behind the block: the names of its own as they were -/
theorem RE.back {own : List Nat} {H1 : Hp} {e1 : Env} {fps1 : Fp} (re : RE K H e σ fps) (r1 : RE K H1 e1 (L2.wipe σ own) fps1) (e0 : ∀ j ∈ own, getL e1 j = none) (f : Fix H H1) (k : ∀ j ∈ own, ∀ a ∈ fps j, H1 a = H a) (ap : ∀ j ∈ own, ∀ a ∈ fps j, ∀ i, a ∉ fps1 i) :
    RE K H1 (Mi.back own e e1) σ fun j => if j ∈ own then fps j else fps1 j where
  len := by
    rw [back_len, r1.len, L2.wipe_length]
  rep := fun j u hu => by
    rw [getL_back (by rw [re.len, r1.len, L2.wipe_length])] at hu
    by_cases q : j ∈ own
    · rw [if_pos q] at hu ⊢
      obtain ⟨v, h1, h2⟩ := re.rep j u hu
      exact ⟨v, h1, h2.stay f (k j q)⟩
    · rw [if_neg q] at hu ⊢
      obtain ⟨v, h1, h2⟩ := r1.rep j u hu
      exact ⟨v, by rw [← l2wipe_get q]; exact h1, h2⟩
  emp := fun j hj => by
    rw [getL_back (by rw [re.len, r1.len, L2.wipe_length])] at hj
    by_cases q : j ∈ own
    · rw [if_pos q] at hj ⊢
      exact re.emp j hj
    · rw [if_neg q] at hj ⊢
      exact r1.emp j hj
  nd := fun j => by
    by_cases q : j ∈ own
    · rw [if_pos q]; exact re.nd j
    · rw [if_neg q]; exact r1.nd j
  dis := fun i j a hi hj => by
    by_cases q : i ∈ own
    · rw [if_pos q] at hi
      by_cases q2 : j ∈ own
      · rw [if_pos q2] at hj; exact re.dis i j a hi hj
      · rw [if_neg q2] at hj; exact (ap i q a hi j hj).elim
    · rw [if_neg q] at hi
      by_cases q2 : j ∈ own
      · rw [if_pos q2] at hj; exact (ap j q2 a hj i hi).elim
      · rw [if_neg q2] at hj; exact r1.dis i j a hi hj
end
/-! ### targets -/
def gNms : List Nat → TGs
  | [] => gNil
  | i :: r => gCons (gName i) (gNms r)
def gT (K : Fg) : Tg → TG
  | .nm i => gName i
  | .tp is => fun v σ H Q => gTup K is.length (gNms is) v σ H Q ∨ gLst K is.length (gNms is) v σ H Q
def Tg.slots : Tg → List Nat
  | .nm i => [i]
  | .tp is => is
theorem setE_some {c : Cx} {i : Nat} {t : T} {e e' : Env} (h : setE c i t e = some e') : i < e.length ∧ e' = e.set i (some t) ∧ c.io.contains i = false := by
  unfold setE at h
  split at h
  · cases h
  · rename_i hn
    split at h <;> cases h
    rename_i hl
    exact ⟨hl, rfl, by simpa using hn⟩
section
variable {K : Fg} {c : Cx}
/-- a change of slots: those of own only, never a kept parameter's -/
structure Sch (c : Cx) (own : List Nat) (σ σ' : L2.St) (fps fps' : Fp) : Prop where
  out : ∀ j, j ∉ own → σ'[j]? = σ[j]?
  kept : ∀ j, c.io.contains j = true → σ'[j]? = σ[j]?
  sub : ∀ j a, a ∈ fps' j → a ∈ fps j
  len : σ'.length = σ.length
theorem Sch.refl {own : List Nat} {σ : L2.St} {fps : Fp} : Sch c own σ σ fps fps := ⟨fun _ _ => rfl, fun _ _ => rfl, fun _ _ h => h, rfl⟩
theorem Sch.trans {own : List Nat} {σ σ1 σ2 : L2.St} {f f1 f2 : Fp} (a : Sch c own σ σ1 f f1) (b : Sch c own σ1 σ2 f1 f2) : Sch c own σ σ2 f f2 :=
  ⟨fun j h => (b.out j h).trans (a.out j h), fun j h => (b.kept j h).trans (a.kept j h), fun j x h => a.sub j x (b.sub j x h), b.len.trans a.len⟩
theorem set_ok {H : Hp} {e e' : Env} {σ : L2.St} {fps : Fp} {i : Nat} {d : D} {x : V} {own : List Nat} (re : RE K H e σ fps) (hx : RD K H d x) (h : setE c i (.leaf d) e = some e') (hi : i ∈ own) :
    ∃ fps', RE K H e' (σ.set i (some x)) fps' ∧ Sch c own σ (σ.set i (some x)) fps fps' := by
  obtain ⟨h1, rfl, h3⟩ := setE_some h
  refine ⟨_, re.store (t := .leaf d) (v := x) (fp := []) h1 ⟨hx, rfl⟩ .nil (fun _ h => nomatch h), ⟨fun j hj => ?_, fun j hj => ?_, fun j a ha => ?_, by rw [List.length_set]⟩⟩
  · exact List.getElem?_set_ne (fun q => by subst q; exact hj hi)
  · refine List.getElem?_set_ne fun q => ?_
    subst q; rw [h3] at hj; cases hj
  · by_cases q : j = i
    · subst q; rw [updF_eq] at ha; cases ha
    · rw [updF_ne q] at ha; exact ha
theorem nms_ok {H : Hp} {Q : L2.St → Hp → Prop} {own : List Nat} : ∀ {is : List Nat} {xs : List D} {vs : List V} {e e' : Env} {σ : L2.St} {fps : Fp}, RE K H e σ fps → RDs K H xs vs → (is.zip xs).foldlM (fun e (p : Nat × D) => setE c p.1 (.leaf p.2) e) e = some e' → is.length = xs.length → (∀ i ∈ is, i ∈ own) →
    (∀ σ' fps', RE K H e' σ' fps' → Sch c own σ σ' fps fps' → Q σ' H) → gNms is vs σ H Q
  | [], [], _, e, e', σ, fps, re, hv, h, _, _, q => by
    cases hv
    simp only [List.zip_nil_left, List.foldlM_nil] at h
    cases h
    exact ⟨rfl, q σ fps re .refl⟩
  | [], _ :: _, _, _, _, _, _, _, _, _, hl, _, _ => by simp at hl
  | _ :: _, [], _, _, _, _, _, _, _, _, hl, _, _ => by simp at hl
  | i :: is, x :: xs, _, e, e', σ, fps, re, hv, h, hl, ho, q => by
    obtain ⟨v, r, rfl, h1, h2⟩ := hv
    simp only [List.zip_cons_cons, List.foldlM_cons, Option.bind_eq_bind, Option.bind_eq_some_iff] at h
    obtain ⟨e1, h3, h4⟩ := h
    obtain ⟨fps1, re1, s1⟩ := set_ok (own := own) re h1 h3 (ho i (by simp))
    exact ⟨v, r, rfl, nms_ok re1 h2 h4 (by simpa using hl) (fun j hj => ho j (by simp [hj])) fun σ' fps' re' s' => q σ' fps' re' (s1.trans s')⟩
theorem tg_ok {H : Hp} {Q : L2.St → Hp → Prop} {own : List Nat} {tg : Tg} {d : D} {x : V} {e e' : Env} {σ : L2.St} {fps : Fp} (re : RE K H e σ fps) (hx : RD K H d x) (h : bindTg c tg d e = some e') (ho : ∀ i ∈ tg.slots, i ∈ own)
    (q : ∀ σ' fps', RE K H e' σ' fps' → Sch c own σ σ' fps fps' → Q σ' H) : gT K tg x σ H Q := by
  cases tg with
  | nm i =>
    obtain ⟨fps1, re1, s1⟩ := set_ok (own := own) re hx h (ho i (by simp [Tg.slots]))
    exact q _ _ re1 s1
  | tp is =>
    cases d with
    | tup xs =>
      simp only [bindTg] at h
      split at h
      · rename_i hl
        obtain ⟨a, vs, rfl, hs, hr⟩ := hx
        exact .inl ⟨a, vs, rfl, hs, by rw [hr.length, hl], nms_ok re hr h hl ho q⟩
      · cases h
    | lst xs =>
      simp only [bindTg] at h
      split at h
      · rename_i hl
        obtain ⟨a, vs, rfl, hs, hr⟩ := hx
        exact .inr ⟨a, vs, rfl, hs.sq, by rw [hr.length, hl], nms_ok re hr h hl ho q⟩
      · cases h
    | _ => cases h
end
end Mi
end
section
set_option maxRecDepth 100000
/-! Mi17: comprehensions. -/
namespace Mi
open PySem L2 PySem.Spec PyProof.Rows
section
variable {K : Fg} {H H1 H4 : Hp} {e e5 : Env} {σ σ2 : L2.St} {fps fps4 F0 : Fp} {D : Addr}
theorem Stp.updAt {fp : List Addr} {o : HO} (s : Stp TT H F0 H4 fps4 fp) (hD : D ∈ fp) : Stp TT H F0 (upd H4 D o) fps4 fp :=
  .mk' (fun a u h n => by
    rw [upd_ne (by
      intro q; subst q
      rcases s.new a (.inl hD) with ⟨i, hi⟩ | hn
      · exact n i hi
      · rw [h] at hn; cases hn)]
    exact s.keep a u h n) s.new
theorem Stp.wipe {fp : List Addr} (own : List Nat) (s : Stp TT H F0 H4 fps4 fp) : Stp TT H F0 H4 (wipeF own fps4) fp :=
  .mk' s.keep fun a ha => s.new a (ha.imp id fun ⟨i, hi⟩ => ⟨i, wipeF_sub hi⟩)
theorem Res.wipe {t : T} {v : V} {fp : List Addr} (own : List Nat) (r : Res K H fps t v fp) : Res K H (wipeF own fps) t v fp := ⟨r.rt, r.nd, fun a ha i hi => r.ap a ha i (wipeF_sub hi)⟩
theorem Res.sub {t : T} {v : V} {fp : List Addr} {f2 : Fp} (r : Res K H fps t v fp) (h : ∀ j a, a ∈ f2 j → a ∈ fps j) : Res K H f2 t v fp := ⟨r.rt, r.nd, fun a ha i hi => r.ap a ha i (h i a hi)⟩
theorem Stp.sub {fp : List Addr} {f2 : Fp} (s : Stp TT H F0 H4 fps4 fp) (h : ∀ j a, a ∈ f2 j → a ∈ fps4 j) : Stp TT H F0 H4 f2 fp :=
  .mk' s.keep fun a ha => s.new a (ha.imp id fun ⟨i, hi⟩ => ⟨i, h i a hi⟩)
/-- one more result at the list's end -/
theorem acc_step {accT : List T} {t : T} {y : V} {fpD fp4 : List Addr} (re : RE K H e σ fps) (acc : Res K H fps (.lst accT) (.ref D) fpD) (s : Stp TT H fps H4 fps4 fp4) (re4 : RE K H4 e5 σ2 fps4) (r : Res K H4 fps4 t y fp4) (s0 : Stp TT H1 F0 H fps fpD) :
    ∃ accV, H4 D = some (.lst accV) ∧ accV.length = accT.length ∧ RE K (upd H4 D (.lst (accV ++ [y]))) e5 σ2 fps4 ∧ ∃ fpD', Res K (upd H4 D (.lst (accV ++ [y]))) fps4 (.lst (accT ++ [t])) (.ref D) fpD' ∧ Stp TT H1 F0 (upd H4 D (.lst (accV ++ [y]))) fps4 fpD' := by
  have acc4 := acc.stay re s
  have dj := (s.ap acc.rt.own acc.ap).2
  obtain ⟨⟨a, vs, f, e, ha, hr, rfl⟩, nd, ap⟩ := acc4
  cases e
  have fx : Fix H4 (upd H4 D (.lst (vs ++ [y]))) := fun b u hb ho => by
    by_cases q : b = D
    · subst q; rw [ha] at hb; cases hb; cases ho
    · rw [upd_ne q]; exact hb
  have nD : D ∉ f := (List.nodup_cons.mp nd).1
  have nd2 := (List.nodup_cons.mp nd).2
  have nf : ∀ a ∈ fp4, a ≠ D := fun a ha q => dj D (by simp) (q ▸ ha)
  refine ⟨vs, ha, hr.len.symm, re4.stay fx fun i a hi => upd_ne fun q => ap D (by simp) i (q ▸ hi), D :: (f ++ fp4), ⟨⟨D, _, f ++ fp4, rfl, upd_same, RTs.append (hr.stay fx fun a h => upd_ne fun q => nD (q ▸ h)) ⟨y, [], fp4, [], rfl, by simp, r.rt.stay fx fun a h => upd_ne (nf a h), rfl, rfl⟩, rfl⟩, ?_, ?_⟩, ?_⟩
  · refine List.nodup_cons.mpr ⟨fun q => ?_, List.nodup_append.mpr ⟨nd2, r.nd, fun a h1 b h2 q => dj a (by simp [h1]) (q ▸ h2)⟩⟩
    rcases List.mem_append.mp q with q | q
    · exact nD q
    · exact nf D q rfl
  · intro a h i hi
    rcases List.mem_cons.mp h with rfl | h
    · exact ap a (by simp) i hi
    rcases List.mem_append.mp h with h | h
    · exact ap a (by simp [h]) i hi
    · exact r.ap a h i hi
  · refine Stp.updAt ((s0.trans s).tt.less fun a h => ?_) (by simp)
    simp only [List.mem_cons, List.mem_append] at h ⊢
    exact or_assoc.mpr h
end
/-- nothing may be raised here -/
abbrev WF : WX := fun _ _ _ _ => False
section
variable {X : L2.Cx} {G : Gd} {W : WX} {K : Fg} {c : Cx}
def turnF (c : Cx) (tg : Tg) (fC fE : Env → R T) : D → Env → R (Option T) := fun d e2 => match bindTg c tg d e2 with
      | some e3 => (fC e3).bind fun v e4 => (match v with
        | .leaf (.bl true) => (fE e4).bind fun t e5 => .ok (some t) e5
        | .leaf (.bl false) => .ok none e4
        | _ => .bad)
      | none => .bad
def lcF (c : Cx) (tg : Tg) (fI : Env → R (List D)) (fC fE : Env → R T) (own : List Nat) : Env → R T := fun e => (fI e).bind fun ds e1 => match compL own (turnF c tg fC fE) ds [] (wipe own e1) with
    | .ok ts e2 => .ok (.lst ts) (back own e1 e2)
    | _ => .bad
theorem wipe_eq {own : List Nat} {σ σ2 : L2.St} (h : ∀ j, j ∉ own → σ2[j]? = σ[j]?) (hl : σ2.length = σ.length) : L2.wipe σ2 own = L2.wipe σ own := by
  refine List.ext_getElem? fun j => ?_
  have in' : ∀ (own : List Nat) (τ : L2.St), j ∈ own → (L2.wipe τ own)[j]? = if j < τ.length then some none else none := fun own τ h => by
    induction own with
    | nil => cases h
    | cons v vs ih =>
      unfold L2.wipe
      by_cases q : j = v
      · subst q
        by_cases hj : j < τ.length
        · rw [List.getElem?_set_self (by rw [wipe_length]; exact hj), if_pos hj]
        · rw [if_neg hj, List.getElem?_eq_none (by rw [List.length_set, wipe_length]; omega)]
      · rw [List.getElem?_set_ne (Ne.symm q)]
        exact ih (by simpa [q] using h)
  by_cases q : j ∈ own
  · rw [in' own σ2 q, in' own σ q, hl]
  · rw [l2wipe_get q, l2wipe_get q, h j q]
theorem wipe_wipe {own own' : List Nat} {σ : L2.St} (h : ∀ j ∈ own', j ∈ own) : L2.wipe (L2.wipe σ own') own = L2.wipe σ own :=
  wipe_eq (fun j q => l2wipe_get fun z => q (h j z)) (wipe_length _ _)
theorem wipe_turn {own : List Nat} {σ σ2 : L2.St} {f f2 : Fp} (s : Sch c own (L2.wipe σ own) σ2 f f2) : L2.wipe σ2 own = L2.wipe σ own :=
  wipe_eq (fun j q => (s.out j q).trans (l2wipe_get q)) (s.len.trans (wipe_length _ _))
theorem tauto_new {H : Hp} {fps : Fp} {own : List Nat} {e : Env} {σ : L2.St} (re : RE K H e σ fps) {H' : Hp} {f2 : Fp} {fp : List Addr} (s : Stp TT H (wipeF own fps) H' f2 fp) : ∀ j ∈ own, ∀ a ∈ fps j, a ∉ fp ∧ (∀ i, a ∉ f2 i) ∧ H' a = H a := by
  intro j hj a ha
  have no : ∀ i, a ∉ wipeF own fps i := fun i hi => by
    have := re.dis i j a (wipeF_sub hi) ha
    subst this
    rw [wipeF_in hj] at hi; cases hi
  obtain ⟨u, hu, _⟩ := re.own ha
  have no2 : ¬ ((∃ i, a ∈ wipeF own fps i) ∨ H a = none) := by
    rintro (⟨i, hi⟩ | hn)
    · exact no i hi
    · rw [hu] at hn; cases hn
  exact ⟨fun q => no2 (s.new a (.inl q)), fun i q => no2 (s.new a (.inr ⟨i, q⟩)), by rw [hu]; exact s.keep a u hu no⟩
/-- behind the last turn -/
theorem lc_end {Q : VK} {own : List Nat} {D : Addr} {H1 H' : Hp} {e1 ei : Env} {σ : L2.St} {fps1 fpsi : Fp} {ts : List T} {fpD : List Addr} (re1 : RE G.K H1 e1 σ fps1) (rei : RE G.K H' ei (L2.wipe σ own) fpsi) (e0 : ∀ j ∈ own, getL ei j = none) (acc : Res G.K H' fpsi (.lst ts) (.ref D) fpD) (s : Stp TT H1 (wipeF own fps1) H' fpsi fpD)
    (p : Post G W TT σ H1 fps1 (relT G) (.ok (.lst ts) (back own e1 ei)) Q) : Q (.ref D) H' := by
  have n := tauto_new re1 s
  have fx : Fix H1 H' := s.fix (re1.wipe own)
  refine p (.ref D) H' _ fpD (re1.back rei e0 fx (fun j hj a ha => (n j hj a ha).2.2) fun j hj a ha => (n j hj a ha).2.1) ⟨acc.rt, acc.nd, fun a ha i hi => ?_⟩ (.mk' (fun a u h q => s.keep a u h fun i hi => q i (wipeF_sub hi)) fun a ha => ?_)
  · split at hi
    · rename_i q
      exact (n i q a hi).1 ha
    · exact acc.ap a ha i hi
  · have old : ((∃ i, a ∈ wipeF own fps1 i) ∨ H1 a = none) → ((∃ i, a ∈ fps1 i) ∨ H1 a = none) := fun q => q.imp (fun ⟨i, hi⟩ => ⟨i, wipeF_sub hi⟩) id
    rcases ha with ha | ⟨i, hi⟩
    · exact old (s.new a (.inl ha))
    · split at hi
      · exact .inl ⟨i, hi⟩
      · exact old (s.new a (.inr ⟨i, hi⟩))
/-- before the first turn -/
theorem lc_start {own : List Nat} {D : Addr} {H1 : Hp} {e1 : Env} {σ : L2.St} {fps1 : Fp} (re1 : RE G.K H1 e1 σ fps1) (hD : H1 D = none) :
    RE G.K (upd H1 D (.lst [])) (Mi.wipe own e1) (L2.wipe σ own) (wipeF own fps1) ∧ Res G.K (upd H1 D (.lst [])) (wipeF own fps1) (.lst []) (.ref D) [D] ∧ Stp TT H1 (wipeF own fps1) (upd H1 D (.lst [])) (wipeF own fps1) [D] := by
  have ne : ∀ i, ∀ a ∈ wipeF own fps1 i, a ≠ D := fun i a ha q => by
    subst q
    obtain ⟨u, hu, _⟩ := re1.own (wipeF_sub ha)
    rw [hD] at hu; cases hu
  have fx := fix_of (upd_old (o := .lst []) hD)
  refine ⟨(re1.wipe own).stay fx fun i a ha => upd_ne (ne i a ha), ⟨⟨D, [], [], rfl, upd_same, ⟨rfl, rfl⟩, rfl⟩, by simp, fun a ha i hi => ?_⟩, .mk' (fun a u h _ => upd_old hD a u h) fun a ha => ?_⟩
  · rw [List.mem_singleton] at ha
    exact ne i a hi ha
  · rcases ha with ha | ha
    · rw [List.mem_singleton] at ha
      subst ha; exact .inr hD
    · exact .inl ha
theorem post_ok {α β : Type} {σ : L2.St} {H : Hp} {fps : Fp} {rel : Hp → Fp → α → β → List Addr → Prop} {a : α} {e : Env} {Q : β → Hp → Prop} (h : ∀ b H' fps' fp, RE G.K H' e σ fps' → rel H' fps' a b fp → Stp TT H fps H' fps' fp → Q b H') : Post G W TT σ H fps rel (.ok a e) Q := h
theorem stp_old {H H' : Hp} {fps : Fp} (o : ∀ a u, H a = some u → H' a = some u) : Stp TT H fps H' fps [] := .mk' (fun a u h _ => o a u h) fun a ha => ha.elim (fun z => nomatch z) .inl
theorem re_old {H H' : Hp} {e : Env} {σ : L2.St} {fps : Fp} (re : RE K H e σ fps) (o : ∀ a u, H a = some u → H' a = some u) : RE K H' e σ fps :=
  re.stay (fix_of o) fun i a ha => by
    obtain ⟨u, hu, _⟩ := re.own ha
    rw [hu]; exact o a u hu
theorem pm_lc {tg l elt : Expr} {ifs : List Expr} {scope : Scope} {own : List (Str × Nat)} {pos : Pos} {t : Tg} {fI : Env → R (List D)} {fC fE : Env → R T} (hk : X.K = G.K) (hc : X.calm = true) (hN : X.N.Nodup) (hi : PI X tg l (tI G W fI)) (ok : BlkOk X.N X.env.scope scope own)
    (ho : ∀ i ∈ t.slots, i ∈ own.map (·.2))
    (hg : ∀ (s : Shared) (H : Hp) (C : Addr) (cl : List (Str × Addr)) (fp : List Addr), PG (X.blk s H scope (compEnvC scope cl C X.env) fp) tg (gT G.K t)) (ht : ∀ (s : Shared) (H : Hp) (C : Addr) (cl : List (Str × Addr)) (fp : List Addr), PTs (X.blk s H scope (compEnvC scope cl C X.env) fp) ifs (tT G WF TT fC))
    (he : ∀ (s : Shared) (H : Hp) (C : Addr) (cl : List (Str × Addr)) (fp : List Addr), PE (X.blk s H scope (compEnvC scope cl C X.env) fp) elt (tE G WF TT fE)) (hs : ∀ x, foldedSetIterable l X.env x = pure x := by intro _; rfl) :
    (∀ σ H Q, tE G W TT (lcF c t fI fC fE (own.map (·.2))) σ H Q → tLc (tI G W fI) (gT G.K t) (tT G WF TT fC) (tE G WF TT fE) (own.map (·.2)) σ H Q) := by
  generalize own.map (·.2) = own at ho ⊢
  refine fun σ H Q ⟨e, fps, re, p⟩ => ⟨e, fps, re, p.first .refl fun ds e1 J H1 fps1 fp1 ex re1 r1 s1 p1 D hD => ?_⟩
  obtain ⟨rfl, hlen, ⟨Gd, hGd, fGd, wk⟩⟩ := r1
  cases hcl : compL own (turnF c t fC fE) ds [] (Mi.wipe own e1) with
  | exc _ _ => rw [hcl] at p1; exact p1.elim
  | bad => rw [hcl] at p1; exact p1.elim
  | ok ts e2 =>
    rw [hcl] at p1
    have fxD := fix_of (upd_old (o := .lst []) hD)
    refine lc_it wk (fun i H' => ∃ ei fpsi accT fpD, RE G.K H' ei (L2.wipe σ own) fpsi ∧ (∀ j ∈ own, getL ei j = none) ∧ Res G.K H' fpsi (.lst accT) (.ref D) fpD ∧ accT.length ≤ i ∧ Gd H' ∧ compL own (turnF c t fC fE) (ds.drop i) accT ei = .ok ts e2 ∧ Stp TT H1 (wipeF own fps1) H' fpsi fpD) ?_ (fun i H' _ ⟨_, _, _, _, _, _, _, _, g, _⟩ => g) ?_ ?_
    · obtain ⟨a1, a2, a3⟩ := lc_start (own := own) re1 hD
      exact ⟨_, _, [], _, a1, fun j hj => by rw [getL_wipe, if_pos hj], a2, by simp, fGd _ _ fxD hGd, hcl, a3⟩
    · rintro i x H2 H3 hi ⟨ei, fpsi, accT, fpD, rei, e0, acc, hle, gd, hcl, s0⟩ ⟨old, yd⟩
      have hx := yd ds[i] (by simp [hi])
      rw [List.drop_eq_getElem_cons hi] at hcl
      unfold compL at hcl
      have st := stp_old (fps := fpsi) old
      have rei3 := re_old rei old
      have acc3 := acc.stay rei st
      have s03 := (s0.trans st).tt.less (fp' := fpD) (by simp)
      have gd3 := fGd _ _ (fix_of old) gd
      cases hb : bindTg c t ds[i] ei with
      | none => simp only [turnF, hb] at hcl; cases hcl
      | some e3 =>
        refine tg_ok rei3 hx hb ho fun σ2 fps2 re2 sc => ?_
        have hw := wipe_turn sc
        refine ⟨hw, e3, fps2, re2, ?_⟩
        have acc2 := acc3.sub sc.sub
        have s02 := s03.sub sc.sub
        simp only [turnF, hb] at hcl
        cases hC : fC e3 with
        | exc _ _ => rw [hC] at hcl; cases hcl
        | bad => rw [hC] at hcl; cases hcl
        | ok v e4 =>
          rw [hC] at hcl
          -- the turn's end
          have fin : ∀ {H4 : Hp} {e' : Env} {fps4 : Fp} {accT' : List T} {fpD' : List Addr}, RE G.K H4 e' σ2 fps4 → Res G.K H4 fps4 (.lst accT') (.ref D) fpD' → accT'.length ≤ i + 1 → Stp TT H1 (wipeF own fps1) H4 fps4 fpD' → compL own (turnF c t fC fE) (ds.drop (i + 1)) accT' (Mi.wipe own e') = .ok ts e2 → Gd H4 →
              ∃ ei fpsi accT fpD, RE G.K H4 ei (L2.wipe σ own) fpsi ∧ (∀ j ∈ own, getL ei j = none) ∧ Res G.K H4 fpsi (.lst accT) (.ref D) fpD ∧ accT.length ≤ i + 1 ∧ Gd H4 ∧ compL own (turnF c t fC fE) (ds.drop (i + 1)) accT ei = .ok ts e2 ∧ Stp TT H1 (wipeF own fps1) H4 fpsi fpD := fun a1 a2 a3 a4 a5 a6 =>
            ⟨_, _, _, _, hw ▸ a1.wipe own, fun j hj => by rw [getL_wipe, if_pos hj], a2.wipe own, a3, a6, a5, a4.wipe own⟩
          have hv : ∃ b, v = .leaf (.bl b) := by
            simp only [R.bind] at hcl
            split at hcl <;> first | (rename_i q; split at q <;> first | exact ⟨_, rfl⟩ | cases q) | cases hcl
          obtain ⟨b, rfl⟩ := hv
          show Post G WF TT σ2 H3 fps2 relB (toB (fC e3)) _
          rw [hC]
          refine post_ok fun b' H4 fps4 fp4 re4 hbb s4 => ?_
          obtain ⟨rfl, rfl⟩ := hbb
          have acc4 := acc2.stay re2 s4
          have s04 := (s02.trans s4).tt.less (fp' := fpD) (by simp)
          have gd4 := fGd _ _ (s4.fix re2) gd3
          cases b with
          | false =>
            simp only [R.bind] at hcl
            exact (if_neg Bool.false_ne_true).mpr (fin re4 acc4 (by omega) s04 hcl gd4)
          | true =>
            refine (if_pos rfl).mpr ⟨e4, fps4, re4, ?_⟩
            simp only [R.bind] at hcl
            cases hE : fE e4 with
            | exc _ _ => rw [hE] at hcl; cases hcl
            | bad => rw [hE] at hcl; cases hcl
            | ok u e5 =>
              rw [hE] at hcl
              refine post_ok fun y H5 fps5 fp5 re5 r5 s5 => ?_
              obtain ⟨accV, h1, h2, h3, fpD', h4, h5⟩ := acc_step re4 acc4 s5 re5 r5 s04
              refine ⟨accV, h1, by rw [h2, sizeLine_eq]; have : ds.length ≤ 16777216 := hlen; show _ < 16777216; omega, fin h3 h4 (by simp; omega) h5 hcl (fGd _ _ (fun b u hb ho => ?_) (fGd _ _ (s5.fix re4) gd4))⟩
              by_cases q : b = D
              · subst q; rw [h1] at hb; cases hb; cases ho
              · rw [upd_ne q]; exact hb
    · rintro H2 ⟨ei, fpsi, accT, fpD, rei, e0, acc, hle, gd, hcl, s0⟩
      rw [List.drop_length] at hcl
      cases hcl
      exact lc_end re1 rei e0 acc s0 p1
/-! two clauses -/
theorem tYes_if {σ : L2.St} {H : Hp} {f g : Hp → Prop} (h : f H) : tYes σ H fun b H' => if b = true then f H' else g H' := by
  show if true = true then f H else g H
  rw [if_pos rfl]; exact h
def in2F (c : Cx) (tg' : Tg) (fE : Env → R T) : D → Env → R T := fun d' e5 => match bindTg c tg' d' e5 with
        | some e6 => fE e6
        | none => .bad
def turn2 (c : Cx) (tg tg' : Tg) (fI' : Env → R (List D)) (fE : Env → R T) (own' : List Nat) : D → List T → Env → R (List T) := fun d acc e2 => match bindTg c tg d e2 with
      | some e3 => (fI' e3).bind fun ds' e4 => compC own' (in2F c tg' fE) ds' acc (wipe own' e4)
      | none => .bad
def lc2F (c : Cx) (tg tg' : Tg) (fI fI' : Env → R (List D)) (fE : Env → R T) (own own' : List Nat) : Env → R T := fun e => (fI e).bind fun ds e1 => match comp2 own (turn2 c tg tg' fI' fE own') ds [] (wipe own e1) with
    | .ok ts e2 => .ok (.lst ts) (back own e1 e2)
    | _ => .bad
theorem pm_lc2 {t t' : Tg} {fI fI' : Env → R (List D)} {fE : Env → R T} {own own' : List Nat} (sub : ∀ j ∈ own', j ∈ own) (ho : ∀ i ∈ t.slots, i ∈ own) (ho' : ∀ i ∈ t'.slots, i ∈ own') :
    (∀ σ H Q, tE G W TT (lc2F c t t' fI fI' fE own own') σ H Q → tLc2 (tI G W fI) (gT G.K t) tYes (tI G WF fI') (gT G.K t') tYes (tE G WF TT fE) own own' σ H Q) := by
  refine fun σ H Q ⟨e, fps, re, p⟩ => ⟨e, fps, re, p.first .refl fun ds e1 J H1 fps1 fp1 ex re1 r1 s1 p1 D hD => ?_⟩
  obtain ⟨rfl, hlen, ⟨Gd, hGd, fGd, wk⟩⟩ := r1
  cases hcl : comp2 own (turn2 c t t' fI' fE own') ds [] (Mi.wipe own e1) with
  | exc _ _ => rw [hcl] at p1; exact p1.elim
  | bad => rw [hcl] at p1; exact p1.elim
  | ok ts e2 =>
    rw [hcl] at p1
    have fxD := fix_of (upd_old (o := .lst []) hD)
    refine ⟨fun i m H' => m = ds.length - i ∧ i ≤ ds.length ∧ ∃ ei fpsi accT fpD, RE G.K H' ei (L2.wipe σ own) fpsi ∧ (∀ j ∈ own, getL ei j = none) ∧ Res G.K H' fpsi (.lst accT) (.ref D) fpD ∧ Gd H' ∧ comp2 own (turn2 c t t' fI' fE own') (ds.drop i) accT ei = .ok ts e2 ∧ Stp TT H1 (wipeF own fps1) H' fpsi fpD, ⟨ds.length, by simp, Nat.zero_le _, ?_⟩, ?_⟩
    · obtain ⟨a1, a2, a3⟩ := lc_start (own := own) re1 hD
      exact ⟨_, _, [], _, a1, fun j hj => by rw [getL_wipe, if_pos hj], a2, fGd _ _ fxD hGd, hcl, a3⟩
    rintro i m H2 ⟨rfl, hin, ei, fpsi, accT, fpD, rei, e0, acc, gd, hcl, s0⟩
    by_cases hi : i < ds.length
    · refine .inr ⟨wk.goes i H2 hi gd, fun H' => ∃ ei fpsi accT fpD, RE G.K H' ei (L2.wipe σ own) fpsi ∧ (∀ j ∈ own, getL ei j = none) ∧ Res G.K H' fpsi (.lst accT) (.ref D) fpD ∧ Gd H' ∧ comp2 own (turn2 c t t' fI' fE own') (ds.drop (i + 1)) accT ei = .ok ts e2 ∧ Stp TT H1 (wipeF own fps1) H' fpsi fpD, fun H' q => ⟨ds.length - (i + 1), by omega, rfl, hi, q⟩, fun x H3 yy => ?_⟩
      obtain ⟨old, yd⟩ := wk.yields i H2 x H3 hi gd yy
      have hx := yd ds[i] (by simp [hi])
      rw [List.drop_eq_getElem_cons hi] at hcl
      unfold comp2 at hcl
      have st := stp_old (fps := fpsi) old
      have rei3 := re_old rei old
      have acc3 := acc.stay rei st
      have s03 := (s0.trans st).tt.less (fp' := fpD) (by simp)
      have gd3 := fGd _ _ (fix_of old) gd
      cases hb : bindTg c t ds[i] ei with
      | none => simp only [turn2, hb] at hcl; cases hcl
      | some e3 =>
        refine tg_ok rei3 hx hb ho fun σ2 fps2 re2 sc => ?_
        have hw := wipe_turn sc
        have acc2 := acc3.sub sc.sub
        have s02 := s03.sub sc.sub
        simp only [turn2, hb] at hcl
        refine ⟨hw, tYes_if ⟨e3, fps2, re2, ?_⟩⟩
        cases hC : fI' e3 with
        | exc _ _ => rw [hC] at hcl; cases hcl
        | bad => rw [hC] at hcl; cases hcl
        | ok ds' e4 =>
          rw [hC] at hcl
          refine post_ok fun J1 H4 fps4 fp4 re4 r4 s4 => ?_
          obtain ⟨rfl, hlen', ⟨Gd', hGd', fGd', wk'⟩⟩ := r4
          have acc4 := acc2.stay re2 s4
          have s04 := (s02.trans s4).tt.less (fp' := fpD) (by simp)
          have gd4 := fGd _ _ (s4.fix re2) gd3
          simp only [R.bind] at hcl
          cases hin' : compC own' (in2F c t' fE) ds' accT (Mi.wipe own' e4) with
          | exc _ _ => rw [hin'] at hcl; cases hcl
          | bad => rw [hin'] at hcl; cases hcl
          | ok acc' e5 =>
            rw [hin'] at hcl
            simp only at hcl
            refine ⟨fun j k H' => k = ds'.length - j ∧ j ≤ ds'.length ∧ ∃ ej fpsj accT fpD, RE G.K H' ej (L2.wipe σ2 own') fpsj ∧ Res G.K H' fpsj (.lst accT) (.ref D) fpD ∧ Gd H' ∧ Gd' H' ∧ compC own' (in2F c t' fE) (ds'.drop j) accT ej = .ok acc' e5 ∧ Stp TT H1 (wipeF own fps1) H' fpsj fpD,
              ⟨ds'.length, by simp, Nat.zero_le _, _, _, accT, fpD, re4.wipe own', acc4.wipe own', gd4, hGd', hin', s04.wipe own'⟩, ?_⟩
            rintro j k H5 ⟨rfl, hjn, ej, fpsj, accJ, fpJ, rej, accj, gdj, gdj', hcj, sj⟩
            by_cases hj : j < ds'.length
            · refine .inr ⟨wk'.goes j H5 hj gdj', fun H' => ∃ ej fpsj accT fpD, RE G.K H' ej (L2.wipe σ2 own') fpsj ∧ Res G.K H' fpsj (.lst accT) (.ref D) fpD ∧ Gd H' ∧ Gd' H' ∧ compC own' (in2F c t' fE) (ds'.drop (j + 1)) accT ej = .ok acc' e5 ∧ Stp TT H1 (wipeF own fps1) H' fpsj fpD, fun H' q => ⟨ds'.length - (j + 1), by omega, rfl, hj, q⟩, fun x' H6 yy' => ?_⟩
              obtain ⟨old', yd'⟩ := wk'.yields j H5 x' H6 hj gdj' yy'
              have hx' := yd' ds'[j] (by simp [hj])
              rw [List.drop_eq_getElem_cons hj] at hcj
              unfold compC at hcj
              have st' := stp_old (fps := fpsj) old'
              have rej6 := re_old rej old'
              have acc6 := accj.stay rej st'
              have s06 := (sj.trans st').tt.less (fp' := fpJ) (by simp)
              have gd6 := fGd _ _ (fix_of old') gdj
              have gd6' := fGd' _ _ (fix_of old') gdj'
              cases hb' : bindTg c t' ds'[j] ej with
              | none => simp only [in2F, hb'] at hcj; cases hcj
              | some e6 =>
                refine tg_ok rej6 hx' hb' ho' fun σ3 fps6 re6 sc' => ?_
                have hw' := wipe_turn sc'
                have acc7 := acc6.sub sc'.sub
                have s07 := s06.sub sc'.sub
                simp only [in2F, hb'] at hcj
                refine ⟨hw', tYes_if ⟨e6, fps6, re6, ?_⟩⟩
                cases hE : fE e6 with
                | exc _ _ => rw [hE] at hcj; cases hcj
                | bad => rw [hE] at hcj; cases hcj
                | ok u e7 =>
                  rw [hE] at hcj
                  simp only at hcj
                  split at hcj
                  · rename_i hz
                    refine post_ok fun y H7 fps7 fp7 re7 r7 s7 => ?_
                    obtain ⟨accV, h1, h2, h3, fpD', h4, h5⟩ := acc_step re6 acc7 s7 re7 r7 s07
                    have fx : Fix H7 (upd H7 D (.lst (accV ++ [y]))) := fun b u hb ho => by
                      by_cases q : b = D
                      · subst q; rw [h1] at hb; cases hb; cases ho
                      · rw [upd_ne q]; exact hb
                    exact ⟨accV, h1, by rw [h2, sizeLine_eq]; exact hz, _, _, _, _, hw' ▸ h3.wipe own', h4.wipe own', fGd _ _ fx (fGd _ _ (s7.fix re6) gd6), fGd' _ _ fx (fGd' _ _ (s7.fix re6) gd6'), hcj, h5.wipe own'⟩
                  · cases hcj
            · have ej' : j = ds'.length := by omega
              subst ej'
              rw [List.drop_length] at hcj
              cases hcj
              exact .inl ⟨wk'.stops H5 gdj', _, _, _, _, by have := rej.wipe own; rw [wipe_wipe sub, hw] at this; exact this, fun j hj => by rw [getL_wipe, if_pos hj], accj.wipe own, gdj, hcl, sj.wipe own⟩
    · have ei' : i = ds.length := by omega
      subst ei'
      rw [List.drop_length] at hcl
      cases hcl
      exact .inl ⟨wk.stops H2 gd, lc_end re1 rei e0 acc s0 p1⟩
end
end Mi
end
section
set_option maxRecDepth 100000
/-! Mi18: statements. -/
namespace Mi
open PySem L2 PySem.Spec PyProof.Rows
/-- the kept parameters hold what they held -/
def Kp (c : Cx) (σ σ' : L2.St) : Prop := ∀ j, c.io.contains j = true → σ'[j]? = σ[j]?
theorem Kp.refl {c : Cx} {σ : L2.St} : Kp c σ σ := fun _ _ => rfl
theorem Kp.trans {c : Cx} {σ σ1 σ2 : L2.St} (a : Kp c σ σ1) (b : Kp c σ1 σ2) : Kp c σ σ2 := fun j h => (b j h).trans (a j h)
section
variable (G : Gd) (W : WX) (c : Cx)
def PostS (σ : L2.St) (H : Hp) (fps : Fp) (r : S) (D : Ends) : Prop := match r with
  | .nx e => ∀ σ' H' fps', RE G.K H' e σ' fps' → Stp TT H fps H' fps' [] → Kp c σ σ' → D.nx σ' H'
  | .rt t e => ∀ v σ' H' fps' fp, RE G.K H' e σ' fps' → Res G.K H' fps' t v fp → Stp TT H fps H' fps' fp → Kp c σ σ' → D.rt v H'
  | .bk e => ∀ σ' H' fps', RE G.K H' e σ' fps' → Stp TT H fps H' fps' [] → Kp c σ σ' → D.bk σ' H'
  | .exc x e => ∀ d σ' H' fps', RE G.K H' e σ' fps' → Stp TT H fps H' fps' [] → Kp c σ σ' → W (.ref (G.ca x.cls)) d σ' H'
  | .bad => False
def tS (f : Env → S) : TS := fun D σ H => ∃ e fps, RE G.K H e σ fps ∧ PostS G W c σ H fps (f e) D
end
section
variable {X : L2.Cx} {G : Gd} {W : WX} {c : Cx} {σ σ1 : L2.St} {H H1 : Hp} {fps fps1 : Fp} {e : Env}
theorem PostS.on {r : S} {D : Ends} {fp : List Addr} (p : PostS G W c σ H fps r D) (s : Stp TT H fps H1 fps1 fp) (k : Kp c σ σ1) : PostS G W c σ1 H1 fps1 r D := by
  cases r with
  | nx e => exact fun σ' H' fps' re s2 k2 => p σ' H' fps' re ((s.trans s2).tt.less fun a h => nomatch h) (k.trans k2)
  | bk e => exact fun σ' H' fps' re s2 k2 => p σ' H' fps' re ((s.trans s2).tt.less fun a h => nomatch h) (k.trans k2)
  | rt t e => exact fun v σ' H' fps' fp' re r s2 k2 => p v σ' H' fps' fp' re r ((s.trans s2).tt.less fun a h => List.mem_append_right _ h) (k.trans k2)
  | exc x e => exact fun d σ' H' fps' re s2 k2 => p d σ' H' fps' re ((s.trans s2).tt.less fun a h => nomatch h) (k.trans k2)
  | bad => exact p
theorem PostS.expr {α β : Type} {rel : Hp → Fp → α → β → List Addr → Prop} {r : R α} {k : α → Env → S} {D : Ends} {Q : β → Hp → Prop} {fp0 : List Addr} (p : PostS G W c σ H fps (r.thn k) D) (s0 : Stp TT H fps H1 fps1 fp0)
    (h : ∀ a e1 b H2 fps2 fp2, r = .ok a e1 → RE G.K H2 e1 σ fps2 → rel H2 fps2 a b fp2 → Stp TT H1 fps1 H2 fps2 fp2 → PostS G W c σ H fps (k a e1) D → Stp TT H fps H2 fps2 (fp0 ++ fp2) → Q b H2) : Post G W TT σ H1 fps1 rel r Q := by
  cases r with
  | ok a e1 => exact fun b H2 fps2 fp2 re r s => h a e1 b H2 fps2 fp2 rfl re r s p (s0.trans s).tt
  | exc x e => exact fun d H' fps' re s => p d σ H' fps' re ((s0.trans s).tt.less fun a h => nomatch h) .refl
  | bad => exact p
/-! sequence -/
theorem pms_nil : PSs X [] (tS G W c fun e => .nx e) := pss_nil.im fun D σ H ⟨e, fps, re, p⟩ => p σ H fps re .refl .refl
theorem pms_cons {st : Stmt} {rest : List Stmt} {f g : Env → S} (h1 : PS X st (tS G W c f)) (h2 : PSs X rest (tS G W c g)) : PSs X (st :: rest) (tS G W c fun e => (f e).thn g) := by
  refine (pss_cons h1 h2).im fun D σ H ⟨e, fps, re, p⟩ => ⟨e, fps, re, ?_⟩
  dsimp only at p ⊢
  cases q : f e with
  | nx e1 =>
    rw [q] at p
    exact fun σ' H' fps' re' s k => ⟨e1, fps', re', p.on s k⟩
  | rt t e => rw [q] at p; exact p
  | bk e => rw [q] at p; exact p
  | exc x e => rw [q] at p; exact p
  | bad => rw [q] at p; exact p
/-! stores -/
theorem asg_core {i : Nat} {f : Env → R T} {D : Ends} {te : TE} (h : ∀ σ H Q, tE G W TT f σ H Q → te σ H Q) (q : tS G W c (fun e => (f e).thn fun t e1 => (match setE c i t e1 with
    | some e2 => .nx e2
    | none => .bad)) D σ H) : tAsg te (gName i) D σ H := by
  obtain ⟨e, fps, re, p⟩ := q
  refine h _ _ _ ⟨e, fps, re, p.expr .refl fun t e1 v H1 fps1 fp1 et re1 r1 s1 p1 s12 => ?_⟩
  cases q : setE c i t e1 with
  | none => rw [q] at p1; exact p1.elim
  | some e2 =>
    rw [q] at p1
    obtain ⟨h1, rfl, h3⟩ := setE_some q
    refine p1 _ _ _ (re1.store h1 r1.rt r1.nd fun a ha j _ => r1.ap a ha j) (Stp.give (fp2 := []) (by rw [List.append_nil]; exact s12)) fun j hj => List.getElem?_set_ne fun z => ?_
    subst z; rw [h3] at hj; cases hj
theorem tgs_eq (is : List Nat) (d : D) (e : Env) : tgs c is d e = bindTg c (.tp is) d e := by cases d <;> rfl
theorem pm_asgT {a tg : Expr} {is : List Nat} {f : Env → R T} {pos : Pos} (hk : X.K = G.K) (ha : PE X a (tE G W TT f)) (hg : PG X tg (gT G.K (.tp is))) (hs : swapsWithSole [tg] a pos.line X.env = pure false) (hw : swappedStores [tg] a X.env = pure none) (h1 : (assignEach [tg] X.env).map (·.2) = [assign tg X.env]) :
    PS X (.Assign [tg] a pos) (tS G W c fun e => (f e).thn fun t e1 => (match tgs c is t.fz e1 with
    | some e2 => .nx e2
    | none => .bad)) := by
  refine (ps_asg (ha.fz hk) hg hs hw h1).im fun D σ H ⟨e, fps, re, p⟩ => ⟨e, fps, re, p.expr .refl fun t e1 v H1 fps1 fp1 et re1 r1 s1 p1 s12 => ?_⟩
  rw [tgs_eq] at p1
  cases q : bindTg c (.tp is) t.fz e1 with
  | none => rw [q] at p1; exact p1.elim
  | some e2 =>
    rw [q] at p1
    exact tg_ok (own := is) re1 r1.1 q (fun _ h => h) fun σ' fps' re' sc => p1 σ' H1 fps' re' ((s12.less (fp' := []) fun a h => nomatch h).sub sc.sub) sc.kept
/-- name op= int -/
theorem iop_aug (o : O2) : OpR X (inplaceOp o.op) (fun x y H Q => ∃ n m k, x = .int n ∧ y = .int m ∧ dAug o n m = some k ∧ Q (.int k) H) := by
  refine OpR.cases fun x y H Q h => ?_
  obtain ⟨n, m, k, rfl, rfl, hd, q⟩ := h
  cases o with
  | add => cases hd; exact ⟨_, iop_add, n, m, rfl, rfl, q⟩
  | sub => cases hd; exact ⟨_, iop_sub, n, m, rfl, rfl, q⟩
  | mul => simp only [dAug, Option.ite_none_right_eq_some, Option.some.injEq] at hd; obtain ⟨hh, rfl⟩ := hd; exact ⟨_, iop_mul, n, m, rfl, rfl, by rcases hh with hh | hh; exact .inl (by omega); exact .inr (by omega), q⟩
  | fdiv => simp only [dAug, Option.ite_none_right_eq_some, Option.some.injEq] at hd; obtain ⟨hh, rfl⟩ := hd; exact ⟨_, iop_fdiv, n, m, rfl, rfl, hh, q⟩
  | mod => simp only [dAug, Option.ite_none_right_eq_some, Option.some.injEq] at hd; obtain ⟨hh, rfl⟩ := hd; exact ⟨_, iop_mod, n, m, rfl, rfl, hh, q⟩
  | pow => cases hd
theorem pm_aug {a : Expr} {i : Nat} {x : Str} {o : O2} {f : Env → R T} {pos pos' : Pos} (hk : X.K = G.K) (hN : X.N.Nodup) (hi : X.N[i]? = some x) (hx : Loc X.env.scope x) (ha : PE X a (tE G W TT f)) (hf : X.fn x = true ∨ X.env.scope.names.lookup x = some .local) :
    PS X (.AugAssign (.Name x pos') o.op a pos) (tS G W c fun e => (match getL e i with
    | some (.leaf (.int n)) => (f e).thn fun t e1 => (match t.fz with
      | .int m => (match dAug o n m with
        | some k => (match setE c i (.leaf (.int k)) e1 with
          | some e2 => .nx e2
          | none => .bad)
        | none => .bad)
      | _ => .bad)
    | _ => .bad)) := by
  refine (ps_aug hN hi hx (ha.fz hk) (fun pins s σ H x y v u Q I r1 r2 q => iop_aug o pins s σ H x y v u Q I r1 r2 q) hf).im fun D σ H ⟨e, fps, re, p⟩ => ?_
  dsimp only at p
  split at p
  · rename_i n hn
    obtain ⟨v, h1, h2⟩ := re.rep i _ hn
    have h2 : RD G.K H (.int n) v := h2.1
    cases h2
    refine ⟨_, h1, e, fps, re, p.expr .refl fun t e1 v H1 fps1 fp1 et re1 r1 s1 p1 s12 => ?_⟩
    obtain ⟨r1, rfl⟩ := r1
    split at p1
    · rename_i m hm
      rw [hm] at r1
      cases r1
      split at p1
      · rename_i k hd
        refine ⟨n, m, k, rfl, rfl, hd, ?_⟩
        split at p1
        · rename_i e2 he2
          obtain ⟨fps2, re2, sc⟩ := set_ok (own := [i]) (x := .int k) (d := .int k) re1 rfl he2 (by simp)
          exact p1 _ _ _ re2 (s12.sub sc.sub) sc.kept
        · exact p1.elim
      · exact p1.elim
    · exact p1.elim
  · exact p.elim
/-! flow -/
theorem toB_thn (r : R T) (f : Bool → Env → S) : (r.thn fun x e1 => (match x with
    | .leaf (.bl true) => f true e1
    | .leaf (.bl false) => f false e1
    | _ => .bad)) = (toB r).thn f := by
  cases r with
  | ok x e1 =>
    simp only [toB, R.bind, R.thn]
    cases x with
    | leaf d =>
      cases d with
      | bl b => cases b <;> rfl
      | _ => rfl
    | _ => rfl
  | exc _ _ => rfl
  | bad => rfl
theorem pm_if {t : Expr} {a b : List Stmt} {f : Env → R T} {g h : Env → S} {pos : Pos} (ht : PT X t (tT G W TT f)) (ha : PSs X a (tS G W c g)) (hb : PSs X b (tS G W c h)) : PS X (.If t a b pos) (tS G W c fun e => (f e).thn fun x e1 => (match x with
    | .leaf (.bl true) => g e1
    | .leaf (.bl false) => h e1
    | _ => .bad)) := by
  refine (ps_if ht ha hb).im fun D σ H ⟨e, fps, re, p⟩ => ?_
  have p : PostS G W c σ H fps ((toB (f e)).thn fun v e1 => if v = true then g e1 else h e1) D := by rw [← toB_thn]; exact p
  refine ⟨e, fps, re, p.expr .refl fun x e1 v H1 fps1 fp1 et re1 r1 s1 p1 s12 => ?_⟩
  obtain ⟨rfl, rfl⟩ := r1
  cases x with
  | true => exact (if_pos rfl).mpr ⟨e1, fps1, re1, p1.on s12 .refl⟩
  | false => exact (if_neg Bool.false_ne_true).mpr ⟨e1, fps1, re1, p1.on s12 .refl⟩
theorem pm_ret {a : Expr} {f : Env → R T} {pos : Pos} (ha : PE X a (tE G W TT f)) : PS X (.Return (some a) pos) (tS G W c fun e => (f e).thn fun t e1 => .rt t e1) :=
  (ps_ret ha).im fun D σ H ⟨e, fps, re, p⟩ => ⟨e, fps, re, p.expr .refl fun t e1 v H1 fps1 fp1 et re1 r1 s1 p1 s12 => p1 v σ H1 fps1 fp1 re1 r1 s12 .refl⟩
theorem pm_ex {a : Expr} {f : Env → R T} {pos : Pos} (ha : PE X a (tE G W TT f)) (hs : swapsWith a none pos.line X.env = pure false) : PS X (.Expr a pos) (tS G W c fun e => (f e).thn fun _ e1 => .nx e1) :=
  (ps_expr ha hs).im fun D σ H ⟨e, fps, re, p⟩ => ⟨e, fps, re, p.expr .refl fun t e1 v H1 fps1 fp1 et re1 r1 s1 p1 s12 => p1 σ H1 fps1 re1 (s12.less fun a h => nomatch h) .refl⟩
theorem pm_pas {pos : Pos} : PS X (.Pass pos) (tS G W c fun e => .nx e) := ps_pass.im fun D σ H ⟨e, fps, re, p⟩ => p σ H fps re .refl .refl
theorem pm_brk {pos : Pos} : PS X (.Break pos) (tS G W c fun e => .bk e) := ps_break.im fun D σ H ⟨e, fps, re, p⟩ => p σ H fps re .refl .refl
theorem pm_rse {x m : Str} {k : Nat} {p1 p2 p3 pos : Pos} (hc : X.calm = true) (tk : Takes X W) (hm : PMk X (.Call (.Name x p1) [.Constant (.str m) 0 p2] [] p3) (fun _ H Q => Q (.ref (G.ca k)) none H)) :
    PS X (.Raise (some (.Call (.Name x p1) [.Constant (.str m) 0 p2] [] p3)) none pos) (tS G W c fun e => .exc ⟨k, .non⟩ e) :=
  (ps_raise hc tk hm).im fun D σ H ⟨e, fps, re, p⟩ => p none σ H fps re .refl .refl
theorem PostS.nt {r : S} {D : Ends} (p : PostS G W c σ H fps r D) (h : r = .bad) : False := by subst h; exact p
theorem pm_for {tg l : Expr} {body : List Stmt} {t : Tg} {fI : Env → R (List D)} {g : Env → S} {pos : Pos} (hk : X.K = G.K) (hp : PassesOwn (model X.prog X.w) X.A X.env X.xe) (hc : X.calm = true) (hi : PI X tg l (tI G W fI)) (hg : PG X tg (gT G.K t)) (hb : PSs X body (tS G W c g)) (hs : ∀ x, foldedSetIterable l X.env x = pure x) :
    PS X (.For tg l body [] pos) (tS G W c fun e => (fI e).thn fun ds e1 => forL (fun d e2 => match bindTg c t d e2 with
    | some e3 => g e3
    | none => .bad) ds e1) := by
  refine (ps_for hp hc hi hg hb hs).im fun D σ H ⟨e, fps, re, p⟩ => ⟨e, fps, re, p.expr .refl fun ds e1 J H1 fps1 fp1 ex re1 r1 s1 p1 s12 => ?_⟩
  obtain ⟨rfl, hlen, ⟨Gd, hGd, fGd, wk⟩⟩ := r1
  generalize hr : forL (fun d e2 => match bindTg c t d e2 with
    | some e3 => g e3
    | none => .bad) ds e1 = r at p1
  refine for_it wk (fun i σ' H' => ∃ ei fpsi, RE G.K H' ei σ' fpsi ∧ Gd H' ∧ Stp TT H fps H' fpsi [] ∧ Kp c σ σ' ∧ forL (fun d e2 => match bindTg c t d e2 with
    | some e3 => g e3
    | none => .bad) (ds.drop i) ei = r) ⟨e1, fps1, re1, hGd, s12, .refl, hr⟩ (fun i σ' H' _ ⟨_, _, _, h, _⟩ => h) ?_ ?_
  · rintro i x σ2 H2 H3 hi ⟨ei, fpsi, rei, gd, s0, kp, hcl⟩ ⟨old, yd⟩
    have hx := yd ds[i] (by simp [hi])
    rw [List.drop_eq_getElem_cons hi] at hcl
    unfold forL at hcl
    have st := stp_old (fps := fpsi) old
    have rei3 := re_old rei old
    have s03 := (s0.trans st).tt
    have gd3 := fGd _ _ (fix_of old) gd
    cases hb' : bindTg c t ds[i] ei with
    | none =>
      simp only [hb'] at hcl
      exact (p1.nt hcl.symm).elim
    | some e3 =>
      refine tg_ok (own := t.slots) rei3 hx hb' (fun _ h => h) fun σ4 fps4 re4 sc => ⟨e3, fps4, re4, ?_⟩
      have s04 : Stp TT H fps H3 fps4 [] := s03.sub sc.sub
      have kp4 : Kp c σ σ4 := kp.trans sc.kept
      simp only [hb'] at hcl
      cases hG : g e3 with
      | nx e4 =>
        rw [hG] at hcl
        exact fun σ' H' fps' re' s' k' => ⟨e4, fps', re', fGd _ _ (s'.fix re4) gd3, (s04.trans s').tt, kp4.trans k', hcl⟩
      | bk e4 =>
        rw [hG] at hcl
        subst hcl
        exact fun σ' H' fps' re' s' k' => p1 σ' H' fps' re' (s04.trans s').tt (kp4.trans k')
      | rt t4 e4 =>
        rw [hG] at hcl
        subst hcl
        exact p1.on s04 kp4
      | exc x4 e4 =>
        rw [hG] at hcl
        subst hcl
        exact p1.on s04 kp4
      | bad =>
        rw [hG] at hcl
        exact (p1.nt hcl.symm).elim
  · rintro σ2 H2 ⟨ei, fpsi, rei, gd, s0, kp, hcl⟩
    rw [List.drop_length] at hcl
    unfold forL at hcl
    subst hcl
    exact p1 σ2 H2 fpsi rei s0 kp
theorem pm_wh {t : Expr} {body : List Stmt} {f : Env → R T} {g : Env → S} {pos : Pos} (hp : PassesOwn (model X.prog X.w) X.A X.env X.xe) (ht : PT X t (tT G W TT f)) (hb : PSs X body (tS G W c g)) :
    PS X (.While t body [] pos) (tS G W c fun e => whileI (fun e1 => toB (f e1)) g e) := by
  refine (ps_while hp ht hb).im fun D σ H ⟨e, fps, re, p⟩ => ?_
  dsimp only at p
  unfold whileI at p
  split at p
  · rename_i hn
    generalize hm : hn.choose = m at p
    generalize hr : whileN (fun e1 => toB (f e1)) g m e = r at p
    refine ⟨fun n σ' H' => ∃ ei fpsi, RE G.K H' ei σ' fpsi ∧ Stp TT H fps H' fpsi [] ∧ Kp c σ σ' ∧ whileN (fun e1 => toB (f e1)) g n ei = r, ⟨m, e, fps, re, .refl, .refl, hr⟩, ?_⟩
    rintro n σ1 H1 ⟨ei, fpsi, rei, s0, kp, hcl⟩
    cases n with
    | zero =>
      unfold whileN at hcl
      exact (p.nt hcl.symm).elim
    | succ n =>
      unfold whileN at hcl
      refine ⟨ei, fpsi, rei, ?_⟩
      show Post G W TT σ1 H1 fpsi relB (toB (f ei)) _
      cases hF : toB (f ei) with
      | bad => rw [hF] at hcl; exact (p.nt hcl.symm).elim
      | exc x e1 =>
        rw [hF] at hcl
        subst hcl
        exact fun d H' fps' re' s' => p d σ1 H' fps' re' (s0.trans s').tt kp
      | ok b e1 =>
        rw [hF] at hcl
        refine post_ok fun b' H2 fps2 fp2 re2 hb2 s2 => ?_
        obtain ⟨rfl, rfl⟩ := hb2
        have s02 := (s0.trans s2).tt
        cases b with
        | false =>
          subst hcl
          exact (if_neg Bool.false_ne_true).mpr (p σ1 H2 fps2 re2 s02 kp)
        | true =>
          refine (if_pos rfl).mpr ⟨fun σ' H' => ∃ ei fpsi, RE G.K H' ei σ' fpsi ∧ Stp TT H fps H' fpsi [] ∧ Kp c σ σ' ∧ whileN (fun e1 => toB (f e1)) g n ei = r, fun σ' H' h => ⟨n, by omega, h⟩, e1, fps2, re2, ?_⟩
          simp only at hcl
          cases hG : g e1 with
          | nx e4 =>
            rw [hG] at hcl
            exact fun σ' H' fps' re' s' k' => ⟨e4, fps', re', (s02.trans s').tt, kp.trans k', hcl⟩
          | bk e4 =>
            rw [hG] at hcl
            subst hcl
            exact fun σ' H' fps' re' s' k' => p σ' H' fps' re' (s02.trans s').tt (kp.trans k')
          | rt t4 e4 =>
            rw [hG] at hcl
            subst hcl
            exact p.on s02 kp
          | exc x4 e4 =>
            rw [hG] at hcl
            subst hcl
            exact p.on s02 kp
          | bad =>
            rw [hG] at hcl
            exact (p.nt hcl.symm).elim
  · exact p.elim
end
end Mi
end
section
set_option maxRecDepth 100000
/-! Mi19: stores into places, pairs, try. -/
namespace Mi
open PySem L2 PySem.Spec PyProof.Rows
theorem RTs.put {K : Fg} {H : Hp} : ∀ {ts : List T} {vs : List V} {f g : List Addr} {j : Nat} {x : T} {v : V}, RTs K H ts vs f → f.Nodup → RT K H x v g → g.Nodup → (∀ a ∈ f, a ∉ g) → ∃ f', RTs K H (ts.set j x) (vs.set j v) f' ∧ f'.Nodup ∧ ∀ a ∈ f', a ∈ f ∨ a ∈ g
  | [], _, f, g, j, x, v, h, nd, r, nd2, dj => by
    obtain ⟨rfl, rfl⟩ := h
    exact ⟨[], ⟨by simp, rfl⟩, .nil, fun _ h => nomatch h⟩
  | t :: ts, _, _, g, 0, x, v, h, nd, r, nd2, dj => by
    obtain ⟨w, q, f1, f2, rfl, rfl, h1, h2⟩ := h
    obtain ⟨n1, n2, n3⟩ := List.nodup_append.mp nd
    refine ⟨g ++ f2, ⟨v, q, g, f2, rfl, rfl, r, h2⟩, List.nodup_append.mpr ⟨nd2, n2, fun a ha b hb e => ?_⟩, fun a ha => ?_⟩
    · subst e; exact dj a (by simp [hb]) ha
    · rcases List.mem_append.mp ha with z | z
      · exact .inr z
      · exact .inl (by simp [z])
  | t :: ts, _, _, g, j + 1, x, v, h, nd, r, nd2, dj => by
    obtain ⟨w, q, f1, f2, rfl, rfl, h1, h2⟩ := h
    obtain ⟨n1, n2, n3⟩ := List.nodup_append.mp nd
    obtain ⟨f', h3, h4, h5⟩ := RTs.put (j := j) h2 n2 r nd2 fun a ha => dj a (by simp [ha])
    refine ⟨f1 ++ f', ⟨w, _, f1, f', rfl, rfl, h1, h3⟩, List.nodup_append.mpr ⟨n1, h4, fun a ha b hb e => ?_⟩, fun a ha => ?_⟩
    · subst e
      rcases h5 a hb with z | z
      · exact n3 a ha a z rfl
      · exact dj a (by simp [ha]) z
    · rcases List.mem_append.mp ha with z | z
      · exact .inl (by simp [z])
      · exact (h5 a z).imp (fun y => by simp [y]) id
section
variable {X : L2.Cx} {G : Gd} {W : WX} {c : Cx} {i : Nat}
theorem relP.stay2 {σ : L2.St} {e1 : Env} {H1 H2 : Hp} {fps1 fps2 : Fp} {p : T × List D × T} {w : V} {fp fp2 : List Addr} (re : RE G.K H1 e1 σ fps1) (r : relP G σ i H1 fps1 p w fp) (s : Stp TT H1 fps1 H2 fps2 fp2) : relP G σ i H2 fps2 p w fp := (r.stay re s).1
theorem pm_put {a x k : Expr} {fA g : Env → R T} {F : Env → R (T × List D × T)} {p2 pos : Pos} (hk : X.K = G.K) (ha : PE X a (tE G W TT fA)) (hx : PE X x (tPl G W i F)) (hkk : PE X k (tE G W TT g))
    (hs : swapsWithSole [.Subscript x k p2] a pos.line X.env = pure false) (hw : swappedStores [.Subscript x k p2] a X.env = pure none) (h1 : (assignEach [.Subscript x k p2] X.env).map (·.2) = [assign (.Subscript x k p2) X.env])
    (has : ∀ v, assign (.Subscript x k p2) X.env v = (do
      let ov ← holding [v] (eval x X.env)
      let iv ← holding [v, ov] (eval k X.env)
      standAt p2
      holding [v, ov, iv] (setItem ov iv v)
      release [v, ov, iv] [])) :
    PS X (.Assign [.Subscript x k p2] a pos) (tS G W c fun e => (fA e).thn fun t e0 => (F e0).thn fun p e2 => (g e2).thn fun kk e3 => (match putSem p.2.2 kk.fz t with
      | some u' => (match p.1.mod p.2.1 fun _ => some u' with
        | some r' => .nx (e3.set i (some r'))
        | none => .bad)
      | none => .bad)) := by
  refine (ps_asg ha (pg_sub hx (hkk.fz hk) set_list has) hs hw h1).im fun D σ H ⟨e, fps, re, p⟩ => ⟨e, fps, re, p.expr .refl fun t e1 v H1 fps1 fp1 et re1 r1 s1 p1 s01 => ?_⟩
  refine ⟨e1, fps1, re1, p1.expr (fp0 := fp1) (by simpa using s01) fun q e2 w H2 fps2 fp2 eq re2 r2 s2 p2 s02 => ⟨e2, fps2, re2, p2.expr s02 fun kk e3 y H3 fps3 fp3 ek re3 r3 s3 p3 s03 => ?_⟩⟩
  obtain ⟨r3, rfl⟩ := r3
  rw [List.append_nil] at s03
  -- what stands at the end
  have t2 := r1.stay re1 s2
  have dj12 := (s2.ap r1.rt.own r1.ap).2
  have t3 := t2.stay re2 s3
  obtain ⟨v0, hv, root, zz⟩ := r2.stay2 re2 s3
  split at p3
  · rename_i u' hu'
    split at p3
    · rename_i r' hr'
      rcases zz with ⟨f, z⟩ | ⟨d, e0, rd⟩
      · cases hts : q.2.2 with
        | lst ts =>
          rw [hts] at hu' z
          cases hkz : kk.fz with
          | int j0 =>
            rw [hkz] at hu' r3
            cases r3
            simp only [putSem, Option.map_eq_some_iff] at hu'
            obtain ⟨j, hj, rfl⟩ := hu'
            obtain ⟨l, xs, f0, rfl, hl, hr, rfl⟩ := id z.1
            obtain ⟨n2, n3⟩ := List.nodup_cons.mp z.2.1
            have lfp : l ∈ fp2 := z.2.2.1 l (by simp)
            have fx : Fix H3 (upd H3 l (.lst (xs.set j v))) := fun b w hb hw => by
              by_cases e : b = l
              · subst e; rw [hl] at hb; cases hb; cases hw
              · rw [upd_ne e]; exact hb
            have nl1 : l ∉ fp1 := fun h => dj12 l h lfp
            have dj : ∀ a ∈ f0, a ∉ fp1 := fun a h h' => dj12 a h' (z.2.2.1 a (by simp [h]))
            obtain ⟨f', g1, g2, g3⟩ := RTs.put (j := j) (hr.stay fx fun a h => upd_ne fun e => n2 (e ▸ h)) n3 (t3.rt.stay fx fun a h => upd_ne fun e => nl1 (e ▸ h)) t3.nd dj
            refine ⟨l, xs, j0, j, rfl, rfl, hl, by rw [← hr.len]; exact hj, ?_⟩
            refine mt_core (G := G) (W := W) (i := i) (H := H) (fps := fps) (Q := fun _ H' => D.nx σ H') (rv := .non) (r := .non) (f' := l :: f') (fq := fp1) re3 hv root z hr' (by simp) ⟨_, hl, rfl⟩ ⟨l, _, f', rfl, upd_same, g1, rfl⟩ ?_ ?_ (s03.less fun a h => ?_) rfl ?_
            · refine List.nodup_cons.mpr ⟨fun h => ?_, g2⟩
              rcases g3 l h with h | h
              · exact n2 h
              · exact nl1 h
            · intro a h
              rcases List.mem_cons.mp h with rfl | h
              · exact .inl (by simp)
              · rcases g3 a h with h | h
                · exact .inl (by simp [h])
                · exact .inr ⟨h, dj12 a h, t3.ap a h⟩
            · rcases List.mem_append.mp h with h | h
              · exact List.mem_append_right _ h
              · exact List.mem_append_left _ h
            · exact fun b H' fps' fp' re' rr s' => p3 σ H' fps' re' (s'.less fun a h => nomatch h) .refl
          | _ => rw [hkz] at hu'; cases hu'
        | _ => rw [hts] at hu'; cases hu'
      · rw [e0] at hu'; cases hu'
    · exact p3.elim
  · exact p3.elim
/-! pairs -/
theorem tgs_tup (is : List Nat) (xs : List D) (e : Env) : tgs c is (.tup xs) e = if is.length = xs.length then (is.zip xs).foldlM (fun e (p : Nat × D) => setE c p.1 (.leaf p.2) e) e else none := rfl
theorem len2 {α : Type} {zs : List α} (h : 2 = zs.length) : ∃ a b, zs = [a, b] := by
  match zs, h with
  | [a, b], _ => exact ⟨a, b, rfl⟩
theorem len3 {α : Type} {zs : List α} (h : 3 = zs.length) : ∃ a b d, zs = [a, b, d] := by
  match zs, h with
  | [a, b, d], _ => exact ⟨a, b, d, rfl⟩
theorem RDs_two {K : Fg} {H : Hp} {x y : D} {vs : List V} (h : RDs K H [x, y] vs) : ∃ v w, vs = [v, w] ∧ RD K H x v ∧ RD K H y w := by
  obtain ⟨v, r, rfl, h1, w, r2, rfl, h2, rfl⟩ := h
  exact ⟨v, w, rfl, h1, h2⟩
theorem pm_par {a b : Expr} {i j : Nat} {x y : Str} {fs : Env → R (List T)} {px py pt pt2 pos : Pos} (hk : X.K = G.K) (hc : X.calm = true) (hN : X.N.Nodup) (hi : X.N[i]? = some x) (hj : X.N[j]? = some y) (hij : i ≠ j)
    (hx : X.env.scope.names.lookup x = some .local) (hy : X.env.scope.names.lookup y = some .local) (ha : PA X [a, b] (tEs G W TT fs))
    (hw : swappedStores [.Tuple [.Name x px, .Name y py] 0 pt] (.Tuple [a, b] 0 pt2) X.env = pure (some [x, y])) :
    PS X (.Assign [.Tuple [.Name x px, .Name y py] 0 pt] (.Tuple [a, b] 0 pt2) pos) (tS G W c fun e => (fs e).thn fun ts e1 => (match tgs c [i, j] (.tup (T.fzs ts)) e1 with
      | some e2 => .nx e2
      | none => .bad)) := by
  refine (ps_par hc hN hi hj hij hx hy (ha.fz hk) hw).im fun D σ H ⟨e, fps, re, p⟩ => ⟨e, fps, re, p.expr .refl fun ts e1 vs H1 fps1 fp1 et re1 r1 s1 p1 s12 => ?_⟩
  obtain ⟨r1, rfl⟩ := r1
  have s12 : Stp TT H fps H1 fps1 [] := s12
  split at p1
  · rename_i e2 he2
    by_cases hl : [i, j].length = (T.fzs ts).length
    · rw [tgs_tup, if_pos hl] at he2
      generalize T.fzs ts = zs at he2 r1 hl
      obtain ⟨z1, z2, rfl⟩ := len2 hl
      · obtain ⟨v, w, rfl, h1, h2⟩ := RDs_two r1
        simp only [List.zip_cons_cons, List.foldlM_cons, List.zip_nil_left, List.foldlM_nil, Option.bind_eq_bind, Option.bind_eq_some_iff] at he2
        obtain ⟨e3, h3, e4, h4, h5⟩ := he2
        cases h5
        obtain ⟨fps3, re3, sc3⟩ := set_ok (own := [i, j]) re1 h1 h3 (by simp)
        obtain ⟨fps4, re4, sc4⟩ := set_ok (own := [i, j]) re3 h2 h4 (by simp)
        exact ⟨v, w, rfl, p1 _ _ _ re4 ((s12.sub sc3.sub).sub sc4.sub) (Kp.trans sc3.kept sc4.kept)⟩
    · rw [tgs_tup, if_neg hl] at he2; cases he2
  · exact p1.elim
theorem pm_par3 {a b d : Expr} {i j l : Nat} {x y z : Str} {fs : Env → R (List T)} {px py pz pt pt2 pos : Pos} (hk : X.K = G.K) (hc : X.calm = true) (hN : X.N.Nodup) (hi : X.N[i]? = some x) (hj : X.N[j]? = some y) (hl : X.N[l]? = some z) (hij : i ≠ j) (hil : i ≠ l) (hjl : j ≠ l)
    (hx : X.env.scope.names.lookup x = some .local) (hy : X.env.scope.names.lookup y = some .local) (hz : X.env.scope.names.lookup z = some .local) (ha : PA X [a, b, d] (tEs G W TT fs))
    (hw : swappedStores [.Tuple [.Name x px, .Name y py, .Name z pz] 0 pt] (.Tuple [a, b, d] 0 pt2) X.env = pure (some [x, y, z])) :
    PS X (.Assign [.Tuple [.Name x px, .Name y py, .Name z pz] 0 pt] (.Tuple [a, b, d] 0 pt2) pos) (tS G W c fun e => (fs e).thn fun ts e1 => (match tgs c [i, j, l] (.tup (T.fzs ts)) e1 with
      | some e2 => .nx e2
      | none => .bad)) := by
  refine (ps_par3 hc hN hi hj hl hij hil hjl hx hy hz (ha.fz hk) hw).im fun D σ H ⟨e, fps, re, p⟩ => ⟨e, fps, re, p.expr .refl fun ts e1 vs H1 fps1 fp1 et re1 r1 s1 p1 s12 => ?_⟩
  obtain ⟨r1, rfl⟩ := r1
  have s12 : Stp TT H fps H1 fps1 [] := s12
  split at p1
  · rename_i e2 he2
    by_cases hl : [i, j, l].length = (T.fzs ts).length
    · rw [tgs_tup, if_pos hl] at he2
      generalize T.fzs ts = zs at he2 r1 hl
      obtain ⟨z1, z2, z3, rfl⟩ := len3 hl
      · obtain ⟨u, r, rfl, h0, hr⟩ := r1
        obtain ⟨v, w, rfl, h1, h2⟩ := RDs_two hr
        simp only [List.zip_cons_cons, List.foldlM_cons, List.zip_nil_left, List.foldlM_nil, Option.bind_eq_bind, Option.bind_eq_some_iff] at he2
        obtain ⟨e3, h3, e4, h4, e5, h5, h6⟩ := he2
        cases h6
        obtain ⟨fps3, re3, sc3⟩ := set_ok (own := [i, j, l]) re1 h0 h3 (by simp)
        obtain ⟨fps4, re4, sc4⟩ := set_ok (own := [i, j, l]) re3 h1 h4 (by simp)
        obtain ⟨fps5, re5, sc5⟩ := set_ok (own := [i, j, l]) re4 h2 h5 (by simp)
        exact ⟨u, v, w, rfl, p1 _ _ _ re5 (((s12.sub sc3.sub).sub sc4.sub).sub sc5.sub) (Kp.trans (Kp.trans sc3.kept sc4.kept) sc5.kept)⟩
    · rw [tgs_tup, if_neg hl] at he2; cases he2
  · exact p1.elim
/-! try -/
/-- the clauses: their classes, what they compute -/
def exhF (sub : Nat → Nat → Bool) (x : Xc) : List (Nat × (Env → S)) → Env → S
  | [], e => .exc x e
  | (k, g) :: r, e => if sub x.cls k then (match g e with
    | .exc _ _ => .bad
    | q => q) else exhF sub x r e
theorem wMany_ok {D : Ends} {σ : L2.St} {H : Hp} {fps : Fp} {x : Xc} {e : Env} {d : Option Addr} (hm : ∀ i k, PySem.W.exmOne G.K (.ref (G.ca i)) (.ref (G.ca k)) = some (c.sub i k)) : ∀ {l : List (Nat × (Env → S))}, PostS G W c σ H fps (exhF c.sub x l e) D → RE G.K H e σ fps →
    wMany G.K W D (l.map fun p => (.ref (G.ca p.1), fun _ _ _ => tS G WF c p.2)) (.ref (G.ca x.cls)) d σ H
  | [], p, re => p d σ H fps re .refl .refl
  | (k, g) :: r, p, re => by
    refine ⟨c.sub x.cls k, hm _ _, fun hb a ha => ⟨e, fps, re, ?_⟩, fun hb => ?_⟩
    · unfold exhF at p
      rw [if_pos hb] at p
      cases q : g e with
      | exc _ _ => rw [q] at p; exact p.elim
      | nx _ => rw [q] at p; show PostS G WF c σ H fps (g e) D; rw [q]; exact p
      | rt _ _ => rw [q] at p; show PostS G WF c σ H fps (g e) D; rw [q]; exact p
      | bk _ => rw [q] at p; show PostS G WF c σ H fps (g e) D; rw [q]; exact p
      | bad => rw [q] at p; exact p.elim
    · unfold exhF at p
      rw [if_neg (by rw [hb]; exact Bool.false_ne_true)] at p
      exact wMany_ok hm p re
theorem pm_try {body : List Stmt} {h₀ : ExceptHandler} {hds : List ExceptHandler} {l : List (Nat × (Env → S))} {f : Env → S} {pos : Pos} (hk : X.K = G.K) (hs : X.stack = X.env :: X.outer) (hf : X.env.frame = some X.env.locals) (tk : Takes X W)
    (hm : ∀ i k, PySem.W.exmOne G.K (.ref (G.ca i)) (.ref (G.ca k)) = some (c.sub i k))
    (hb : ∀ (W : WX) (pn : List (Addr × Obj)) (xe : Value → Shared → Prop), Takes (X.tr pn xe) W → PassesOwn (model X.prog X.w) X.A X.env xe → PSs (X.tr pn xe) body (tS G W c f))
    (hh : HdsOk X (h₀ :: hds) (l.map fun p => (.ref (G.ca p.1), fun _ _ _ => tS G WF c p.2))) :
    PS X (.Try body (h₀ :: hds) [] [] pos) (tS G W c fun e => (match f e with
    | .exc x e1 => exhF c.sub x l e1
    | r => r)) := by
  refine (ps_try_many (tb := fun W => tS G W c f) hs hf tk hb hh).im fun D σ H ⟨e, fps, re, p⟩ => ⟨e, fps, re, ?_⟩
  dsimp only at p
  cases q : f e with
  | exc x e1 =>
    rw [q] at p
    rw [hk]
    exact fun d σ' H' fps' re' s' k' => wMany_ok hm (p.on s' k') re'
  | nx _ => rw [q] at p; exact p
  | rt _ _ => rw [q] at p; exact p
  | bk _ => rw [q] at p; exact p
  | bad => rw [q] at p; exact p
end
end Mi
end
section
set_option maxRecDepth 100000
/-! Mi20: what is checked of a text, and that a checked text does what it says: expressions. -/
namespace Mi
open PySem L2 PySem.Spec PyProof.Rows
/-- the form of a call -/
structure Sh where
  f : Nat
  np : Nat
  kw : List Str
  perm : List Nat
/-- where code stands: its names; not in an except suite; not in a comprehension -/
structure Ct where
  sc : Scope
  cl : Bool
  top : Bool
  osc : Scope
def relab (scope sc : Scope) : Scope := { scope with names := scope.names.map fun (n, k) => if (k == .free && sc.kind == .function && sc.names.lookup n == some .cell) then (n, .cell) else (n, k) }
def vis (n : Nm) (t : Ct) (i : Nat) : Bool := decide (n.N[i]? = some (n.nm i)) && !(n.nm i == ("__debug__" : Str)) && !(n.nm i == ("__classdict__" : Str)) && (match t.sc.names.lookup (n.nm i) with
  | some .local => true
  | some .cell => true
  | some .free => true
  | _ => false)
def sto (n : Nm) (t : Ct) (i : Nat) : Bool := decide (n.N[i]? = some (n.nm i)) && (match t.sc.names.lookup (n.nm i) with
  | some .local => true
  | some .cell => t.top || decide (t.osc.names.lookup (n.nm i) = some .cell)
  | _ => false)
def glb (t : Ct) (x : Str) : Bool := !(x == ("__debug__" : Str)) && (match t.sc.names.lookup x with
  | some .globalImplicit => true
  | _ => false)
def blt (b : List Str) (t : Ct) (x : Str) : Bool := glb t x && decide (x ∈ b)
def blkC (N : List Str) (sc scope : Scope) (own : List (Str × Nat)) : Bool :=
  decide (scope.kind = .function) && decide (∀ y ∈ scope.names, scope.names.lookup y.1 = some y.2) && decide (∀ p ∈ own, N[p.2]? = some p.1) &&
  decide (∀ y ∈ scope.names, y.2 = .free → sc.names.lookup y.1 = some .cell ∨ sc.names.lookup y.1 = some .free) && decide (∀ y ∈ scope.names, y.2 = .local ∨ y.2 = .cell → y.1 ∈ own.map (·.1) ∨ y.1 ∉ N)
theorem blkC_ok {N : List Str} {sc scope : Scope} {own : List (Str × Nat)} (h : blkC N sc scope own = true) : BlkOk N sc scope own := by
  simp only [blkC, Bool.and_eq_true, decide_eq_true_eq] at h
  obtain ⟨⟨⟨⟨h1, h2⟩, h3⟩, h4⟩, h5⟩ := h
  exact ⟨h1, h2, h3, h4, h5⟩
def Es.len : Es → Nat
  | .nil => 0
  | .cons _ r => r.len + 1
def Ag.len : Ag → Nat
  | .nil => 0
  | .v _ r => r.len + 1
  | .io _ r => r.len + 1
def Kw.nms : Kw → List Str
  | .nil => []
  | .v k _ r => k :: r.nms
  | .io k _ r => k :: r.nms
def ownOf (n : Nm) (own : List Nat) : List (Str × Nat) := own.map fun i => (n.nm i, i)
theorem ownOf_ix (n : Nm) (own : List Nat) : (ownOf n own).map (·.2) = own := by
  unfold ownOf
  rw [List.map_map]
  induction own with
  | nil => rfl
  | cons i r ih => rw [List.map_cons]; exact congrArg (i :: ·) ih
def chkTg (n : Nm) (t : Ct) (own : List Nat) : Tg → Bool
  | .nm i => sto n t i && own.contains i
  | .tp is => is.all fun i => sto n t i && own.contains i
def chkTys (b : List Str) (t : Ct) (ts : List Ty) : Bool := ts.all fun y => blt b t y.nm
section
variable (n : Nm) (S : List Sh) (b : List Str)
mutual
def chkE (t : Ct) : E → As → Bool
  | .non, _ => true
  | .bl _, _ => true
  | .int _, _ => true
  | .str _, _ => true
  | .get i, _ => vis n t i
  | .fz i, _ => vis n t i
  | .mv i, _ => vis n t i
  | .gl x, _ => glb t x
  | .bin _ x y, as => chkE t x as.tail && chkE t y (toE n x as.tail).2
  | .neg x, as => chkE t x as.tail
  | .cmp _ x y, as => chkE t x as.tail && chkE t y (toE n x as.tail).2
  | .chn _ _ x y z, as => chkE t x as.tail && chkE t y (toE n x as.tail).2 && chkE t z (toE n y (toE n x as.tail).2).2
  | .bop _ x r, as => chkE t x as.tail && chkEs t r (toE n x as.tail).2 && decide (0 < r.len)
  | .not x, as => chkE t x as.tail
  | .ite c x y, as => chkE t c as.tail && chkE t x (toE n c as.tail).2 && chkE t y (toE n x (toE n c as.tail).2).2
  | .idx x k, as => chkE t x as && chkE t k (toE n x as).2.tail
  | .slc x lo hi, as => chkE t x as && chkO t lo (toE n x as).2.tail.tail && chkO t hi (toO n lo (toE n x as).2.tail.tail).2
  | .rev x, as => chkE t x as
  | .lset x, as => t.cl && blt b t "len" && blt b t "set" && chkE t x as.tail.tail.tail.tail
  | .tup es, as => chkEs t es as.tail && decide (es.len ≤ line)
  | .lst es, as => chkEs t es as.tail && decide (es.len ≤ line)
  | .bi f es, as => t.cl && blt b t f.nm && chkEs t es as.tail.tail && decide (0 < es.len)
  | .ty f es, as => blt b t f.nm && chkEs t es as.tail.tail && decide (0 < es.len)
  | .isi x ts, as => blt b t "isinstance" && chkE t x as.tail.tail && chkTys b t ts && decide (ts.length ≤ line)
  | .rg es, as => blt b t "range" && chkEs t es as.tail.tail && decide (0 < es.len)
  | .call f es ks ars, as => t.cl && glb t (n.fn f) && chkA t es as.tail.tail && chkK t ks (toA n es as.tail.tail).2 && decide ars.Nodup &&
      (match S.find? fun s => s.f == f && s.np == es.len && decide (s.kw = ks.nms) with
      | some s => decide (permAr (itA es 0 ++ itK ks (nvA es)) s.perm = some ars)
      | none => false)
  | .lc elt tg it cs own, as => t.cl && blkC n.N t.sc (Ann.sc as.tail) (ownOf n own) && chkE ⟨relab (Ann.sc as.tail) t.sc, true, false, Ann.sc as.tail⟩ elt as.tail.tail && chkTg n ⟨relab (Ann.sc as.tail) t.sc, true, false, Ann.sc as.tail⟩ own tg && chkI t tg it (toTg n tg (toE n elt as.tail.tail).2).2 &&
      chkEs ⟨relab (Ann.sc as.tail) t.sc, true, false, Ann.sc as.tail⟩ cs (toI n it (toTg n tg (toE n elt as.tail.tail).2).2).2 && decide (cs.len ≤ 1)
  | .lc2 elt tg it tg' it' own own', as => t.cl && blkC n.N t.sc (Ann.sc as.tail) (ownOf n (own ++ own')) && chkE ⟨relab (Ann.sc as.tail) t.sc, true, false, Ann.sc as.tail⟩ elt as.tail.tail && chkTg n ⟨relab (Ann.sc as.tail) t.sc, true, false, Ann.sc as.tail⟩ (own ++ own') tg && chkI t tg it (toTg n tg (toE n elt as.tail.tail).2).2 &&
      chkTg n ⟨relab (Ann.sc as.tail) t.sc, true, false, Ann.sc as.tail⟩ own' tg' && chkI ⟨relab (Ann.sc as.tail) t.sc, true, false, Ann.sc as.tail⟩ tg' it' (toTg n tg' (toI n it (toTg n tg (toE n elt as.tail.tail).2).2).2).2
  | .pk i ks, as => vis n t i && chkP t ks as.tail
  | .psl i ks _, as => vis n t i && chkP t ks as.tail
  | .vb f i ks, as => t.cl && blt b t f.nm && vis n t i && chkP t ks as.tail.tail.tail
  | .vcmp _ i ks x, as => vis n t i && chkP t ks as.tail.tail && chkE t x (toPl n ks (.Name (n.nm i) (Ann.pos as.tail)) as.tail.tail).2
  | .vin _ x i ks, as => chkE t x as.tail && vis n t i && chkP t ks (toE n x as.tail).2.tail
  | .mt o i ks es, as => vis n t i && chkP t ks as.tail.tail.tail && chkEs t es (toPl n ks (.Name (n.nm i) (Ann.pos as.tail.tail)) as.tail.tail.tail).2 && decide (0 < es.len) && decide (es.len < 30) && ((Ann.pos as.tail).endLine == (Ann.pos as).line) && (o == 0 || o == 1)
  | .mv0 o i es, as => vis n t i && chkEs t es as.tail.tail.tail && decide (0 < es.len) && decide (es.len < 30) && ((Ann.pos as.tail).endLine == (Ann.pos as).line) && (o == 0 || o == 1)
def chkEs (t : Ct) : Es → As → Bool
  | .nil, _ => true
  | .cons a r, as => chkE t a as && chkEs t r (toE n a as).2
def chkA (t : Ct) : Ag → As → Bool
  | .nil, _ => true
  | .v a r, as => chkE t a as && chkA t r (toE n a as).2
  | .io i r, as => vis n t i && chkA t r as.tail
def chkK (t : Ct) : Kw → As → Bool
  | .nil, _ => true
  | .v _ a r, as => chkE t a as.tail && chkK t r (toE n a as.tail).2
  | .io _ i r, as => vis n t i && chkK t r as.tail.tail
def chkP (t : Ct) : Es → As → Bool
  | .nil, _ => true
  | .cons k r, as => chkE t k as.tail && chkP t r (toE n k as.tail).2
def chkO (t : Ct) : Op → As → Bool
  | .no, _ => true
  | .so a, as => chkE t a as
def chkI (t : Ct) (tg : Tg) : I → As → Bool
  | .d a, as => chkE t a as
  | .zp x y, as => blt b t "zip" && chkE t x as.tail.tail && chkE t y (toE n x as.tail.tail).2 && (match tg with
    | .tp _ => true
    | _ => false)
  | .en x, as => blt b t "enumerate" && chkE t x as.tail.tail && (match tg with
    | .tp _ => true
    | _ => false)
end
end
/-- the facts of the module -/
structure Facts (G : Gd) (c : Cx) (n : Nm) (S : List Sh) (b : List Str) (kk : Nat) : Prop where
  bl : ∀ x ∈ b, G.mg x = none
  gl : ∀ x d, c.glob x = some d → ∃ u v, G.mg x = some u ∧ RelV v u ∧ ∀ H, RD G.K H d v
  sh : ∀ s ∈ S, FnOk G.P G.w G.K G.mg G.base (L2.CX G.P G.w) kk (G.fi s.f).addr (G.fi s.f).fd (G.fi s.f).ps (spOf G (c.call s.f)) ∧ G.mg (n.fn s.f) = some (.ref (G.fi s.f).addr) ∧ PySem.W.keepIn G.K (.ref (G.fi s.f).addr) = true ∧
    ∀ (st : Shared) (us ws : List Value), us.length = s.np → ws.length = s.kw.length → BindsTo st (G.fi s.f).fd ⟨us, s.kw.zip ws⟩ ((G.fi s.f).ps.zip (arr .none s.perm us ws))
structure XOk (G : Gd) (n : Nm) (kk : Nat) (t : Ct) (W : WX) (X : L2.Cx) : Prop where
  K : X.K = G.K
  prog : X.prog = G.P
  w : X.w = G.w
  mg : X.mg = G.mg
  base : X.base = G.base
  cal : t.cl = true → X.calm = true
  N : X.N = n.N
  nd : X.N.Nodup
  sc : X.env.scope = t.sc
  tk : Takes X W
  room : t.cl = true → Room kk X.A
  un : X.A.units + 65 < cLine
  top : ∀ x, t.top = true ∨ t.osc.names.lookup x = some .cell → X.fn x = true
section
variable {G : Gd} {c : Cx} {n : Nm} {S : List Sh} {b : List Str} {kk : Nat} {t : Ct} {W : WX} {X : L2.Cx}
theorem XOk.blk (hX : XOk G n kk t W X) (hc : t.cl = true) (s : Shared) (H : Hp) (scope : Scope) (C : Addr) (cl : List (Str × Addr)) (fp : List Addr) : XOk G n kk ⟨relab scope t.sc, true, false, scope⟩ WF (X.blk s H scope (compEnvC scope cl C X.env) fp) where
  K := hX.K
  prog := hX.prog
  w := hX.w
  mg := hX.mg
  base := hX.base
  cal := fun _ => hX.cal hc
  N := hX.N
  nd := hX.nd
  sc := by
    show relabel scope X.env = relab scope t.sc
    rw [← hX.sc]
    rfl
  tk := takes0
  room := fun _ => hX.room hc
  un := hX.un
  top := fun x h => by
    rcases h with h | h
    · cases h
    · show (scope.names.lookup x == some .cell) = true
      have h : scope.names.lookup x = some .cell := h
      rw [h]; rfl
theorem XOk.gl (hX : XOk G n kk t W X) {x : Str} (h : glb t x = true) : Gl X x ∧ (x == ("__debug__" : Str)) = false := by
  unfold glb at h
  simp only [Bool.and_eq_true, Bool.not_eq_true'] at h
  refine ⟨?_, h.1⟩
  have h2 := h.2
  show X.env.scope.names.lookup x = _
  rw [hX.sc]
  split at h2
  · assumption
  · cases h2
theorem XOk.bl (hX : XOk G n kk t W X) (F : Facts G c n S b kk) {x : Str} (h : blt b t x = true) : Gl X x ∧ X.mg x = none := by
  simp only [blt, Bool.and_eq_true, decide_eq_true_eq] at h
  exact ⟨(hX.gl h.1).1, by rw [hX.mg]; exact F.bl x h.2⟩
theorem XOk.var (hX : XOk G n kk t W X) {i : Nat} {p : Pos} (h : vis n t i = true) : PE X (.Name (n.nm i) p) (tVar i) := by
  simp only [vis, Bool.and_eq_true, decide_eq_true_eq, Bool.not_eq_true'] at h
  obtain ⟨⟨⟨h1, h2⟩, h3⟩, h4⟩ := h
  refine pe_var (by rw [hX.N]; exact h1) ?_ h2 h3
  unfold Vis
  rw [hX.sc]
  split at h4
  · rename_i q; exact .inl q
  · rename_i q; exact .inr (.inl q)
  · rename_i q; exact .inr (.inr q)
  · cases h4
theorem XOk.sto (hX : XOk G n kk t W X) {i : Nat} (h : sto n t i = true) : X.N[i]? = some (n.nm i) ∧ L2.Loc X.env.scope (n.nm i) ∧ (X.fn (n.nm i) = true ∨ X.env.scope.names.lookup (n.nm i) = some .local) := by
  simp only [Mi.sto, Bool.and_eq_true, decide_eq_true_eq] at h
  obtain ⟨h1, h4⟩ := h
  unfold L2.Loc
  rw [hX.sc]
  refine ⟨by rw [hX.N]; exact h1, ?_⟩
  split at h4
  · rename_i q; exact ⟨.inl q, .inr q⟩
  · rename_i q; exact ⟨.inr q, .inl (hX.top _ (by simpa using h4))⟩
  · cases h4
theorem names_len (is : List Nat) (as : As) : ((toNames n is as).1).length = is.length := by
  induction is generalizing as with
  | nil => rfl
  | cons i r ih => simp [toNames, ih]
theorem each_names {env : PySem.Env} (is : List Nat) (as : As) : (assignEach (toNames n is as).1 env).length = is.length ∧ (assignEach (toNames n is as).1 env).findIdx? (·.1) = none := by
  induction is generalizing as with
  | nil => exact ⟨rfl, rfl⟩
  | cons i r ih =>
    obtain ⟨h1, h2⟩ := ih as.tail
    refine ⟨?_, ?_⟩
    · show ((false, assign (.Name (n.nm i) (Ann.pos as)) env) :: assignEach (toNames n r as.tail).1 env).length = r.length + 1
      rw [List.length_cons, h1]
    · show ((false, assign (.Name (n.nm i) (Ann.pos as)) env) :: assignEach (toNames n r as.tail).1 env).findIdx? (·.1) = none
      rw [List.findIdx?_cons, h2]
      rfl
theorem XOk.names (hX : XOk G n kk t W X) {is : List Nat} (as : As) (h : ∀ i ∈ is, Mi.sto n t i = true) : PGs X (toNames n is as).1 (gNms is) := by
  induction is generalizing as with
  | nil => exact pgs_nil
  | cons i r ih =>
    obtain ⟨h1, h2, h3⟩ := hX.sto (h i (by simp))
    exact pgs_cons (pg_name hX.nd h1 h2 h3) (ih as.tail fun j hj => h j (by simp [hj])) rfl
theorem XOk.tg (hX : XOk G n kk t W X) (hc : t.cl = true) {own : List Nat} {tg : Tg} (as : As) (h : chkTg n t own tg = true) : PG X (toTg n tg as).1 (gT G.K tg) ∧ ∀ i ∈ tg.slots, i ∈ own := by
  cases tg with
  | nm i =>
    simp only [chkTg, Bool.and_eq_true, List.contains_iff_mem] at h
    obtain ⟨h1, h2, h3⟩ := hX.sto h.1
    exact ⟨pg_name hX.nd h1 h2 h3, fun j hj => by simp only [Tg.slots, List.mem_singleton] at hj; subst hj; exact h.2⟩
  | tp is =>
    simp only [chkTg, List.all_eq_true, Bool.and_eq_true, List.contains_iff_mem] at h
    refine ⟨?_, fun j hj => (h j hj).2⟩
    have e := each_names (n := n) (env := X.env) is as.tail
    have h1 := pg_tup (pos := Ann.pos as) (k := 0) (hX.cal hc) (hX.names as.tail fun i hi => (h i hi).1) e.1 e.2
    have h2 := pg_lst (pos := Ann.pos as) (k := 0) (hX.cal hc) (hX.names as.tail fun i hi => (h i hi).1) e.1 e.2
    rw [hX.K] at h1 h2
    exact ⟨fun pins s σ H v u Q I r hw => hw.elim (h1.run pins s σ H v u Q I r) (h2.run pins s σ H v u Q I r)⟩
/-! small lemmas -/
theorem toEs_len (es : Es) (as : As) : (toEs n es as).1.length = es.len := by
  cases es with
  | nil => simp [toEs, Es.len]
  | cons a r => simp only [toEs, Es.len, List.length_cons]; rw [toEs_len r]
theorem evs_len : ∀ (es : Es) (e : Env) (ts : List T) (e' : Env), evs c es e = .ok ts e' → ts.length = es.len
  | .nil, e, ts, e', h => by
    rw [evs] at h
    cases h; rfl
  | .cons a r, e, ts, e', h => by
    rw [evs] at h
    cases q : ev c a e with
    | exc _ _ => rw [q] at h; cases h
    | bad => rw [q] at h; cases h
    | ok x e1 =>
      rw [q] at h
      simp only [R.bind] at h
      cases q2 : evs c r e1 with
      | exc _ _ => rw [q2] at h; cases h
      | bad => rw [q2] at h; cases h
      | ok xs e2 =>
        rw [q2] at h
        cases h
        simp [Es.len, evs_len r e1 xs _ q2]
theorem toA_len (es : Ag) (as : As) : (toA n es as).1.length = es.len ∧ ∀ j, (itA es j).length = es.len := by
  cases es with
  | nil => exact ⟨by simp [toA, Ag.len], fun j => rfl⟩
  | v a r =>
    obtain ⟨h1, h2⟩ := toA_len r (toE n a as).2
    exact ⟨by simp [toA, Ag.len, h1], fun j => by simp [itA, Ag.len, h2]⟩
  | io i r =>
    obtain ⟨h1, h2⟩ := toA_len r as.tail
    exact ⟨by simp [toA, Ag.len, h1], fun j => by simp [itA, Ag.len, h2]⟩
theorem toA_nice (es : Ag) (as : As) : ∀ e ∈ (toA n es as).1, Nice e := by
  cases es with
  | nil => intro e he; simp [toA] at he
  | v a r =>
    intro e he
    rw [toA] at he
    rcases List.mem_cons.mp he with rfl | he
    · exact nice_toE n a as
    · exact toA_nice r _ e he
  | io i r =>
    intro e he
    rw [toA] at he
    rcases List.mem_cons.mp he with rfl | he
    · exact nice_name
    · exact toA_nice r _ e he
theorem toK_len (ks : Kw) (as : As) : (toK n ks as).1.length = ks.nms.length ∧ (∀ j, (itK ks j).length = ks.nms.length) ∧ kwNm (toK n ks as).1 = ks.nms ∧ KwOk (toK n ks as).1 := by
  cases ks with
  | nil => exact ⟨by simp [toK, Kw.nms], fun j => rfl, by simp [toK, Kw.nms, kwNm], fun k hk => by simp [toK] at hk⟩
  | v k a r =>
    obtain ⟨h1, h2, h3, h4⟩ := toK_len r (toE n a as.tail).2
    refine ⟨by simp [toK, Kw.nms, h1], fun j => by simp [itK, Kw.nms, h2], by simp [toK, Kw.nms, kwNm, h3], fun q hq => ?_⟩
    rw [toK] at hq
    rcases List.mem_cons.mp hq with rfl | hq
    · rfl
    · exact h4 q hq
  | io k i r =>
    obtain ⟨h1, h2, h3, h4⟩ := toK_len r as.tail.tail
    refine ⟨by simp [toK, Kw.nms, h1], fun j => by simp [itK, Kw.nms, h2], by simp [toK, Kw.nms, kwNm, h3], fun q hq => ?_⟩
    rw [toK] at hq
    rcases List.mem_cons.mp hq with rfl | hq
    · rfl
    · exact h4 q hq
theorem abase_pl {env : PySem.Env} {m : Str} : ∀ (ks : Es) (i : Nat) (x : Expr) (as : As), (attributeBase x m env (eval x env) = eval x env) → attributeBase (toPl n ks x as).1 m env (eval (toPl n ks x as).1 env) = eval (toPl n ks x as).1 env
  | .nil, i, x, as, h => by simpa [toPl] using h
  | .cons k r, i, x, as, h => by rw [toPl]; exact abase_pl r i _ _ rfl
/-- an and, or of one -/
theorem pm_bop1 {a : Expr} {f : Env → R T} {pos : Pos} (k : Bool) (ha : PE X a (tE G W TT f)) : PE X (.BoolOp (if k then .And else .Or) [a] pos) (tE G W TT f) := by
  refine ⟨fun pins s σ H Q I h => ?_⟩
  have e : eval (.BoolOp (if k then .And else .Or) [a] pos) X.env = eval a X.env := by cases k <;> rfl
  rw [e]
  exact ha.run pins s σ H Q I h
/-- places -/
def plFs (c : Cx) : Es → (Env → R (T × List D × T)) → Env → R (T × List D × T)
  | .nil, F => F
  | .cons k r, F => plFs c r (plS F (ev c k))
theorem plFs_eq : ∀ (ks : Es) (F : Env → R (T × List D × T)) (e : Env), plFs c ks F e = (F e).bind fun p e1 => (evP c ks p.2.2 e1).bind fun q e2 => .ok (p.1, p.2.1 ++ q.1, q.2) e2
  | .nil, F, e => by
    unfold plFs
    cases q : F e with
    | ok p e1 => simp [evP]
    | exc _ _ => rfl
    | bad => rfl
  | .cons k r, F, e => by
    unfold plFs
    rw [plFs_eq r]
    unfold plS
    cases q : F e with
    | exc _ _ => rfl
    | bad => rfl
    | ok p e1 =>
      simp only [R.bind]
      rw [evP]
      cases q2 : ev c k e1 with
      | exc _ _ => rfl
      | bad => rfl
      | ok y e2 =>
        simp only [R.bind]
        cases q3 : p.2.2.at1 y.fz with
        | none => rfl
        | some u =>
          simp only
          cases q4 : evP c r u e2 with
          | exc _ _ => rfl
          | bad => rfl
          | ok z e3 => simp [List.append_assoc]
theorem pl_eq (i : Nat) (ks : Es) (e : Env) : plFs c ks (pl0 i) e = match getL e i with
    | some t => (evP c ks t (e.set i none)).bind fun p e1 => .ok (t, p.1, p.2) e1
    | none => .bad := by
  rw [plFs_eq]
  unfold pl0
  cases q : getL e i with
  | none => rfl
  | some t =>
    simp only [R.bind]
    cases q2 : evP c ks t (e.set i none) with
    | exc _ _ => rfl
    | bad => rfl
    | ok p e1 => simp
theorem pm_c {a : Expr} {d : D} {v : V} (ha : PE X a (tC v)) (r : ∀ H, RD G.K H d v) : PE X a (tE G W TT fun e => .ok (.leaf d) e) :=
  (pm_cst (G := G) (W := W) ha r).im fun σ H Q ⟨e, fps, re, pp⟩ => ⟨e, fps, re, Post.mono pp fun i hi => nomatch hi⟩
theorem nice_toI (n : Nm) (i : I) (as : As) (env : PySem.Env) (x : Value) : foldedSetIterable (toI n i as).1 env x = pure x := by
  cases i with
  | d a => rw [toI]; exact (nice_toE n a as).fs env x
  | zp _ _ => rw [toI]; rfl
  | en _ => rw [toI]; rfl
end
end Mi
end
section
set_option maxRecDepth 100000
/-! Mi21: a checked expression does what it says. -/
namespace Mi
open PySem L2 PySem.Spec PyProof.Rows
/-- as a value and as a test -/
def PX (X : L2.Cx) (G : Gd) (W : WX) (a : Expr) (f : Env → R T) : Prop := PE X a (tE G W TT f) ∧ PT X a (tT G W TT f)
section
variable {G : Gd} {c : Cx} {n : Nm} {S : List Sh} {b : List Str} {kk : Nat}
theorem eqE {X : L2.Cx} {W : WX} {a : Expr} {f g : Env → R T} (h : PE X a (tE G W TT f)) (q : ∀ e, f e = g e) : PE X a (tE G W TT g) := (funext q : f = g) ▸ h
theorem eqT {X : L2.Cx} {W : WX} {a : Expr} {f g : Env → R T} (h : PT X a (tT G W TT f)) (q : ∀ e, f e = g e) : PT X a (tT G W TT g) := (funext q : f = g) ▸ h
theorem eqA {X : L2.Cx} {W : WX} {a : List Expr} {f g : Env → R (List T)} (h : PA X a (tEs G W TT f)) (q : ∀ e, f e = g e) : PA X a (tEs G W TT g) := (funext q : f = g) ▸ h
theorem eqAg {X : L2.Cx} {W : WX} {a : List Expr} {as : Ag} {f g : Env → R (List T)} (h : PA X a (tAg G W as f)) (q : ∀ e, f e = g e) : PA X a (tAg G W as g) := (funext q : f = g) ▸ h
theorem eqK {X : L2.Cx} {W : WX} {a : List Keyword} {as : Kw} {f g : Env → R (List T)} (h : PK X a (tKw G W as f)) (q : ∀ e, f e = g e) : PK X a (tKw G W as g) := (funext q : f = g) ▸ h
theorem eqO {X : L2.Cx} {W : WX} {a : Option Expr} {f g : Env → R (Option Int)} (h : PO X a (tOp' G W TT f)) (q : ∀ e, f e = g e) : PO X a (tOp' G W TT g) := (funext q : f = g) ▸ h
theorem eqI {X : L2.Cx} {W : WX} {x a : Expr} {f g : Env → R (List D)} (h : PI X x a (tI G W f)) (q : ∀ e, f e = g e) : PI X x a (tI G W g) := (funext q : f = g) ▸ h
theorem PX.of {X : L2.Cx} {W : WX} {a : Expr} {f : Env → R T} (ha : PE X a (tE G W TT f)) (he : ∀ whole, isTrue a X.env whole = (do let v ← whole; standAt a.pos; holding [v] (truthy v))) : PX X G W a f := ⟨ha, pt_of ha he⟩
theorem tg_slots {t : Ct} {own : List Nat} {tg : Tg} (h : chkTg n t own tg = true) : ∀ i ∈ tg.slots, i ∈ own := by
  cases tg with
  | nm i =>
    simp only [chkTg, Bool.and_eq_true, List.contains_iff_mem] at h
    intro j hj
    simp only [Tg.slots, List.mem_singleton] at hj
    subst hj; exact h.2
  | tp is =>
    simp only [chkTg, List.all_eq_true, Bool.and_eq_true, List.contains_iff_mem] at h
    exact fun j hj => (h j hj).2
theorem tr_pl {env : PySem.Env} : ∀ (ks : Es) (x : Expr) (as : As), (∀ whole, isTrue x env whole = (do let v ← whole; standAt x.pos; holding [v] (truthy v))) → ∀ whole, isTrue (toPl n ks x as).1 env whole = (do let v ← whole; standAt (toPl n ks x as).1.pos; holding [v] (truthy v))
  | .nil, x, as, h => by simpa [toPl] using h
  | .cons k r, x, as, h => by rw [toPl]; exact tr_pl r _ _ fun _ => rfl
theorem cons_of {es : Es} (h : 0 < es.len) (as : As) : ∃ e r, (toEs n es as).1 = e :: r := by
  cases es with
  | nil => simp [Es.len] at h
  | cons a r => exact ⟨_, _, by rw [toEs]⟩
mutual
theorem okE (F : Facts G c n S b kk) {t : Ct} {W : WX} {X : L2.Cx} (hX : XOk G n kk t W X) : ∀ (e : E) (as : As), chkE n S b t e as = true → PX X G W (toE n e as).1 (ev c e)
  | .non, as, h => by
    rw [toE]; exact .of (eqE (pm_c (d := .non) (v := .non) pe_non fun H => rfl) (by intro e; rw [ev]; try rfl)) fun _ => rfl
  | .bl v, as, h => by
    rw [toE]; exact .of (eqE (pm_c (d := .bl v) (v := .bl v) pe_bl fun H => rfl) (by intro e; rw [ev]; try rfl)) fun _ => rfl
  | .int v, as, h => by
    rw [toE]; exact .of (eqE (pm_c (d := .int v) (v := .int v) pe_int fun H => rfl) (by intro e; rw [ev]; try rfl)) fun _ => rfl
  | .str v, as, h => by
    rw [toE]; exact .of (eqE (pm_c (d := .str v) (v := .str v) pe_str fun H => rfl) (by intro e; rw [ev]; try rfl)) fun _ => rfl
  | .get i, as, h => by
    rw [chkE] at h
    rw [toE]; exact .of (eqE (pm_get (hX.var h)) (by intro e; rw [ev]; try rfl)) fun _ => rfl
  | .fz i, as, h => by
    rw [chkE] at h
    rw [toE]; exact .of (eqE (pm_fzv hX.K (hX.var h)) (by intro e; rw [ev]; try rfl)) fun _ => rfl
  | .mv i, as, h => by
    rw [chkE] at h
    rw [toE]; exact .of (eqE (pm_mv (io := c.io.contains i) (hX.var h)) (by intro e; rw [ev]; try rfl)) fun _ => rfl
  | .gl x, as, h => by
    rw [chkE] at h
    obtain ⟨h1, h2⟩ := hX.gl h
    rw [toE]; exact .of (eqE (pm_gl (gl := c.glob) h1 h2 fun d hd => by rw [hX.mg]; exact F.gl x d hd) (by intro e; rw [ev]; try rfl)) fun _ => rfl
  | .bin o x y, as, h => by
    rw [chkE, Bool.and_eq_true] at h
    rw [toE]; exact .of (eqE (pm_bin hX.K o (okE F hX x _ h.1).1 (okE F hX y _ h.2).1) (by intro e; rw [ev]; try rfl)) fun _ => rfl
  | .neg x, as, h => by
    rw [chkE] at h
    rw [toE]; exact .of (eqE (pm_neg hX.K (okE F hX x _ h).1) (by intro e; rw [ev]; try rfl)) fun _ => rfl
  | .cmp o x y, as, h => by
    rw [chkE, Bool.and_eq_true] at h
    have h1 := (okE F hX x _ h.1).1
    have h2 := (okE F hX y _ h.2).1
    have hm := (nice_toE n y (toE n x as.tail).2).bm o.op
    rw [toE]; exact ⟨eqE (pm_cmp hX.K hX.un o h1 h2 hm) (by intro e; rw [ev]; try rfl), eqT (pmt_cmp hX.K hX.un o h1 h2 hm) (by intro e; rw [ev]; try rfl)⟩
  | .chn o o' x y z, as, h => by
    rw [chkE, Bool.and_eq_true, Bool.and_eq_true] at h
    have h1 := (okE F hX x _ h.1.1).1
    have h2 := (okE F hX y _ h.1.2).1
    have h3 := (okE F hX z _ h.2).1
    have hm := lastMarks2 (o := o.op) (o' := o'.op) (b := (toE n y (toE n x as.tail).2).1) (nice_toE n z (toE n y (toE n x as.tail).2).2)
    rw [toE]; exact ⟨eqE (pm_chn hX.K hX.un o o' h1 h2 h3 hm) (by intro e; rw [ev]; try rfl), eqT (pmt_chn hX.K hX.un o o' h1 h2 h3 hm) (by intro e; rw [ev]; try rfl)⟩
  | .bop k x r, as, h => by
    rw [chkE, Bool.and_eq_true, Bool.and_eq_true] at h
    have h1 := okE F hX x _ h.1.1
    have h2 := okB F hX r k (Ann.pos as) (toE n x as.tail).2 h.1.2 (by simpa using h.2)
    cases r with
    | nil => simp [Es.len] at h
    | cons y r =>
      rw [toE]
      rw [toEs] at h2 ⊢
      exact ⟨eqE (pm_bop k h1.1 h2.1) (by intro e; rw [ev]; try rfl), eqT (pmw_bop k h1.2 h2.2).pt (by intro e; rw [ev]; try rfl)⟩
  | .not x, as, h => by
    rw [chkE] at h
    have h1 := okE F hX x _ h
    rw [toE]; exact ⟨eqE (pm_not h1.1) (by intro e; rw [ev]; try rfl), eqT (pmt_not h1.2) (by intro e; rw [ev]; try rfl)⟩
  | .ite x y z, as, h => by
    rw [chkE, Bool.and_eq_true, Bool.and_eq_true] at h
    have h1 := okE F hX x _ h.1.1
    have h2 := okE F hX y _ h.1.2
    have h3 := okE F hX z _ h.2
    rw [toE]; exact ⟨eqE (pm_ite h1.2 h2.1 h3.1) (by intro e; rw [ev]; try rfl), eqT (pmt_ite h1.2 h2.2 h3.2) (by intro e; rw [ev]; try rfl)⟩
  | .idx x k, as, h => by
    rw [chkE, Bool.and_eq_true] at h
    rw [toE]; exact .of (eqE (pm_idx hX.K (okE F hX x _ h.1).1 (okE F hX k _ h.2).1 (nice_toE n k _).ix) (by intro e; rw [ev]; try rfl)) fun _ => rfl
  | .slc x lo hi, as, h => by
    rw [chkE, Bool.and_eq_true, Bool.and_eq_true] at h
    rw [toE]; exact .of (eqE (pm_slc hX.K (okE F hX x _ h.1.1).1 (okO F hX lo _ h.1.2) (okO F hX hi _ h.2)) (by intro e; rw [ev]; try rfl)) fun _ => rfl
  | .rev x, as, h => by
    rw [chkE] at h
    rw [toE]; exact .of (eqE (pm_rev hX.K (okE F hX x _ h).1) (by intro e; rw [ev]; try rfl)) fun _ => rfl
  | .lset x, as, h => by
    rw [chkE, Bool.and_eq_true, Bool.and_eq_true, Bool.and_eq_true] at h
    obtain ⟨g1, g2⟩ := hX.bl F h.1.1.2
    obtain ⟨g3, g4⟩ := hX.bl F h.1.2
    rw [toE]; exact .of (eqE (pm_lset hX.K (hX.cal h.1.1.1) g1 g2 g3 g4 (okE F hX x _ h.2).1 (nice_toE n x _)) (by intro e; rw [ev]; try rfl)) fun _ => rfl
  | .tup es, as, h => by
    rw [chkE, Bool.and_eq_true] at h
    rw [toE]; exact .of (eqE (pm_tup hX.K (okEs F hX es _ h.1) fun e ts e' q => by rw [evs_len es e ts e' q]; exact of_decide_eq_true h.2) (by intro e; rw [ev]; try rfl)) fun _ => rfl
  | .lst es, as, h => by
    rw [chkE, Bool.and_eq_true] at h
    rw [toE]; exact .of (eqE (pm_lst (okEs F hX es _ h.1) fun e ts e' q => by rw [evs_len es e ts e' q]; exact of_decide_eq_true h.2) (by intro e; rw [ev]; try rfl)) fun _ => rfl
  | .bi f es, as, h => by
    rw [chkE, Bool.and_eq_true, Bool.and_eq_true, Bool.and_eq_true] at h
    have h1 := okEs F hX es _ h.1.2
    have hn := nice_toEs n es as.tail.tail
    obtain ⟨e0, r0, q⟩ := cons_of (n := n) (of_decide_eq_true h.2) as.tail.tail
    obtain ⟨g1, g2⟩ := hX.bl F h.1.1.2
    rw [q] at h1 hn
    rw [toE, q]; exact .of (eqE (pm_bi hX.K (hX.cal h.1.1.1) hX.un f g1 g2 h1 hn) (by intro e; rw [ev]; try rfl)) fun _ => rfl
  | .ty f es, as, h => by
    rw [chkE, Bool.and_eq_true, Bool.and_eq_true] at h
    have h1 := okEs F hX es _ h.1.2
    have hn := nice_toEs n es as.tail.tail
    obtain ⟨e0, r0, q⟩ := cons_of (n := n) (of_decide_eq_true h.2) as.tail.tail
    obtain ⟨g1, g2⟩ := hX.bl F h.1.1
    rw [q] at h1 hn
    rw [toE, q]; exact .of (eqE (pm_ty hX.K f g1 g2 h1 hn) (by intro e; rw [ev]; try rfl)) fun _ => rfl
  | .isi x ts, as, h => by
    rw [chkE, Bool.and_eq_true, Bool.and_eq_true, Bool.and_eq_true] at h
    obtain ⟨g1, g2⟩ := hX.bl F h.1.1.1
    have g3 : ∀ y ∈ ts, Gl X y.nm ∧ X.mg y.nm = none := fun y hy => hX.bl F (by
      have := h.1.2
      rw [chkTys, List.all_eq_true] at this
      exact this y hy)
    rw [toE]; exact .of (eqE (pm_isi hX.K _ (of_decide_eq_true h.2) g1 g2 g3 (okE F hX x _ h.1.1.2).1 (nice_toE n x _)) (by intro e; rw [ev]; try rfl)) fun _ => rfl
  | .rg es, as, h => by
    rw [chkE, Bool.and_eq_true, Bool.and_eq_true] at h
    have h1 := okEs F hX es _ h.1.2
    have hn := nice_toEs n es as.tail.tail
    obtain ⟨e0, r0, q⟩ := cons_of (n := n) (of_decide_eq_true h.2) as.tail.tail
    obtain ⟨g1, g2⟩ := hX.bl F h.1.1
    rw [q] at h1 hn
    rw [toE, q]; exact .of (eqE (pm_rg hX.K g1 g2 h1 hn) (by intro e; rw [ev]; try rfl)) fun _ => rfl
  | .call f es ks ars, as, h => by
    rw [chkE] at h
    simp only [Bool.and_eq_true] at h
    obtain ⟨⟨⟨⟨⟨hc, hg⟩, ha⟩, hk⟩, hnd⟩, hs⟩ := h
    have h1 := okA F hX es _ ha
    have h2 := okK F hX ks _ hk
    obtain ⟨g1, g2⟩ := hX.gl hg
    have hnd := of_decide_eq_true hnd
    split at hs
    · rename_i s hf
      have hp := of_decide_eq_true hs
      have hmem := List.mem_of_find?_eq_some hf
      have hpr := List.find?_some hf
      simp only [Bool.and_eq_true, beq_iff_eq, decide_eq_true_eq] at hpr
      obtain ⟨⟨rfl, hnp⟩, hkw⟩ := hpr
      obtain ⟨f1, f2, f3, f4⟩ := F.sh s hmem
      rw [← hX.prog, ← hX.w, ← hX.K, ← hX.mg, ← hX.base] at f1
      rw [← hX.mg] at f2
      rw [← hX.K] at f3
      obtain ⟨l1, l2⟩ := toA_len (n := n) es as.tail.tail
      obtain ⟨k1, k2, k3, k4⟩ := toK_len (n := n) ks (toA n es as.tail.tail).2
      have hn := toA_nice (n := n) es as.tail.tail
      rw [toE]
      refine .of ?_ fun _ => rfl
      cases es with
      | nil =>
        rw [toA] at k1 k3 k4 h2 ⊢
        have e : evA c .nil = fun e => .ok [] e := by funext e; rw [evA]
        have := pm_call0 (pos := Ann.pos as) (p := Ann.pos as.tail) (x := n.fn s.f) (perm := s.perm) (ars := ars) f1 (hX.room hc) g1 f2 f3 (fun st us ws u1 u2 => by rw [k3, ← hkw]; exact f4 st us ws (by rw [hnp]; exact u1) (by rw [hkw, ← k1]; exact u2)) hX.tk h2 k4 g2 hnd (by simpa [itA, nvA] using hp) (fun j => by rw [k1]; exact k2 j)
        rw [← e] at this
        exact eqE this (by intro e; rw [ev]; try rfl)
      | v a r =>
        rw [toA] at k1 k3 k4 h1 h2 l1 hn ⊢
        have := pm_call (pos := Ann.pos as) (p := Ann.pos as.tail) (x := n.fn s.f) (perm := s.perm) (ars := ars) f1 (hX.room hc) g1 f2 f3 (fun st us ws u1 u2 => by rw [k3, ← hkw]; exact f4 st us ws (by rw [hnp, ← l1]; exact u1) (by rw [hkw, ← k1]; exact u2)) hX.tk h1 h2 hn k4 g2 hnd hp (by rw [l1]; exact l2 0) (fun j => by rw [k1]; exact k2 j)
        exact eqE this (by intro e; rw [ev]; try rfl)
      | io i r =>
        rw [toA] at k1 k3 k4 h1 h2 l1 hn ⊢
        have := pm_call (pos := Ann.pos as) (p := Ann.pos as.tail) (x := n.fn s.f) (perm := s.perm) (ars := ars) f1 (hX.room hc) g1 f2 f3 (fun st us ws u1 u2 => by rw [k3, ← hkw]; exact f4 st us ws (by rw [hnp, ← l1]; exact u1) (by rw [hkw, ← k1]; exact u2)) hX.tk h1 h2 hn k4 g2 hnd hp (by rw [l1]; exact l2 0) (fun j => by rw [k1]; exact k2 j)
        exact eqE this (by intro e; rw [ev]; try rfl)
    · cases hs
  | .lc elt tg it cs own, as, h => by
    rw [chkE] at h
    simp only [Bool.and_eq_true] at h
    obtain ⟨⟨⟨⟨⟨⟨hc, hb⟩, h1⟩, h2⟩, h3⟩, h4⟩, h5⟩ := h
    have hB := fun s H C cl fp => hX.blk hc s H (Ann.sc as.tail) C cl fp
    have ok := blkC_ok hb
    have h5 := of_decide_eq_true h5
    rw [toE]
    refine .of ?_ fun _ => rfl
    have ix := ownOf_ix n own
    rw [← hX.N, ← hX.sc] at ok
    have hi := okI F hX tg it _ (toTg n tg (toE n elt as.tail.tail).2).1 h3 (fun is e => by subst e; exact ⟨_, _, rfl⟩)
    have hT : ∀ (s : Shared) (H : Hp) (C : Addr) (cl : List (Str × Addr)) (fp : List Addr), PTs (X.blk s H (Ann.sc as.tail) (compEnvC (Ann.sc as.tail) cl C X.env) fp) (toEs n cs (toI n it (toTg n tg (toE n elt as.tail.tail).2).2).2).1 (tT G WF TT (evB c true cs)) := fun s H C cl fp => by
      cases cs with
      | nil =>
        rw [toEs]
        refine ⟨fun pins s σ H Q I hq => pts_nil.run pins s σ H Q I ?_⟩
        obtain ⟨e, fps, re, p⟩ := hq
        have p : Post G WF TT σ H fps relB (toB (evB c true .nil e)) Q := p
        rw [evB] at p
        exact p true H fps [] re ⟨rfl, rfl⟩ .refl
      | cons a r =>
        cases r with
        | cons _ _ => simp [Es.len] at h5
        | nil =>
          rw [chkEs, Bool.and_eq_true] at h4
          rw [toEs, toEs]
          have := (okE F (hB s H C cl fp) a _ h4.1).2
          have e : evB c true (.cons a .nil) = ev c a := by
            funext e
            rw [evB]
            cases ev c a e <;> rfl
          rw [e]
          exact pts_one this
    have hslots := tg_slots h2
    have key := pm_lc (c := c) (t := tg) (fI := evI c it) (fC := evB c true cs) (fE := ev c elt) (pos := Ann.pos as) hX.K (hX.cal hc) hX.nd hi ok (by rw [ix]; exact hslots) (fun s H C cl fp => ((hB s H C cl fp).tg rfl _ h2).1) hT (fun s H C cl fp => (okE F (hB s H C cl fp) elt _ h1).1) (nice_toI n it _ X.env)
    have := (pe_lc (pos := Ann.pos as) (hX.cal hc) hX.nd hi ok (fun s H C cl fp => ((hB s H C cl fp).tg rfl _ h2).1) hT (fun s H C cl fp => (okE F (hB s H C cl fp) elt _ h1).1) (nice_toI n it _ X.env)).im key
    rw [ix] at this
    exact eqE this (by intro e; rw [ev]; try rfl)
  | .lc2 elt tg it tg' it' own own', as, h => by
    rw [chkE] at h
    simp only [Bool.and_eq_true] at h
    obtain ⟨⟨⟨⟨⟨⟨hc, hb⟩, h1⟩, h2⟩, h3⟩, h4⟩, h5⟩ := h
    have hB := fun s H C cl fp => hX.blk hc s H (Ann.sc as.tail) C cl fp
    have ok := blkC_ok hb
    rw [toE]
    refine .of ?_ fun _ => rfl
    have ix := ownOf_ix n (own ++ own')
    rw [← hX.N, ← hX.sc] at ok
    have hi := okI F hX tg it _ (toTg n tg (toE n elt as.tail.tail).2).1 h3 (fun is e => by subst e; exact ⟨_, _, rfl⟩)
    have hi' := fun s H C cl fp => okI F (hB s H C cl fp) tg' it' _ (toTg n tg' (toI n it (toTg n tg (toE n elt as.tail.tail).2).2).2).1 h5 (fun is e => by subst e; exact ⟨_, _, rfl⟩)
    have hslots := tg_slots h2
    have hslots' := tg_slots h4
    have key := pm_lc2 (G := G) (W := W) (c := c) (t := tg) (t' := tg') (fI := evI c it) (fI' := evI c it') (fE := ev c elt) (own := own ++ own') (own' := own') (fun j hj => List.mem_append_right _ hj) hslots hslots'
    have := (pe_lc2 (vs1 := own') (pos := Ann.pos as) (hX.cal hc) hX.nd hi ok (by rw [ix]; exact fun j hj => List.mem_append_right _ hj) (fun s H C cl fp => ((hB s H C cl fp).tg rfl _ h2).1) (fun s H C cl fp => pts_nil) hi' (fun s H C cl fp => ((hB s H C cl fp).tg rfl _ h4).1) (fun s H C cl fp => pts_nil) (fun s H C cl fp => (okE F (hB s H C cl fp) elt _ h1).1) (nice_toI n it _ X.env) (fun env x => nice_toI n it' _ env x)).im (by rw [ix]; exact key)
    exact eqE this (by intro e; rw [ev]; try rfl)
  | .pk i ks, as, h => by
    rw [chkE, Bool.and_eq_true] at h
    have h1 := pm_pk (okP F hX ks i (pl0 i) _ _ h.2 (pm_pl0 (hX.var (p := Ann.pos as) h.1)))
    rw [toE]
    refine .of ?_ (tr_pl ks _ _ fun _ => rfl)
    have e : ev c (.pk i ks) = fun e => (plFs c ks (pl0 i) e).bind fun p e1 => (match p.2.2 with
      | .leaf d => .ok (.leaf d) (e1.set i (some p.1))
      | _ => .bad) := by
      funext e
      rw [ev, pl_eq]
      cases getL e i with
      | none => rfl
      | some t => rw [R.bind_assoc]; rfl
    rw [e]; exact h1
  | .psl i ks k, as, h => by
    rw [chkE, Bool.and_eq_true] at h
    have h1 := pm_psl (k := k) (p1 := Ann.pos (toPl n ks (.Name (n.nm i) (Ann.pos as)) as.tail).2.tail.tail) (p2 := Ann.pos (toPl n ks (.Name (n.nm i) (Ann.pos as)) as.tail).2.tail) (pos := Ann.pos (toPl n ks (.Name (n.nm i) (Ann.pos as)) as.tail).2) hX.K (okP F hX ks i (pl0 i) _ _ h.2 (pm_pl0 (hX.var (p := Ann.pos as) h.1)))
    rw [toE]
    refine .of ?_ fun _ => rfl
    have e : ev c (.psl i ks k) = fun e => (plFs c ks (pl0 i) e).bind fun p e1 => (match p.2.2 with
      | .lst ts => (match unl ts with
        | some ds => .ok (.lst (leafs (cut ds (some k) none))) (e1.set i (some p.1))
        | none => .bad)
      | _ => .bad) := by
      funext e
      rw [ev, pl_eq]
      cases getL e i with
      | none => rfl
      | some t => rw [R.bind_assoc]; rfl
    rw [e]; exact h1
  | .vb f i ks, as, h => by
    rw [chkE] at h
    simp only [Bool.and_eq_true] at h
    obtain ⟨⟨⟨hc, hb⟩, hv⟩, hp⟩ := h
    obtain ⟨g1, g2⟩ := hX.bl F hb
    have h1 := pm_vb (pos := Ann.pos as) (p0 := Ann.pos as.tail) hX.K (hX.cal hc) hX.un f g1 g2 (okP F hX ks i (pl0 i) _ _ hp (pm_pl0 (hX.var (p := Ann.pos as.tail.tail) hv))) (nice_pl n _ _ _ nice_name)
    rw [toE]
    refine .of ?_ fun _ => rfl
    have e : ev c (.vb f i ks) = fun e => (plFs c ks (pl0 i) e).bind fun p e1 => optR (db f [p.2.2.fz]) (e1.set i (some p.1)) := by
      funext e
      rw [ev, pl_eq]
      cases getL e i with
      | none => rfl
      | some t => rw [R.bind_assoc]; rfl
    rw [e]; exact h1
  | .vcmp o i ks x, as, h => by
    rw [chkE] at h
    simp only [Bool.and_eq_true] at h
    obtain ⟨⟨hv, hp⟩, hx⟩ := h
    have h1 := pm_vcmp (pos := Ann.pos as) hX.K hX.un o (okP F hX ks i (pl0 i) _ _ hp (pm_pl0 (hX.var (p := Ann.pos as.tail) hv))) (okE F hX x _ hx).1 ((nice_toE n x _).bm _)
    have e : ev c (.vcmp o i ks x) = fun e => (plFs c ks (pl0 i) e).bind fun p e1 => (ev c x e1).bind fun y e2 => blR (dc o p.2.2.fz y.fz) (e2.set i (some p.1)) := by
      funext e
      rw [ev, pl_eq]
      cases getL e i with
      | none => rfl
      | some t => rw [R.bind_assoc]; rfl
    rw [toE, PX, e]
    exact h1
  | .vin ng x i ks, as, h => by
    rw [chkE] at h
    simp only [Bool.and_eq_true] at h
    obtain ⟨⟨hx, hv⟩, hp⟩ := h
    have h1 := pm_vin (pos := Ann.pos as) hX.K hX.un (if ng then .notin else .inn) (okE F hX x _ hx).1 (okP F hX ks i (pl0 i) _ _ hp (pm_pl0 (hX.var (p := Ann.pos (toE n x as.tail).2) hv))) ((nice_pl n ks _ _ nice_name).bm _)
    have e : ev c (.vin ng x i ks) = fun e => (ev c x e).bind fun y e1 => (plFs c ks (pl0 i) e1).bind fun p e2 => blR (dc (if ng then .notin else .inn) y.fz p.2.2.fz) (e2.set i (some p.1)) := by
      funext e
      rw [ev]
      congr 1
      funext y e1
      rw [pl_eq]
      cases getL e1 i with
      | none => rfl
      | some t => rw [R.bind_assoc]; rfl
    have ho : (if ng then CmpOp.NotIn else .In) = OC.op (if ng then .notin else .inn) := by cases ng <;> rfl
    rw [toE, PX, e]
    dsimp only
    rw [ho]
    exact h1
  | .mt o i ks es, as, h => by
    rw [chkE] at h
    simp only [Bool.and_eq_true, Bool.or_eq_true, beq_iff_eq] at h
    obtain ⟨⟨⟨⟨⟨⟨hv, hp⟩, he⟩, h0⟩, h30⟩, hl⟩, ho⟩ := h
    have h1 := okEs F hX es _ he
    have hn := nice_toEs n es (toPl n ks (.Name (n.nm i) (Ann.pos as.tail.tail)) as.tail.tail.tail).2
    have hlen := toEs_len (n := n) es (toPl n ks (.Name (n.nm i) (Ann.pos as.tail.tail)) as.tail.tail.tail).2
    obtain ⟨e0, r0, q⟩ := cons_of (n := n) (of_decide_eq_true h0) (toPl n ks (.Name (n.nm i) (Ann.pos as.tail.tail)) as.tail.tail.tail).2
    rw [q] at h1 hn hlen
    have h2 := pm_mt (pos := Ann.pos as) (p2 := Ann.pos as.tail) o hX.K (okP F hX ks i (pl0 i) _ _ hp (pm_pl0 (hX.var (p := Ann.pos as.tail.tail) hv))) h1 hn (abase_pl ks i _ _ rfl) (by simpa using hl) (by rw [hlen]; exact of_decide_eq_true h30) ho
    have e : ev c (.mt o i ks es) = mtF o i (plFs c ks (pl0 i)) (evs c es) := by
      funext e
      rw [ev, mtF, pl_eq]
      cases getL e i with
      | none => rfl
      | some t => rw [R.bind_assoc]; rfl
    rw [toE]
    dsimp only
    rw [q, e]
    exact .of h2 fun _ => rfl
  | .mv0 o i es, as, h => by
    rw [chkE] at h
    simp only [Bool.and_eq_true, Bool.or_eq_true, beq_iff_eq] at h
    obtain ⟨⟨⟨⟨⟨hv, he⟩, h0⟩, h30⟩, hl⟩, ho⟩ := h
    have h1 := okEs F hX es _ he
    have hn := nice_toEs n es as.tail.tail.tail
    have hlen := toEs_len (n := n) es as.tail.tail.tail
    obtain ⟨e0, r0, q⟩ := cons_of (n := n) (of_decide_eq_true h0) as.tail.tail.tail
    rw [q] at h1 hn hlen
    have h2 := pm_mv0 (pos := Ann.pos as) (p2 := Ann.pos as.tail) o hX.K (hX.var (p := Ann.pos as.tail.tail) hv) h1 hn rfl (by simpa using hl) (by rw [hlen]; exact of_decide_eq_true h30) ho
    have e : ev c (.mv0 o i es) = mv0F o i (evs c es) := by
      funext e
      rw [ev]
      rfl
    rw [toE, q, e]
    exact .of h2 fun _ => rfl
theorem okEs (F : Facts G c n S b kk) {t : Ct} {W : WX} {X : L2.Cx} (hX : XOk G n kk t W X) : ∀ (es : Es) (as : As), chkEs n S b t es as = true → PA X (toEs n es as).1 (tEs G W TT (evs c es))
  | .nil, as, h => by
    rw [toEs]; exact eqA (pm_nil) (by intro e; rw [evs]; try rfl)
  | .cons a r, as, h => by
    rw [chkEs, Bool.and_eq_true] at h
    rw [toEs]; exact eqA (pm_cons (okE F hX a _ h.1).1 (okEs F hX r _ h.2) (nice_toE n a as)) (by intro e; rw [evs]; try rfl)
theorem okB (F : Facts G c n S b kk) {t : Ct} {W : WX} {X : L2.Cx} (hX : XOk G n kk t W X) : ∀ (es : Es) (k : Bool) (pos : Pos) (as : As), chkEs n S b t es as = true → 0 < es.len →
    PE X (.BoolOp (if k then .And else .Or) (toEs n es as).1 pos) (tE G W TT (evB c k es)) ∧ PW X (.BoolOp (if k then .And else .Or) (toEs n es as).1 pos) (tT G W TT (evB c k es))
  | .nil, k, pos, as, h, h0 => by simp [Es.len] at h0
  | .cons a r, k, pos, as, h, h0 => by
    rw [chkEs, Bool.and_eq_true] at h
    have h1 := okE F hX a _ h.1
    cases r with
    | nil =>
      have e : evB c k (.cons a .nil) = ev c a := by
        funext e
        rw [evB]
        cases ev c a e <;> rfl
      rw [toEs, toEs, e]
      exact ⟨pm_bop1 k h1.1, pmw_one k h1.2⟩
    | cons y r =>
      have h2 := okB F hX (.cons y r) k pos (toE n a as).2 h.2 (by simp [Es.len])
      have e : evB c k (.cons a (.cons y r)) = bopF k (ev c a) (evB c k (.cons y r)) := by
        funext e
        rw [evB]
        rfl
      rw [toEs, e]
      rw [toEs] at h2 ⊢
      exact ⟨pm_bop k h1.1 h2.1, pmw_bop k h1.2 h2.2⟩
theorem okA (F : Facts G c n S b kk) {t : Ct} {W : WX} {X : L2.Cx} (hX : XOk G n kk t W X) : ∀ (es : Ag) (as : As), chkA n S b t es as = true → PA X (toA n es as).1 (tAg G W es (evA c es))
  | .nil, as, h => by
    rw [toA]; exact eqAg (pm_Anil) (by intro e; rw [evA]; try rfl)
  | .v a r, as, h => by
    rw [chkA, Bool.and_eq_true] at h
    rw [toA]; exact eqAg (pm_Av (okE F hX a _ h.1).1 (okA F hX r _ h.2) (nice_toE n a as)) (by intro e; rw [evA]; try rfl)
  | .io i r, as, h => by
    rw [chkA, Bool.and_eq_true] at h
    rw [toA]; exact eqAg (pm_Aio (hX.var h.1) (okA F hX r _ h.2) nice_name) (by intro e; rw [evA]; try rfl)
theorem okK (F : Facts G c n S b kk) {t : Ct} {W : WX} {X : L2.Cx} (hX : XOk G n kk t W X) : ∀ (ks : Kw) (as : As), chkK n S b t ks as = true → PK X (toK n ks as).1 (tKw G W ks (evK c ks))
  | .nil, as, h => by
    rw [toK]; exact eqK (pm_Knil) (by intro e; rw [evK]; try rfl)
  | .v k a r, as, h => by
    rw [chkK, Bool.and_eq_true] at h
    rw [toK]; exact eqK (pm_Kv (okE F hX a _ h.1).1 (okK F hX r _ h.2)) (by intro e; rw [evK]; try rfl)
  | .io k i r, as, h => by
    rw [chkK, Bool.and_eq_true] at h
    rw [toK]; exact eqK (pm_Kio (hX.var h.1) (okK F hX r _ h.2)) (by intro e; rw [evK]; try rfl)
theorem okP (F : Facts G c n S b kk) {t : Ct} {W : WX} {X : L2.Cx} (hX : XOk G n kk t W X) : ∀ (ks : Es) (i : Nat) (f : Env → R (T × List D × T)) (x : Expr) (as : As), chkP n S b t ks as = true → PE X x (tPl G W i f) → PE X (toPl n ks x as).1 (tPl G W i (plFs c ks f))
  | .nil, i, f, x, as, h, hx => by
    rw [toPl, plFs]; exact hx
  | .cons k r, i, f, x, as, h, hx => by
    rw [chkP, Bool.and_eq_true] at h
    rw [toPl, plFs]
    exact okP F hX r i _ _ _ h.2 (pm_plS hX.K hx (okE F hX k _ h.1).1 (nice_toE n k _))
theorem okO (F : Facts G c n S b kk) {t : Ct} {W : WX} {X : L2.Cx} (hX : XOk G n kk t W X) : ∀ (o : Op) (as : As), chkO n S b t o as = true → PO X (toO n o as).1 (tOp' G W TT (evO c o))
  | .no, as, h => by
    rw [toO]; exact eqO (pm_no) (by intro e; rw [evO]; try rfl)
  | .so a, as, h => by
    rw [chkO] at h
    rw [toO]; exact eqO (pm_so hX.K (okE F hX a _ h).1) (by intro e; rw [evO]; try rfl)
theorem okI (F : Facts G c n S b kk) {t : Ct} {W : WX} {X : L2.Cx} (hX : XOk G n kk t W X) (tg : Tg) : ∀ (i : I) (as : As) (te : Expr), chkI n S b t tg i as = true → (∀ is, tg = .tp is → ∃ es p, te = .Tuple es 0 p) → PI X te (toI n i as).1 (tI G W (evI c i))
  | .d a, as, te, h, ht => by
    rw [chkI] at h
    rw [toI]; exact eqI (pm_Id hX.K (okE F hX a _ h).1) (by intro e; rw [evI]; try rfl)
  | .zp x y, as, te, h, ht => by
    cases tg with
    | nm i => simp [chkI] at h
    | tp is =>
      rw [chkI] at h
      simp only [Bool.and_eq_true] at h
      obtain ⟨⟨⟨hb, hx⟩, hy⟩, hz⟩ := h
      obtain ⟨g1, g2⟩ := hX.bl F hb
      obtain ⟨es, p, rfl⟩ := ht _ rfl
      rw [toI]; exact eqI (pm_Izp hX.K g1 g2 (okE F hX x _ hx).1 (okE F hX y _ hy).1 (nice_toE n x _) (nice_toE n y _)) (by intro e; rw [evI]; try rfl)
  | .en x, as, te, h, ht => by
    cases tg with
    | nm i => simp [chkI] at h
    | tp is =>
      rw [chkI] at h
      simp only [Bool.and_eq_true] at h
      obtain ⟨⟨hb, hx⟩, hz⟩ := h
      obtain ⟨g1, g2⟩ := hX.bl F hb
      obtain ⟨es, p, rfl⟩ := ht _ rfl
      rw [toI]; exact eqI (pm_Ien hX.K g1 g2 (okE F hX x _ hx).1 (nice_toE n x _)) (by intro e; rw [evI]; try rfl)
end
end
end Mi
end
section
set_option maxRecDepth 100000
/-! Mi22: checked statements. -/
namespace Mi
open PySem L2 PySem.Spec PyProof.Rows
def notC : E → Bool
  | .lc _ _ _ _ _ => false
  | .lc2 _ _ _ _ _ _ _ => false
  | _ => true
def notT : E → Bool
  | .tup _ => false
  | _ => true
def St.isNil : Sts → Bool
  | .nil => true
  | _ => false
/-- name = [..]: the pair of stores is exchanged -/
def lcSw (n : Nm) (t : Ct) (i : Nat) (py pos : Pos) (scope : Scope) : Bool := decide (t.sc.kind = .function) && decide (t.sc.names.lookup (n.nm i) = some .local) && (py.line == pos.line) && !(scope.names.any fun (m, k) => m == n.nm i && (k == .local || k == .cell))
def isLocal (n : Nm) (t : Ct) (i : Nat) : Bool := decide (t.sc.names.lookup (n.nm i) = some .local)
section
variable (n : Nm) (S : List Sh) (b : List Str) (rs : List Nat) (ncl : Nat)
mutual
def chkS (t : Ct) : St → As → Bool
  | .asg i a, as => sto n t i && chkE n S b t a as.tail.tail && (notC a || !isLocal n t i)
  | .asgC i a, as => sto n t i && chkE n S b t a as.tail.tail && !notC a && lcSw n t i (Ann.pos as.tail) (Ann.pos as.tail.tail) (Ann.sc as.tail.tail.tail)
  | .asgT is a, as => t.cl && chkTg n t is (.tp is) && chkE n S b t a (toNames n is as.tail.tail).2 && notT a
  | .par i j x y, as => t.cl && sto n t i && sto n t j && isLocal n t i && isLocal n t j && decide (t.sc.kind = .function) && chkEs n S b t (.cons x (.cons y .nil)) as.tail.tail.tail.tail.tail && decide (n.nm i ≠ n.nm j) && ((Ann.pos as.tail.tail.tail).line == (Ann.pos as.tail.tail).line) &&
      !((toEs n (.cons x (.cons y .nil)) as.tail.tail.tail.tail.tail).1.all (foldedForSure 8)) && !((toEs n (.cons x (.cons y .nil)) as.tail.tail.tail.tail.tail).1.all (constantsAlone 8))
  | .par3 i j l x y z, as => t.cl && sto n t i && sto n t j && sto n t l && isLocal n t i && isLocal n t j && isLocal n t l && decide (t.sc.kind = .function) && chkEs n S b t (.cons x (.cons y (.cons z .nil))) as.tail.tail.tail.tail.tail.tail && decide (n.nm i ≠ n.nm j) && decide (n.nm i ≠ n.nm l) && decide (n.nm j ≠ n.nm l) && ((Ann.pos as.tail.tail.tail).line == (Ann.pos as.tail.tail).line) && ((Ann.pos as.tail.tail.tail.tail).line == (Ann.pos as.tail.tail).line) &&
      !((toEs n (.cons x (.cons y (.cons z .nil))) as.tail.tail.tail.tail.tail.tail).1.all (foldedForSure 8)) && !((toEs n (.cons x (.cons y (.cons z .nil))) as.tail.tail.tail.tail.tail.tail).1.all (constantsAlone 8))
  | .put i ks k a, as => vis n t i && chkP n S b t ks as.tail.tail && chkE n S b t k (toPl n ks (.Name (n.nm i) (Ann.pos as.tail)) as.tail.tail).2.tail && chkE n S b t a (toE n k (toPl n ks (.Name (n.nm i) (Ann.pos as.tail)) as.tail.tail).2.tail).2
  | .aug i _ a, as => sto n t i && chkE n S b t a as.tail.tail
  | .ifs c x y, as => chkE n S b t c as.tail && chkSs t x (toE n c as.tail).2 && chkSs t y (toSs n x (toE n c as.tail).2).2
  | .fr tg it x, as => t.cl && chkTg n t tg.slots tg && chkI n S b t tg it (toTg n tg as.tail).2 && chkSs t x (toI n it (toTg n tg as.tail).2).2
  | .wh c x, as => chkE n S b t c as.tail && chkSs t x (toE n c as.tail).2
  | .ret a, as => chkE n S b t a as.tail
  | .rse k _, as => t.cl && rs.contains k && glb t (n.cl k)
  | .tr x hs, as => t.cl && chkSs t x as.tail && chkHs ⟨t.sc, false, t.top, t.osc⟩ hs (toSs n x as.tail).2 && (match hs with
    | .nil => false
    | _ => true)
  | .ex a, as => chkE n S b t a as.tail && notC a
  | .pas, _ => true
  | .brk, _ => true
def chkSs (t : Ct) : Sts → As → Bool
  | .nil, _ => true
  | .cons s r, as => chkS t s as && chkSs t r (toS n s as).2
def chkHs (t : Ct) : Hs → As → Bool
  | .nil, _ => true
  | .cons k x r, as => decide (k < ncl) && glb t (n.cl k) && chkSs t x as.tail.tail && !St.isNil x && chkHs t r (toSs n x as.tail.tail).2
end
end
/-- the module's classes of errors -/
structure ClsF (G : Gd) (c : Cx) (n : Nm) (rs : List Nat) (ncl : Nat) : Prop where
  ex : ∀ i k, PySem.W.exmOne G.K (.ref (G.ca i)) (.ref (G.ca k)) = some (c.sub i k)
  nm : ∀ k, k < ncl → G.mg (n.cl k) = some (.ref (G.ca k))
  rs : ∀ k, k ∈ rs → ∀ (X : L2.Cx), X.K = G.K → X.mg = G.mg → Gl X (n.cl k) → ∀ (m : Str) (p1 p2 p3 : Pos), PMk X (.Call (.Name (n.cl k) p1) [.Constant (.str m) 0 p2] [] p3) (fun _ H Q => Q (.ref (G.ca k)) none H)
/-- a def's body, a try's body, an except suite -/
structure BOk (t : Ct) (X : L2.Cx) : Prop where
  pass : PassesOwn (model X.prog X.w) X.A X.env X.xe
  stack : X.stack = X.env :: X.outer
  frame : X.env.frame = some X.env.locals
section
variable {G : Gd} {c : Cx} {n : Nm} {S : List Sh} {b : List Str} {kk : Nat} {rs : List Nat} {ncl : Nat} {t : Ct} {W : WX} {X : L2.Cx}
theorem sw_pl {env : PySem.Env} {tg : Option Expr} {l : Nat} : ∀ (ks : Es) (x : Expr) (as : As), swapsWith x tg l env = pure false → swapsWith (toPl n ks x as).1 tg l env = pure false
  | .nil, x, as, h => by simpa [toPl] using h
  | .cons k r, x, as, h => by rw [toPl]; exact sw_pl r _ _ rfl
theorem sw_nc {env : PySem.Env} {tg : Option Expr} {l : Nat} {a : E} {as : As} (h : notC a = true) : swapsWith (toE n a as).1 tg l env = pure false := by
  cases a
  case pk i ks => rw [toE]; exact sw_pl _ _ _ rfl
  case lc => cases h
  case lc2 => cases h
  all_goals (rw [toE]; rfl)
theorem sw_cell {env : PySem.Env} {x : Str} {p : Pos} {v : Expr} {l : Nat} (h : env.kindOf x ≠ some .local) : swapsWith v (some (.Name x p)) l env = pure false := by
  have hb : (env.kindOf x == some .local) = false := by simpa using h
  unfold swapsWith
  cases v <;> first | rfl | (simp only [hb, Bool.and_false, Bool.false_and] <;> rfl) | simp [hb]
theorem ss_pl {env : PySem.Env} {tg : Expr} : ∀ (ks : Es) (x : Expr) (as : As), swappedStores [tg] x env = pure none → swappedStores [tg] (toPl n ks x as).1 env = pure none
  | .nil, x, as, h => by simpa [toPl] using h
  | .cons k r, x, as, h => by
    rw [toPl]
    refine ss_pl r _ _ ?_
    unfold swappedStores
    cases tg <;> rfl
theorem ss_nt {env : PySem.Env} {tg : Expr} {a : E} {as : As} (h : notT a = true) : swappedStores [tg] (toE n a as).1 env = pure none := by
  cases a
  case pk i ks => rw [toE]; exact ss_pl _ _ _ (by unfold swappedStores; cases tg <;> rfl)
  case tup => cases h
  all_goals (rw [toE]; unfold swappedStores; cases tg <;> rfl)
theorem ss_sub {env : PySem.Env} {x k v : Expr} {p : Pos} : swappedStores [.Subscript x k p] v env = pure none := by
  unfold swappedStores
  cases v <;> rfl
theorem sw_sub {env : PySem.Env} {x k v : Expr} {p : Pos} {l : Nat} : swapsWith v (some (.Subscript x k p)) l env = pure false := by
  unfold swapsWith
  cases v <;> rfl
theorem sw_tt {env : PySem.Env} {es : List Expr} {p : Pos} {k : Nat} {v : Expr} {l : Nat} : swapsWith v (some (.Tuple es k p)) l env = pure false := by
  unfold swapsWith
  cases v <;> rfl
theorem as_pl {env : PySem.Env} {x : Expr} {p : Pos} : ∀ (ks : Es) (k : Expr) (as : As), (∀ v, assign (.Subscript x k p) env v = (do
      let ov ← holding [v] (eval x env)
      let iv ← holding [v, ov] (eval k env)
      standAt p
      holding [v, ov, iv] (setItem ov iv v)
      release [v, ov, iv] [])) → ∀ v, assign (.Subscript x (toPl n ks k as).1 p) env v = (do
      let ov ← holding [v] (eval x env)
      let iv ← holding [v, ov] (eval (toPl n ks k as).1 env)
      standAt p
      holding [v, ov, iv] (setItem ov iv v)
      release [v, ov, iv] [])
  | .nil, k, as, h => by simpa [toPl] using h
  | .cons j r, k, as, h => by rw [toPl]; exact as_pl r _ _ fun _ => rfl
theorem as_sub {env : PySem.Env} {x : Expr} {p : Pos} {k : E} {as : As} (v : Value) : assign (.Subscript x (toE n k as).1 p) env v = (do
      let ov ← holding [v] (eval x env)
      let iv ← holding [v, ov] (eval (toE n k as).1 env)
      standAt p
      holding [v, ov, iv] (setItem ov iv v)
      release [v, ov, iv] []) := by
  cases k
  case pk i ks => rw [toE]; exact as_pl _ _ _ (fun _ => rfl) v
  all_goals (rw [toE]; rfl)
theorem XOk.kindF (hX : XOk G n kk t W X) (h : t.sc.kind = .function) : X.env.blockKind = .function := by
  unfold PySem.Env.blockKind
  rw [hX.sc, h]
  rfl
def isStar : Expr → Bool
  | .Starred .. => true
  | _ => false
theorem sw2 {env : PySem.Env} {x y : Str} {px py pt p2 : Pos} {vs : List Expr} (hk : env.blockKind = .function) (hx : env.kindOf x = some .local) (hy : env.kindOf y = some .local) (hl : (py.line == px.line) = true) (hxy : x ≠ y) (hv : vs.length = 2) (hs : ∀ f : Expr → Bool, (∀ e, f e = isStar e) → vs.any f = false)
    (hf : vs.all (foldedForSure 8) = false) (hc : vs.all (constantsAlone 8) = false) : swappedStores [.Tuple [.Name x px, .Name y py] 0 pt] (.Tuple vs 0 p2) env = pure (some [x, y]) := by
  have hd : ([x, y] : List Str).eraseDups.length = 2 := by
    have : (y == x) = false := beq_false_of_ne (Ne.symm hxy)
    simp [List.eraseDups_cons, List.filter, this]
  unfold swappedStores
  simp only [hk, hx, hy, hl, hv, hf, hc, hd, List.filterMap_cons, List.filterMap_nil, List.head?_cons, Option.map_some, Option.getD_some, Expr.pos, List.length_cons, List.length_nil]
  rw [hs _ (fun e => by cases e <;> rfl)]
  simp [hd]
theorem sw3 {env : PySem.Env} {x y z : Str} {px py pz pt p2 : Pos} {vs : List Expr} (hk : env.blockKind = .function) (hx : env.kindOf x = some .local) (hy : env.kindOf y = some .local) (hz : env.kindOf z = some .local) (hl : (py.line == px.line) = true) (hl2 : (pz.line == px.line) = true) (hxy : x ≠ y) (hxz : x ≠ z) (hyz : y ≠ z) (hv : vs.length = 3) (hs : ∀ f : Expr → Bool, (∀ e, f e = isStar e) → vs.any f = false)
    (hf : vs.all (foldedForSure 8) = false) (hc : vs.all (constantsAlone 8) = false) : swappedStores [.Tuple [.Name x px, .Name y py, .Name z pz] 0 pt] (.Tuple vs 0 p2) env = pure (some [x, y, z]) := by
  have hd : ([x, y, z] : List Str).eraseDups.length = 3 := by
    have h1 : (y == x) = false := beq_false_of_ne (Ne.symm hxy)
    have h2 : (z == x) = false := beq_false_of_ne (Ne.symm hxz)
    have h3 : (z == y) = false := beq_false_of_ne (Ne.symm hyz)
    simp [List.eraseDups_cons, List.filter, h1, h2, h3]
  unfold swappedStores
  simp only [hk, hx, hy, hz, hl, hl2, hv, hf, hc, hd, List.filterMap_cons, List.filterMap_nil, List.head?_cons, Option.map_some, Option.getD_some, Expr.pos, List.length_cons, List.length_nil]
  rw [hs _ (fun e => by cases e <;> rfl)]
  simp [hd]
theorem star_pl : ∀ (ks : Es) (x : Expr) (as : As), isStar x = false → isStar (toPl n ks x as).1 = false
  | .nil, x, as, h => by simpa [toPl] using h
  | .cons k r, x, as, h => by rw [toPl]; exact star_pl r _ _ rfl
theorem star_E (a : E) (as : As) : isStar (toE n a as).1 = false := by
  cases a
  case pk i ks => rw [toE]; exact star_pl _ _ _ rfl
  all_goals (rw [toE]; rfl)
theorem nostar (es : Es) (as : As) : ∀ f : Expr → Bool, (∀ e, f e = isStar e) → (toEs n es as).1.any f = false := by
  intro f hf
  cases es with
  | nil => rw [toEs]; rfl
  | cons a r => rw [toEs, List.any_cons, nostar r _ f hf, hf, star_E]; rfl
theorem XOk.suite (hX : XOk G n kk t W X) (a : Addr) (pn : List (Addr × Obj)) : XOk G n kk ⟨t.sc, false, t.top, t.osc⟩ WF (X.suite a pn) :=
  ⟨hX.K, hX.prog, hX.w, hX.mg, hX.base, (fun h => nomatch h), hX.N, hX.nd, hX.sc, takes0, (fun h => nomatch h), hX.un, hX.top⟩
theorem XOk.tr {W' : WX} (hX : XOk G n kk t W X) {pn : List (Addr × Obj)} {xe : Value → Shared → Prop} (tk : Takes (X.tr pn xe) W') : XOk G n kk t W' (X.tr pn xe) :=
  ⟨hX.K, hX.prog, hX.w, hX.mg, hX.base, hX.cal, hX.N, hX.nd, hX.sc, tk, hX.room, hX.un, hX.top⟩
noncomputable def hsL (c : Cx) : Hs → List (Nat × (Env → Mi.S))
  | .nil => []
  | .cons k b r => (k, exs c b) :: hsL c r
theorem exh_eq (x : Xc) : ∀ (hs : Hs) (e : Env), exh c x hs e = exhF c.sub x (hsL c hs) e
  | .nil, e => by rw [exh]; rfl
  | .cons k b r, e => by
    rw [exh, hsL, exhF, exh_eq x r]
    try rfl
theorem eqS {X : L2.Cx} {W : WX} {a : Stmt} {f g : Env → Mi.S} (h : PS X a (tS G W c f)) (q : ∀ e, f e = g e) : PS X a (tS G W c g) := (funext q : f = g) ▸ h
theorem eqSs {X : L2.Cx} {W : WX} {a : List Stmt} {f g : Env → Mi.S} (h : PSs X a (tS G W c f)) (q : ∀ e, f e = g e) : PSs X a (tS G W c g) := (funext q : f = g) ▸ h
/-- name = [..] -/
theorem okLc (F : Facts G c n S b kk) (hX : XOk G n kk t W X) (i : Nat) {elt : E} {tg : Tg} {it : I} {cs : Es} {own : List Nat} {as : As} {py spos : Pos} (hi0 : sto n t i = true) (h : chkE n S b t (.lc elt tg it cs own) as = true) (hsw : lcSw n t i py (Ann.pos as) (Ann.sc as.tail) = true) :
    PS X (.Assign [.Name (n.nm i) py] (toE n (.lc elt tg it cs own) as).1 spos) (tS G W c fun e => (ev c (.lc elt tg it cs own) e).thn fun t e1 => (match setE c i t e1 with
      | some e2 => .nx e2
      | none => .bad)) := by
  obtain ⟨n1, n2, n3⟩ := hX.sto hi0
  simp only [lcSw, Bool.and_eq_true, decide_eq_true_eq, Bool.not_eq_true'] at hsw
  obtain ⟨⟨⟨w1, w2⟩, w3⟩, w4⟩ := hsw
  rw [chkE] at h
  simp only [Bool.and_eq_true] at h
  obtain ⟨⟨⟨⟨⟨⟨hc, hb⟩, h1⟩, h2⟩, h3⟩, h4⟩, h5⟩ := h
  have hB := fun s H C cl fp => hX.blk hc s H (Ann.sc as.tail) C cl fp
  have ok := blkC_ok hb
  have h5 := of_decide_eq_true h5
  rw [toE]
  have ix := ownOf_ix n own
  rw [← hX.N, ← hX.sc] at ok
  have hi := okI F hX tg it _ (toTg n tg (toE n elt as.tail.tail).2).1 h3 (fun is e => by subst e; exact ⟨_, _, rfl⟩)
  have hT : ∀ (s : Shared) (H : Hp) (C : Addr) (cl : List (Str × Addr)) (fp : List Addr), PTs (X.blk s H (Ann.sc as.tail) (compEnvC (Ann.sc as.tail) cl C X.env) fp) (toEs n cs (toI n it (toTg n tg (toE n elt as.tail.tail).2).2).2).1 (tT G WF TT (evB c true cs)) := fun s H C cl fp => by
    cases cs with
    | nil =>
      rw [toEs]
      refine ⟨fun pins s σ H Q I hq => pts_nil.run pins s σ H Q I ?_⟩
      obtain ⟨e, fps, re, p⟩ := hq
      have p : Post G WF TT σ H fps relB (toB (evB c true .nil e)) Q := p
      rw [evB] at p
      exact p true H fps [] re ⟨rfl, rfl⟩ .refl
    | cons a r =>
      cases r with
      | cons _ _ => simp [Es.len] at h5
      | nil =>
        rw [chkEs, Bool.and_eq_true] at h4
        rw [toEs, toEs]
        have := (okE F (hB s H C cl fp) a _ h4.1).2
        have e : evB c true (.cons a .nil) = ev c a := by
          funext e
          rw [evB]
          cases ev c a e <;> rfl
        rw [e]
        exact pts_one this
  have hslots := tg_slots h2
  have key := pm_lc (c := c) (t := tg) (fI := evI c it) (fC := evB c true cs) (fE := ev c elt) (pos := Ann.pos as) hX.K (hX.cal hc) hX.nd hi ok (by rw [ix]; exact hslots) (fun s H C cl fp => ((hB s H C cl fp).tg rfl _ h2).1) hT (fun s H C cl fp => (okE F (hB s H C cl fp) elt _ h1).1) (nice_toI n it _ X.env)
  refine eqS ((ps_setLc (pos := Ann.pos as) (hX.cal hc) hX.nd n1 (by rw [hX.sc]; exact w2) (sw_true (by rw [hX.sc]; exact w1) (by rw [hX.sc]; exact w2) w3 w4) hi ok (fun s H C cl fp => ((hB s H C cl fp).tg rfl _ h2).1) hT (fun s H C cl fp => (okE F (hB s H C cl fp) elt _ h1).1) (nice_toI n it _ X.env)).im fun D σ H q => asg_core key q) fun e => ?_
  rw [ix, ev]
  rfl
theorem okLc2 (F : Facts G c n S b kk) (hX : XOk G n kk t W X) (i : Nat) {elt : E} {tg tg' : Tg} {it it' : I} {own own' : List Nat} {as : As} {py spos : Pos} (hi0 : sto n t i = true) (h : chkE n S b t (.lc2 elt tg it tg' it' own own') as = true) (hsw : lcSw n t i py (Ann.pos as) (Ann.sc as.tail) = true) :
    PS X (.Assign [.Name (n.nm i) py] (toE n (.lc2 elt tg it tg' it' own own') as).1 spos) (tS G W c fun e => (ev c (.lc2 elt tg it tg' it' own own') e).thn fun t e1 => (match setE c i t e1 with
      | some e2 => .nx e2
      | none => .bad)) := by
  obtain ⟨n1, n2, n3⟩ := hX.sto hi0
  simp only [lcSw, Bool.and_eq_true, decide_eq_true_eq, Bool.not_eq_true'] at hsw
  obtain ⟨⟨⟨w1, w2⟩, w3⟩, w4⟩ := hsw
  rw [chkE] at h
  simp only [Bool.and_eq_true] at h
  obtain ⟨⟨⟨⟨⟨⟨hc, hb⟩, h1⟩, h2⟩, h3⟩, h4⟩, h5⟩ := h
  have hB := fun s H C cl fp => hX.blk hc s H (Ann.sc as.tail) C cl fp
  have ok := blkC_ok hb
  rw [toE]
  have ix := ownOf_ix n (own ++ own')
  rw [← hX.N, ← hX.sc] at ok
  have hi := okI F hX tg it _ (toTg n tg (toE n elt as.tail.tail).2).1 h3 (fun is e => by subst e; exact ⟨_, _, rfl⟩)
  have hi' := fun s H C cl fp => okI F (hB s H C cl fp) tg' it' _ (toTg n tg' (toI n it (toTg n tg (toE n elt as.tail.tail).2).2).2).1 h5 (fun is e => by subst e; exact ⟨_, _, rfl⟩)
  have hslots := tg_slots h2
  have hslots' := tg_slots h4
  have key := pm_lc2 (G := G) (W := W) (c := c) (t := tg) (t' := tg') (fI := evI c it) (fI' := evI c it') (fE := ev c elt) (own := own ++ own') (own' := own') (fun j hj => List.mem_append_right _ hj) hslots hslots'
  refine eqS ((ps_setLc2 (vs1 := own') (pos := Ann.pos as) (hX.cal hc) hX.nd n1 (by rw [hX.sc]; exact w2) (sw_true (by rw [hX.sc]; exact w1) (by rw [hX.sc]; exact w2) w3 w4) hi ok (by rw [ix]; exact fun j hj => List.mem_append_right _ hj) (fun s H C cl fp => ((hB s H C cl fp).tg rfl _ h2).1) (fun s H C cl fp => pts_nil) hi' (fun s H C cl fp => ((hB s H C cl fp).tg rfl _ h4).1) (fun s H C cl fp => pts_nil) (fun s H C cl fp => (okE F (hB s H C cl fp) elt _ h1).1) (nice_toI n it _ X.env) (fun env x => nice_toI n it' _ env x)).im fun D σ H q => asg_core (by rw [ix]; exact key) q) fun e => ?_
  rw [ev]
  rfl
mutual
theorem okS (F : Facts G c n S b kk) (C : ClsF G c n rs ncl) {t : Ct} {W : WX} {X : L2.Cx} (hX : XOk G n kk t W X) (hB : BOk t X) : ∀ (s : St) (as : As), chkS n S b rs ncl t s as = true → PS X (toS n s as).1 (tS G W c (ex c s))
  | .asg i a, as, h => by
    rw [chkS, Bool.and_eq_true, Bool.and_eq_true] at h
    obtain ⟨h1, h2, h3⟩ := hX.sto h.1.1
    rw [toS]
    exact eqS ((ps_set hX.nd h1 h2 (okE F hX a _ h.1.2).1 (by
      rcases Bool.or_eq_true_iff.mp h.2 with q | q
      · exact sw_nc q
      · refine sw_cell fun z => ?_
        have z : X.env.scope.names.lookup (n.nm i) = some .local := z
        rw [hX.sc] at z
        simp [isLocal, z] at q) h3).im fun D σ H q => asg_core (fun _ _ _ h => h) q) (by intro e; rw [ex]; try rfl)
  | .asgC i a, as, h => by
    rw [chkS] at h
    simp only [Bool.and_eq_true, Bool.not_eq_true'] at h
    obtain ⟨⟨⟨h1, h2⟩, h3⟩, h4⟩ := h
    rw [toS]
    cases a with
    | lc elt tg it cs own => exact eqS (okLc F hX i h1 h2 h4) (by intro e; rw [ex]; try rfl)
    | lc2 elt tg it tg' it' own own' => exact eqS (okLc2 F hX i h1 h2 h4) (by intro e; rw [ex]; try rfl)
    | _ => cases h3
  | .asgT is a, as, h => by
    rw [chkS] at h
    simp only [Bool.and_eq_true] at h
    obtain ⟨⟨⟨hc, h1⟩, h2⟩, h4⟩ := h
    rw [toS]
    exact eqS (pm_asgT (pos := Ann.pos as) hX.K (okE F hX a _ h2).1 (hX.tg hc as.tail h1).1 (by rw [swapsWithSole]; exact sw_tt) (ss_nt h4) rfl) (by intro e; rw [ex]; try rfl)
  | .par i j x y, as, h => by
    rw [chkS] at h
    simp only [Bool.and_eq_true, Bool.not_eq_true', isLocal, decide_eq_true_eq] at h
    obtain ⟨⟨⟨⟨⟨⟨⟨⟨⟨⟨hc, si⟩, sj⟩, li⟩, lj⟩, kf⟩, he⟩, hij⟩, hl⟩, hf⟩, hc2⟩ := h
    obtain ⟨i1, _, _⟩ := hX.sto si
    obtain ⟨j1, _, _⟩ := hX.sto sj
    have h1 := okEs F hX (.cons x (.cons y .nil)) _ he
    have hlen := toEs_len (n := n) (.cons x (.cons y .nil)) as.tail.tail.tail.tail.tail
    have hns := nostar (n := n) (.cons x (.cons y .nil)) as.tail.tail.tail.tail.tail
    have hsw := sw2 (pt := Ann.pos as.tail) (p2 := Ann.pos as.tail.tail.tail.tail) (hX.kindF kf) (by show X.env.scope.names.lookup _ = _; rw [hX.sc]; exact li) (by show X.env.scope.names.lookup _ = _; rw [hX.sc]; exact lj) hl hij hlen hns hf hc2
    rw [toS]
    dsimp only
    rw [toEs, toEs, toEs] at h1 hsw ⊢
    exact eqS (pm_par (pos := Ann.pos as) hX.K (hX.cal hc) hX.nd i1 j1 (fun q => hij (by subst q; rfl)) (by rw [hX.sc]; exact li) (by rw [hX.sc]; exact lj) h1 hsw) (by intro e; rw [ex]; try rfl)
  | .par3 i j l x y z, as, h => by
    rw [chkS] at h
    simp only [Bool.and_eq_true, Bool.not_eq_true', isLocal, decide_eq_true_eq] at h
    obtain ⟨⟨⟨⟨⟨⟨⟨⟨⟨⟨⟨⟨⟨⟨⟨hc, si⟩, sj⟩, sl⟩, li⟩, lj⟩, ll⟩, kf⟩, he⟩, hij⟩, hil⟩, hjl⟩, hl⟩, hl2⟩, hf⟩, hc2⟩ := h
    obtain ⟨i1, _, _⟩ := hX.sto si
    obtain ⟨j1, _, _⟩ := hX.sto sj
    obtain ⟨l1, _, _⟩ := hX.sto sl
    have h1 := okEs F hX (.cons x (.cons y (.cons z .nil))) _ he
    have hlen := toEs_len (n := n) (.cons x (.cons y (.cons z .nil))) as.tail.tail.tail.tail.tail.tail
    have hns := nostar (n := n) (.cons x (.cons y (.cons z .nil))) as.tail.tail.tail.tail.tail.tail
    have hsw := sw3 (pt := Ann.pos as.tail) (p2 := Ann.pos as.tail.tail.tail.tail.tail) (hX.kindF kf) (by show X.env.scope.names.lookup _ = _; rw [hX.sc]; exact li) (by show X.env.scope.names.lookup _ = _; rw [hX.sc]; exact lj) (by show X.env.scope.names.lookup _ = _; rw [hX.sc]; exact ll) hl hl2 hij hil hjl hlen hns hf hc2
    rw [toS]
    dsimp only
    rw [toEs, toEs, toEs, toEs] at h1 hsw ⊢
    exact eqS (pm_par3 (pos := Ann.pos as) hX.K (hX.cal hc) hX.nd i1 j1 l1 (fun q => hij (by subst q; rfl)) (fun q => hil (by subst q; rfl)) (fun q => hjl (by subst q; rfl)) (by rw [hX.sc]; exact li) (by rw [hX.sc]; exact lj) (by rw [hX.sc]; exact ll) h1 hsw) (by intro e; rw [ex]; try rfl)
  | .put i ks k a, as, h => by
    rw [chkS] at h
    simp only [Bool.and_eq_true] at h
    obtain ⟨⟨⟨hv, hp⟩, hk⟩, ha⟩ := h
    rw [toS]
    refine eqS (pm_put (pos := Ann.pos as) hX.K (okE F hX a _ ha).1 (okP F hX ks i (pl0 i) _ _ hp (pm_pl0 (hX.var (p := Ann.pos as.tail) hv))) (okE F hX k _ hk).1 (by rw [swapsWithSole]; exact sw_sub) ss_sub rfl as_sub) (by
      intro e
      rw [ex]
      congr 1
      funext t' e0
      rw [pl_eq]
      cases getL e0 i with
      | none => rfl
      | some r =>
        simp only
        cases evP c ks r (e0.set i none) <;> rfl)
  | .aug i o a, as, h => by
    rw [chkS, Bool.and_eq_true] at h
    obtain ⟨h1, h2, h3⟩ := hX.sto h.1
    rw [toS]
    exact eqS (pm_aug (pos := Ann.pos as) hX.K hX.nd h1 h2 (okE F hX a _ h.2).1 h3) (by intro e; rw [ex]; try rfl)
  | .ifs t' x y, as, h => by
    rw [chkS, Bool.and_eq_true, Bool.and_eq_true] at h
    rw [toS]
    exact eqS (pm_if (pos := Ann.pos as) (okE F hX t' _ h.1.1).2 (okSs F C hX hB x _ h.1.2) (okSs F C hX hB y _ h.2)) (by intro e; rw [ex]; try rfl)
  | .fr tg it x, as, h => by
    rw [chkS] at h
    simp only [Bool.and_eq_true] at h
    obtain ⟨⟨⟨hc, h1⟩, h2⟩, h3⟩ := h
    rw [toS]
    exact eqS (pm_for (pos := Ann.pos as) hX.K hB.pass (hX.cal hc) (okI F hX tg it _ _ h2 (fun is e => by subst e; exact ⟨_, _, rfl⟩)) (hX.tg hc _ h1).1 (okSs F C hX hB x _ h3) (nice_toI n it _ X.env)) (by intro e; rw [ex]; try rfl)
  | .wh t' x, as, h => by
    rw [chkS, Bool.and_eq_true] at h
    rw [toS]
    refine eqS (pm_wh (pos := Ann.pos as) hB.pass (okE F hX t' _ h.1).2 (okSs F C hX hB x _ h.2)) (by intro e; rw [ex]; try rfl)
  | .ret a, as, h => by
    rw [chkS] at h
    rw [toS]
    exact eqS (pm_ret (pos := Ann.pos as) (okE F hX a _ h).1) (by intro e; rw [ex]; try rfl)
  | .rse k m, as, h => by
    rw [chkS] at h
    simp only [Bool.and_eq_true, List.contains_iff_mem] at h
    obtain ⟨⟨hc, h1⟩, h2⟩ := h
    rw [toS]
    exact eqS (pm_rse (k := k) (hX.cal hc) hX.tk (C.rs k h1 X hX.K hX.mg (hX.gl h2).1 m _ _ _)) (by intro e; rw [ex]; try rfl)
  | .tr x hs, as, h => by
    cases hs with
    | nil => simp [chkS] at h
    | cons k y r =>
      rw [chkS] at h
      · simp only [Bool.and_eq_true] at h
        obtain ⟨⟨⟨hc, h1⟩, h2⟩, _⟩ := h
        have hh := okHs F C hX hB (.cons k y r) (toSs n x as.tail).2 h2
        rw [toS]
        rw [toHs] at hh ⊢
        refine eqS (pm_try (l := hsL c (.cons k y r)) hX.K hB.stack hB.frame hX.tk C.ex (fun W pn xe tk pass => okSs F C (hX.tr tk) ⟨pass, hB.stack, hB.frame⟩ x _ h1) hh) fun e => ?_
        rw [ex]
        cases exs c x e with
        | exc z e1 => exact (exh_eq z (.cons k y r) e1).symm
        | _ => rfl
      · intro q; cases q
  | .ex a, as, h => by
    rw [chkS, Bool.and_eq_true] at h
    rw [toS]
    exact eqS (pm_ex (pos := Ann.pos as) (okE F hX a _ h.1).1 (sw_nc h.2)) (by intro e; rw [ex]; try rfl)
  | .pas, as, h => by
    rw [toS]
    exact eqS pm_pas (by intro e; rw [ex]; try rfl)
  | .brk, as, h => by
    rw [toS]
    exact eqS pm_brk (by intro e; rw [ex]; try rfl)
theorem okSs (F : Facts G c n S b kk) (C : ClsF G c n rs ncl) {t : Ct} {W : WX} {X : L2.Cx} (hX : XOk G n kk t W X) (hB : BOk t X) : ∀ (s : Sts) (as : As), chkSs n S b rs ncl t s as = true → PSs X (toSs n s as).1 (tS G W c (exs c s))
  | .nil, as, h => by
    rw [toSs]
    exact eqSs pms_nil (by intro e; rw [exs]; try rfl)
  | .cons s r, as, h => by
    rw [chkSs, Bool.and_eq_true] at h
    rw [toSs]
    exact eqSs (pms_cons (okS F C hX hB s _ h.1) (okSs F C hX hB r _ h.2)) (by intro e; rw [exs]; try rfl)
theorem okHs (F : Facts G c n S b kk) (C : ClsF G c n rs ncl) {t : Ct} {W : WX} {X : L2.Cx} (hX : XOk G n kk t W X) (hB : BOk t X) : ∀ (hs : Hs) (as : As), chkHs n S b rs ncl ⟨t.sc, false, t.top, t.osc⟩ hs as = true → HdsOk X (toHs n hs as).1 ((hsL c hs).map fun p => (.ref (G.ca p.1), fun _ _ _ => tS G WF c p.2))
  | .nil, as, h => by
    rw [toHs]
    exact .nil
  | .cons k x r, as, h => by
    rw [chkHs] at h
    simp only [Bool.and_eq_true, decide_eq_true_eq, Bool.not_eq_true'] at h
    obtain ⟨⟨⟨⟨hk, hg⟩, hx⟩, hnil⟩, hr⟩ := h
    have h1 := fun a pn => okSs F C (hX.suite a pn) ⟨.never, hB.stack, hB.frame⟩ x as.tail.tail hx
    have hgl := hX.gl (x := n.cl k) hg
    have h2 := okHs F C hX hB r _ hr
    rw [toHs, hsL, List.map_cons]
    cases x with
    | nil => cases hnil
    | cons s q =>
      rw [toSs] at h1 h2 ⊢
      exact .cons ⟨hgl.1, hgl.2, .inl (by rw [hX.mg]; exact C.nm k hk)⟩ (fun a oe cls d pn _ _ => h1 a _) h2
end
end
end Mi
end
section
set_option maxRecDepth 100000
/-! Mi23: defs, programs, laws. -/
namespace Mi
open PySem L2 PySem.Spec PyProof.Rows
section
variable {K : Fg} {H : Hp} {fps : Fp}
theorem getL_app {a : Env} {k i : Nat} : getL (a ++ List.replicate k none) i = getL a i := by
  unfold getL
  by_cases h : i < a.length
  · rw [List.getElem?_append_left h]
  · rw [List.getElem?_append_right (by omega), List.getElem?_eq_none (by omega : a.length ≤ i)]
    cases q : (List.replicate k (none : Option T))[i - a.length]? with
    | none => rfl
    | some x =>
      have := List.mem_of_getElem? q
      rw [List.eq_of_mem_replicate this]
      rfl
/-- the other names, at the start -/
theorem RE.pad {a : Env} {σ : L2.St} {k : Nat} (re : RE K H a σ fps) : RE K H (a ++ List.replicate k none) (σ ++ List.replicate k none) fps where
  len := by rw [List.length_append, List.length_append, re.len, List.length_replicate, List.length_replicate]
  rep := fun i t h => by
    rw [getL_app] at h
    obtain ⟨v, h1, h2⟩ := re.rep i t h
    exact ⟨v, by rw [List.getElem?_append_left (List.getElem?_eq_some_iff.mp h1).1]; exact h1, h2⟩
  emp := fun i h => by
    rw [getL_app] at h
    exact re.emp i h
  nd := re.nd
  dis := re.dis
/-- what goes back -/
theorem RE.outs {e : Env} {σ' : L2.St} {F : Fn} {vs : List V} {N : List Str} {c : Cx} (re : RE K H e σ' fps) (hio : c.io = F.io) (hl : vs.length = F.n) (kp : Kp c (start N vs) σ') :
    RE K H (outsOf F e) (vs.map some) fun j => if j < F.n ∧ F.io.contains j = true then fps j else [] where
  len := by simp [outsOf, hl]
  rep := fun i t h => by
    unfold outsOf getL at h
    by_cases hi : i < F.n
    · rw [List.getElem?_map, List.getElem?_range hi] at h
      simp only [Option.map_some, Option.getD_some] at h
      split at h
      · rename_i hc
        obtain ⟨v, h1, h2⟩ := re.rep i t h
        rw [kp i (by rw [hio]; exact hc)] at h1
        unfold L2.start at h1
        rw [List.getElem?_append_left (by rw [List.length_map, hl]; exact hi)] at h1
        exact ⟨v, h1, by rw [if_pos ⟨hi, hc⟩]; exact h2⟩
      · cases h
    · rw [List.getElem?_eq_none (by simp; omega)] at h
      cases h
  emp := fun i h => by
    by_cases hi : i < F.n ∧ F.io.contains i = true
    · rw [if_pos hi]
      refine re.emp i ?_
      unfold outsOf at h
      have : getL ((List.range F.n).map fun j => if F.io.contains j then getL e j else none) i = getL e i := by
        conv => lhs; unfold getL
        rw [List.getElem?_map, List.getElem?_range hi.1]
        simp only [Option.map_some, Option.getD_some]
        rw [if_pos hi.2]
        rfl
      rw [this] at h
      exact h
    · rw [if_neg hi]
  nd := fun i => by
    by_cases hi : i < F.n ∧ F.io.contains i = true
    · rw [if_pos hi]; exact re.nd i
    · rw [if_neg hi]; exact .nil
  dis := fun i j a h1 h2 => by
    by_cases hi : i < F.n ∧ F.io.contains i = true
    · rw [if_pos hi] at h1
      by_cases hj : j < F.n ∧ F.io.contains j = true
      · rw [if_pos hj] at h2
        exact re.dis i j a h1 h2
      · rw [if_neg hj] at h2; cases h2
    · rw [if_neg hi] at h1; cases h1
theorem outs_sub {F : Fn} {f : Fp} : ∀ j a, a ∈ (if j < F.n ∧ F.io.contains j = true then f j else []) → a ∈ f j := fun j a h => by
  split at h
  · exact h
  · cases h
end
section
variable {G : Gd} {n : Nm} {S : List Sh} {b : List Str} {kk : Nat} {rs : List Nat} {ncl : Nat}
theorem spOf_len {c : List T → Out} {m : Nat} (h : ∀ ts, ts.length ≠ m → c ts = .bad) : ∀ vs H Q E, spOf G c vs H Q E → vs.length = m := fun vs H Q E ⟨ts, fps, re, p⟩ => by
  have e : ts.length = vs.length := by simpa using re.len
  refine Classical.byContradiction fun q => ?_
  rw [h ts (by rw [e]; exact q)] at p
  exact p
/-- a def does what its term says -/
theorem def_ok {x qual : Str} {st : Stmt} {f : Addr} {fd : FuncData} {N ps : List Str} {F : Fn} {call : Nat → List T → Out} {glob : Str → Option D} {sub : Nat → Nat → Bool} (Fu : Fun G.K x qual st f fd) (S0 : FnScope N ps (defScope st)) (hN : n.N = N) (hm : F.m = N.length) (hn : F.n = ps.length)
    (Fa : Facts G ⟨call, glob, F.io, sub⟩ n S b kk) (C : ClsF G ⟨call, glob, F.io, sub⟩ n rs ncl) (htx : (toSs n F.body (anSs (defBody st))).1 = defBody st) (hck : chkSs n S b rs ncl ⟨defScope st, true, true, defScope st⟩ F.body (anSs (defBody st)) = true) :
    FnOk G.P G.w G.K G.mg G.base (L2.CX G.P G.w) (kk + 1) f fd ps (spOf G (runFn call glob sub F)) := by
  have hlen := spOf_len (G := G) (c := runFn call glob sub F) (m := ps.length) fun ts h => by
    unfold runFn
    rw [if_neg (by rw [hn]; exact h)]
  refine Fu.okX S0 hlen fun cdv A outer s H vs Q E hr hsp => ?_
  have hl := hlen _ _ _ _ hsp
  obtain ⟨ts, fps, re, p⟩ := hsp
  have htl : ts.length = F.n := by
    have e : ts.length = vs.length := by simpa using re.len
    rw [e, hl, hn]
  have hX : XOk G n kk ⟨defScope st, true, true, defScope st⟩ (fun cls d _ H' => E cls d H') (cxOf (L2.CX G.P G.w) G.P G.w G.K G.mg G.base N qual (defScope st) f cdv A outer s H E) :=
    ⟨rfl, rfl, rfl, rfl, rfl, fun _ => rfl, hN.symm, S0.nd, rfl, takes_of rfl rfl rfl rfl, fun _ => hr, (by have := hr.un; show (A.deeper (envOfC qual (defScope st) s.heap.objs.size f cdv)).units + 65 < _; omega), fun _ _ => rfl⟩
  have key := okSs Fa C hX ⟨passes_of rfl, rfl, rfl⟩ F.body (anSs (defBody st)) hck
  rw [htx] at key
  refine ⟨_, key, ?_⟩
  have hst : start N vs = vs.map some ++ List.replicate (F.m - F.n) none := by
    unfold L2.start
    rw [hm, hn, hl]
  have reS : RE G.K H (F.start ts) (start N vs) fps := by
    rw [hst]
    exact re.pad
  refine ⟨F.start ts, fps, reS, ?_⟩
  unfold runFn at p
  rw [if_pos htl] at p
  have hvn : vs.length = F.n := by rw [hl, hn]
  cases q : exs ⟨call, glob, F.io, sub⟩ F.body (F.start ts) with
  | nx e =>
    rw [q] at p
    exact fun σ' H' fps' re' s' k' => p .non H' _ [] (re'.outs rfl hvn k') (Res.leaf rfl) (s'.sub outs_sub)
  | rt t e =>
    rw [q] at p
    exact fun v σ' H' fps' fp re' r' s' k' => p v H' _ fp (re'.outs rfl hvn k') (r'.sub outs_sub) (s'.sub outs_sub)
  | bk e => rw [q] at p; exact p.elim
  | exc x e =>
    rw [q] at p
    exact fun d σ' H' fps' re' s' k' => p d H' _ (re'.outs rfl hvn k') (s'.sub outs_sub)
  | bad => rw [q] at p; exact p.elim
/-- what is told of each def of a program -/
structure DefF (G : Gd) (S : List Sh) (b : List Str) (rs : List Nat) (ncl : Nat) (fnm : Nat → Str) (cl : Nat → Str) (f : Nat) (F : Fn) : Prop where
  ex : ∃ (x qual : Str) (st : Stmt) (N : List Str), Fun G.K x qual st (G.fi f).addr (G.fi f).fd ∧ FnScope N (G.fi f).ps (defScope st) ∧ F.m = N.length ∧ F.n = (G.fi f).ps.length ∧
    (toSs ⟨N, fnm, cl⟩ F.body (anSs (defBody st))).1 = defBody st ∧ chkSs ⟨N, fnm, cl⟩ S b rs ncl ⟨defScope st, true, true, defScope st⟩ F.body (anSs (defBody st)) = true
/-- what is told of the module -/
structure PgF (G : Gd) (P : Pg) (S : List Sh) (b : List Str) (rs : List Nat) (ncl : Nat) (fnm : Nat → Str) (cl : Nat → Str) : Prop where
  defs : ∀ f F, P.fn f = some F → DefF G S b rs ncl fnm cl f F
  bl : ∀ x ∈ b, G.mg x = none
  gl : ∀ x d, P.glob x = some d → ∃ u v, G.mg x = some u ∧ RelV v u ∧ ∀ H, RD G.K H d v
  sh : ∀ s ∈ S, G.mg (fnm s.f) = some (.ref (G.fi s.f).addr) ∧ PySem.W.keepIn G.K (.ref (G.fi s.f).addr) = true ∧ (∃ F, P.fn s.f = some F) ∧
    ∀ (st : Shared) (us ws : List Value), us.length = s.np → ws.length = s.kw.length → BindsTo st (G.fi s.f).fd ⟨us, s.kw.zip ws⟩ ((G.fi s.f).ps.zip (arr .none s.perm us ws))
  ex : ∀ i k, PySem.W.exmOne G.K (.ref (G.ca i)) (.ref (G.ca k)) = some (P.sub i k)
  nm : ∀ k, k < ncl → G.mg (cl k) = some (.ref (G.ca k))
  rs : ∀ k, k ∈ rs → ∀ (X : L2.Cx), X.K = G.K → X.mg = G.mg → Gl X (cl k) → ∀ (m : Str) (p1 p2 p3 : Pos), PMk X (.Call (.Name (cl k) p1) [.Constant (.str m) 0 p2] [] p3) (fun _ H Q => Q (.ref (G.ca k)) none H)
theorem prog_ok {P : Pg} {fnm : Nat → Str} {cl : Nat → Str} (A : PgF G P S b rs ncl fnm cl) : ∀ (kk f : Nat), FnOk G.P G.w G.K G.mg G.base (L2.CX G.P G.w) kk (G.fi f).addr (G.fi f).fd (G.fi f).ps (spOf G (P.run kk f))
  | 0, f => ⟨fun vs H Q E ⟨ts, fps, re, p⟩ => p.elim, fun A outer s H args us vs Q E hr he hb hv ⟨ts, fps, re, p⟩ => p.elim⟩
  | kk + 1, f => by
    cases q : P.fn f with
    | none =>
      have e : ∀ ts, P.run (kk + 1) f ts = .bad := fun ts => by unfold Pg.run; rw [q]
      exact ⟨fun vs H Q E ⟨ts, fps, re, p⟩ => by rw [e] at p; exact p.elim, fun A outer s H args us vs Q E hr he hb hv ⟨ts, fps, re, p⟩ => by rw [e] at p; exact p.elim⟩
    | some F =>
      have e : P.run (kk + 1) f = runFn (P.run kk) P.glob P.sub F := by
        funext ts
        conv => lhs; unfold Pg.run
        rw [q]
      obtain ⟨x, qual, st, N, h1, h2, h3, h4, h5, h6⟩ := (A.defs f F q).ex
      rw [e]
      exact def_ok (n := ⟨N, fnm, cl⟩) h1 h2 rfl h3 h4 ⟨A.bl, A.gl, fun s hs => ⟨prog_ok A kk s.f, (A.sh s hs).1, (A.sh s hs).2.1, (A.sh s hs).2.2.2⟩⟩ ⟨A.ex, A.nm, A.rs⟩ h5 h6
end
/-! the law -/
/-- the script -/
def scrT (ns : List Int) : List T := [.leaf (.lst (ns.map .int))]
theorem rds_ints {K : Fg} {H : Hp} : ∀ ns : List Int, RDs K H (ns.map .int) (ns.map V.int)
  | [] => rfl
  | i :: ns => ⟨.int i, ns.map V.int, rfl, rfl, rds_ints ns⟩
theorem scr_re {K : Fg} {H : Hp} {a : Addr} {ns : List Int} (h : FzL K H a (ns.map V.int)) : RE K H ((scrT ns).map some) ([V.ref a].map some) fun _ => [] where
  len := rfl
  rep := fun i t q => by
    cases i with
    | zero =>
      cases q
      exact ⟨.ref a, rfl, ⟨a, _, rfl, h, rds_ints ns⟩, rfl⟩
    | succ i => cases q
  emp := fun _ _ => rfl
  nd := fun _ => .nil
  dis := fun _ _ _ h => nomatch h
/-- the end: the law's promise at the heap behind the top -/
theorem walkM {l : PySem.W.OpenLaw} {n k : Nat} {q : Program} {loose : List Str} {XP : (Str → Option Value) → Heap → Prop} {YP : World → Heap → Prop} {d : DefRec} {K : Params → PySem.W.Frag} {x : Str} {out : List T → Out}
    (hn : l.most = some n) (hn2 : n ≤ sizeLine) (hdf : d.params.defaults = []) (hr : Room k callerA)
    (hY : ∀ (w : World) (h : Heap), YP w h → (K w.params).In h)
    (F : ∀ (w : World) (mg : Str → Option Value) (fa : Addr) (h : Heap), (K w.params).In h → h.Ns mainGlobals mg → mg d.name = some (.ref fa) →
      ∃ (fd : FuncData) (ca : Nat → Addr) (fi : Nat → FI), (∀ (s : Shared) (u : Value), BindsTo s fd ⟨[u], []⟩ [(x, u)]) ∧
        ∀ base : Heap, (K w.params).In base → base.Ns mainGlobals mg → FnOk l.prog w (K w.params) mg base (L2.CX l.prog w) k fa fd [x] (spOf ⟨l.prog, w, K w.params, mg, base, ca, fi⟩ out))
    (law : ∀ ns : List Int, ns.length ≤ n → ∃ os, out (scrT ns) = .ret (.leaf (.bl true)) os) :
    PySem.W.WalkO q loose XP YP l.row.toRowW d [] (fun f vs => PySem.call f vs) := by
  refine Att.attach_call hn hdf fun w s₀ s₁ mg mb fa o pm cd doc a vs ns B Y ho hd hcd hmg hobj hints hlen hg => ?_
  have KX := hY w _ Y
  obtain ⟨fd, ca, fi, hb, hF⟩ := F w mg fa _ KX B.T.g hmg
  obtain ⟨os, he⟩ := law ns hlen
  refine law_call (sp := spOf ⟨l.prog, w, K w.params, mg, s₁.heap, ca, fi⟩ out) KX B.T.g B.T.b B.T.builtins B.T.nolimit hg hobj hints (Nat.le_trans hlen hn2) hr hF hb (fun H hO hS => ?_) fun H e s' z => ?_
  · have fz : FzL (K w.params) H a (ns.map V.int) := by
      rcases hS with hS | ⟨o, its, m, h1, h2, h3, h4, h5, h6⟩
      · left
        rcases hO a with z | ⟨ob, xs, z⟩
        · rcases hS with hS | ⟨o, hS⟩ <;> (rw [z] at hS; cases hS)
        · rcases hS with hS | ⟨o, hS⟩
          · rw [z] at hS; cases hS
          · exact ⟨o, hS⟩
      · right
        have g := KX a o h1
        rw [hobj] at g
        cases g
        have e : its = vs.toArray := by
          have := h4
          injection this with this _
          exact this.symm
        subst e
        exact ⟨vs, _, h1, by simpa using h5, by simpa using h6⟩
    refine ⟨scrT ns, _, scr_re fz, ?_⟩
    rw [he]
    exact fun v H' fps' fp _ r _ => r.rt.1
  · obtain ⟨_, _, _, _, _, _, _, _, _, _, _, _, z⟩ := z
    exact z
end Mi
end
section
set_option maxRecDepth 100000
/-! Mi24: the laws' jug: a script of ints, numbers drawn from it. -/
namespace Mi
def jugF : Fn := ⟨1, 1, [],
    (.cons (.ret (.lst (.cons (.ty .list (.cons (.fz 0) .nil)) (.cons (.int 0) (.cons (.int 0) .nil)))))
    .nil)⟩
def takeF : Fn := ⟨2, 5, [0],
    (.cons (.ifs (.vcmp .eq 0 (.cons (.int 2) .nil) (.int 0)) (.cons (.asg 3 (.pk 0 (.cons (.int 1) .nil)))
    (.cons (.asg 4 (.bin .add (.bin .mul (.int 3) (.get 3)) (.int 5)))
    (.cons (.ifs (.cmp .lt (.get 3) (.vb .len 0 (.cons (.int 0) .nil))) (.cons (.asg 4 (.bin .add (.bin .mul (.int 2) (.vb .abs 0 (.cons (.int 0) (.cons (.get 3) .nil)))) (.ty .int (.cons (.vcmp .lt 0 (.cons (.int 0) (.cons (.get 3) .nil)) (.int 0)) .nil))))
    .nil) .nil)
    (.cons (.ifs (.cmp .lt (.get 4) (.bin .pow (.int 10) (.int 18))) (.cons (.asg 4 (.bin .mod (.ty .int (.cons (.bin .pow (.bin .add (.bin .add (.bin .mul (.get 4) (.int 2654435761)) (.bin .mul (.get 3) (.int 40503))) (.int 977)) (.int 3)) .nil)) (.int 618970019642690137449562111)))
    .nil) .nil)
    (.cons (.put 0 .nil (.int 1) (.bin .add (.get 3) (.int 1)))
    (.cons (.put 0 .nil (.int 2) (.get 4))
    .nil)))))) .nil)
    (.cons (.asg 2 (.bin .mod (.ty .int (.cons (.pk 0 (.cons (.int 2) .nil)) .nil)) (.fz 1)))
    (.cons (.put 0 .nil (.int 2) (.bin .fdiv (.pk 0 (.cons (.int 2) .nil)) (.fz 1)))
    (.cons (.ret (.get 2))
    .nil))))⟩
/-- the jug -/
def jug (ns : List Int) (a c : Int) : T := .lst [.lst (ns.map fun i => .leaf (.int i)), .leaf (.int a), .leaf (.int c)]
/-- a number drawn -/
def cell0 (ns : List Int) (a : Int) : Int := match ns[a.toNat]? with
  | some x => 2 * (if x < 0 then -x else x) + (if x < 0 then 1 else 0)
  | none => 3 * a + 5
def cell1 (ns : List Int) (a : Int) : Int := if cell0 ns a < 10 ^ 18 then ((cell0 ns a * 2654435761 + a * 40503 + 977) ^ 3) % 618970019642690137449562111 else cell0 ns a
theorem cell0_nn {ns : List Int} {a : Int} (h : 0 ≤ a) : 0 ≤ cell0 ns a := by
  unfold cell0
  split
  · rename_i x _
    by_cases hx : x < 0
    · rw [if_pos hx, if_pos hx]; omega
    · rw [if_neg hx, if_neg hx]; omega
  · omega
theorem cell1_nn {ns : List Int} {a : Int} (h : 0 ≤ a) : 0 ≤ cell1 ns a := by
  unfold cell1
  split
  · exact Int.emod_nonneg _ (by decide)
  · exact cell0_nn h
theorem atI_nn {α : Type} {xs : List α} {a : Int} (h : 0 ≤ a) : L2.atI xs a = xs[a.toNat]? := by
  unfold L2.atI L2.ixN
  rw [if_pos h]
  split
  · rfl
  · rename_i q
    rw [List.getElem?_eq_none (by omega)]
    rfl
theorem ixN_nn {n : Nat} {a : Int} (h : 0 ≤ a) (h2 : a < n) : L2.ixN n a = some a.toNat := by
  unfold L2.ixN
  rw [if_pos h, if_pos h2]
theorem fz_ints (ns : List Int) : T.fzs (ns.map fun i => .leaf (.int i)) = ns.map .int := by
  induction ns with
  | nil => rfl
  | cons i r ih => simp [T.fzs, T.fz, ih]
/-- the first part: what stands at the place -/
theorem t2a (c : Cx) (hio : c.io = [0]) (ns : List Int) (a m : Int) (ha : 0 ≤ a) (ha2 : a < 2 ^ 60) :
    exs c (.cons (.asg 3 (.pk 0 (.cons (.int 1) .nil)))
    (.cons (.asg 4 (.bin .add (.bin .mul (.int 3) (.get 3)) (.int 5)))
    (.cons (.ifs (.cmp .lt (.get 3) (.vb .len 0 (.cons (.int 0) .nil))) (.cons (.asg 4 (.bin .add (.bin .mul (.int 2) (.vb .abs 0 (.cons (.int 0) (.cons (.get 3) .nil)))) (.ty .int (.cons (.vcmp .lt 0 (.cons (.int 0) (.cons (.get 3) .nil)) (.int 0)) .nil))))
    .nil) .nil) .nil))) [some (jug ns a 0), some (.leaf (.int m)), none, none, none] = .nx [some (jug ns a 0), some (.leaf (.int m)), none, some (.leaf (.int a)), some (.leaf (.int (cell0 ns a)))] := by
  by_cases h : a < ns.length
  · have hn : a.toNat < ns.length := by omega
    have e0 : ns[a.toNat]? = some ns[a.toNat] := by simp [hn]
    have e1 : L2.ixN ns.length a = some a.toNat := ixN_nn ha h
    have e2 : cell0 ns a = 2 * (if ns[a.toNat] < 0 then -ns[a.toNat] else ns[a.toNat]) + (if ns[a.toNat] < 0 then 1 else 0) := by
      unfold cell0; rw [e0]
    rw [e2]
    by_cases hx : ns[a.toNat] < 0 <;> simp [hio, jug, exs, ex, ev, evs, evP, getL, setE, T.at1, T.fz, T.fzs, d2, dc, dLt, db, dLen, dTy, optR, leafR, blR, mulOk, L2.atI, L2.ixN, fz_ints, h, ha, hn, hx]
  · have hn : ¬ a.toNat < ns.length := by omega
    have e0 : ns[a.toNat]? = none := List.getElem?_eq_none (by omega)
    have e2 : cell0 ns a = 3 * a + 5 := by
      unfold cell0; rw [e0]
    rw [e2]
    simp [hio, jug, exs, ex, ev, evs, evP, getL, setE, T.at1, T.fz, T.fzs, d2, dc, dLt, db, dLen, dTy, optR, leafR, blR, mulOk, L2.atI, L2.ixN, fz_ints, h, ha, hn]

theorem natAbs_lt {x b : Int} (h1 : 0 ≤ x) (h2 : x < b) {n : Nat} (hb : b ≤ n) : x.natAbs < n := by omega
theorem t2b (c : Cx) (hio : c.io = [0]) (ns : List Int) (a m : Int) (ha : 0 ≤ a) (ha2 : a < 2 ^ 60) :
    exs c (.cons (.ifs (.cmp .lt (.get 4) (.bin .pow (.int 10) (.int 18))) (.cons (.asg 4 (.bin .mod (.ty .int (.cons (.bin .pow (.bin .add (.bin .add (.bin .mul (.get 4) (.int 2654435761)) (.bin .mul (.get 3) (.int 40503))) (.int 977)) (.int 3)) .nil)) (.int 618970019642690137449562111)))
    .nil) .nil)
    (.cons (.put 0 .nil (.int 1) (.bin .add (.get 3) (.int 1)))
    (.cons (.put 0 .nil (.int 2) (.get 4))
    .nil))) [some (jug ns a 0), some (.leaf (.int m)), none, some (.leaf (.int a)), some (.leaf (.int (cell0 ns a)))] = .nx [some (jug ns (a + 1) (cell1 ns a)), some (.leaf (.int m)), none, some (.leaf (.int a)), some (.leaf (.int (cell1 ns a)))] := by
  have h0 := cell0_nn (ns := ns) ha
  generalize hz : cell0 ns a = z at h0
  unfold cell1
  rw [hz]
  have h10 : (10 : Nat) < 2 ^ 1000 := by
    have h3 : (2 : Nat) ^ 4 ≤ 2 ^ 1000 := Nat.pow_le_pow_right (by decide) (by decide)
    omega
  by_cases h : z < 10 ^ 18
  · have hb : (z * 2654435761 + a * 40503 + 977).natAbs < 2 ^ 1000 := by
      have : z * 2654435761 + a * 40503 + 977 < 2 ^ 100 := by omega
      have h3 : (2 : Nat) ^ 100 ≤ 2 ^ 1000 := Nat.pow_le_pow_right (by decide) (by decide)
      have h4 : (z * 2654435761 + a * 40503 + 977).natAbs < 2 ^ 100 := by omega
      omega
    rw [if_pos h]
    have h' : z < 1000000000000000000 := h
    simp [hio, jug, exs, ex, ev, evs, evP, getL, setE, T.at1, T.fz, T.fzs, d2, dc, dLt, dTy, optR, leafR, blR, mulOk, putSem, T.mod, L2.ixN, h', hb, h10]
  · rw [if_neg h]
    have h' : ¬ z < 1000000000000000000 := h
    simp [hio, jug, exs, ex, ev, evs, evP, getL, setE, T.at1, T.fz, T.fzs, d2, dc, dLt, dTy, optR, leafR, blR, mulOk, putSem, T.mod, L2.ixN, h', h10]
theorem t2c (c : Cx) (hio : c.io = [0]) (ns : List Int) (a m x : Int) (v3 v4 : Option T) (hm : 0 < m) (hm2 : m < 2 ^ 60) :
    exs c (.cons (.asg 2 (.bin .mod (.ty .int (.cons (.pk 0 (.cons (.int 2) .nil)) .nil)) (.fz 1)))
    (.cons (.put 0 .nil (.int 2) (.bin .fdiv (.pk 0 (.cons (.int 2) .nil)) (.fz 1)))
    (.cons (.ret (.get 2))
    .nil))) [some (jug ns a x), some (.leaf (.int m)), none, v3, v4] = .rt (.leaf (.int (x % m))) [some (jug ns a (x / m)), some (.leaf (.int m)), some (.leaf (.int (x % m))), v3, v4] := by
  have hb : m.natAbs < 2 ^ 4000 := by
    have h3 : (2 : Nat) ^ 60 ≤ 2 ^ 4000 := Nat.pow_le_pow_right (by decide) (by decide)
    have h4 : m.natAbs < 2 ^ 60 := by omega
    omega
  simp [hio, jug, exs, ex, ev, evs, evP, getL, setE, T.at1, T.fz, T.fzs, d2, dTy, optR, leafR, blR, putSem, T.mod, L2.atI, L2.ixN, hm, hb]
theorem exs_app (c : Cx) (s : St) (r : Sts) (e : Env) : exs c (.cons s r) e = (ex c s e).thn fun e1 => exs c r e1 := by rw [exs]
/-- a draw: below many, the jug goes on -/
theorem draw_ok (call : Nat → List T → Out) (glob : PySem.Str → Option D) (sub : Nat → Nat → Bool) (ns : List Int) (a x m : Int) (ha : 0 ≤ a) (ha2 : a < 2 ^ 60) (hx : 0 ≤ x) (hm : 0 < m) (hm2 : m < 2 ^ 60) :
    ∃ r a' x', runFn call glob sub takeF [jug ns a x, .leaf (.int m)] = .ret (.leaf (.int r)) [some (jug ns a' x'), none] ∧ 0 ≤ r ∧ r < m ∧ 0 ≤ a' ∧ a' ≤ a + 1 ∧ 0 ≤ x' := by
  have hc : ∀ c : Cx, c.io = [0] → ∃ r a' x' e, exs c takeF.body [some (jug ns a x), some (.leaf (.int m)), none, none, none] = .rt (.leaf (.int r)) (some (jug ns a' x') :: e) ∧ 0 ≤ r ∧ r < m ∧ 0 ≤ a' ∧ a' ≤ a + 1 ∧ 0 ≤ x' := by
    intro c hio
    unfold takeF
    dsimp only
    rw [exs_app]
    by_cases h : x = 0
    · subst h
      have t1 := t2a c hio ns a m ha ha2
      have t3 := t2b c hio ns a m ha ha2
      refine ⟨cell1 ns a % m, a + 1, cell1 ns a / m, [some (.leaf (.int m)), some (.leaf (.int (cell1 ns a % m))), some (.leaf (.int a)), some (.leaf (.int (cell1 ns a)))], ?_, Int.emod_nonneg _ (by omega), Int.emod_lt_of_pos _ hm, by omega, by omega, Int.ediv_nonneg (cell1_nn ha) (by omega)⟩
      rw [ex]
      have hv : ev c (.vcmp .eq 0 (.cons (.int 2) .nil) (.int 0)) [some (jug ns a 0), some (.leaf (.int m)), none, none, none] = .ok (.leaf (.bl true)) [some (jug ns a 0), some (.leaf (.int m)), none, none, none] := by
        simp [jug, ev, evP, getL, T.at1, T.fz, dc, D.ok, D.okN, D.eqv, blR, L2.atI, L2.ixN]
      rw [hv]
      show S.thn (exs c _ _) _ = _
      rw [exs_app] at t1 t3 ⊢
      cases q : ex c (.asg 3 (.pk 0 (.cons (.int 1) .nil))) [some (jug ns a 0), some (.leaf (.int m)), none, none, none] with
      | nx e1 =>
        rw [q] at t1
        simp only [S.thn] at t1 ⊢
        rw [exs_app] at t1 ⊢
        cases q2 : ex c (.asg 4 (.bin .add (.bin .mul (.int 3) (.get 3)) (.int 5))) e1 with
        | nx e2 =>
          rw [q2] at t1
          simp only [S.thn] at t1 ⊢
          rw [exs_app] at t1 ⊢
          generalize ex c (.ifs (.cmp .lt (.get 3) (.vb .len 0 (.cons (.int 0) .nil))) _ _) e2 = z at t1 ⊢
          cases z with
          | nx e3 =>
            simp only [S.thn] at t1 ⊢
            rw [exs] at t1
            cases t1
            rw [exs_app]
            simp only [S.thn] at t3 ⊢
            generalize ex c (.ifs _ _ _) _ = z4 at t3 ⊢
            cases z4 with
            | nx e4 =>
              simp only at t3 ⊢
              rw [t3]
              exact t2c c hio ns (a + 1) m (cell1 ns a) _ _ hm hm2
            | _ => simp at t3
          | _ => simp at t1
        | _ => rw [q2] at t1; simp at t1
      | _ => rw [q] at t1; simp at t1
    · refine ⟨x % m, a, x / m, [some (.leaf (.int m)), some (.leaf (.int (x % m))), none, none], ?_, Int.emod_nonneg _ (by omega), Int.emod_lt_of_pos _ hm, ha, by omega, Int.ediv_nonneg hx (by omega)⟩
      rw [ex]
      have hv : ev c (.vcmp .eq 0 (.cons (.int 2) .nil) (.int 0)) [some (jug ns a x), some (.leaf (.int m)), none, none, none] = .ok (.leaf (.bl false)) [some (jug ns a x), some (.leaf (.int m)), none, none, none] := by
        simp [jug, ev, evP, getL, T.at1, T.fz, dc, D.ok, D.okN, D.eqv, blR, L2.atI, L2.ixN, h]
      rw [hv]
      show S.thn (exs c .nil _) _ = _
      rw [exs]
      exact t2c c hio ns a m x _ _ hm hm2
  obtain ⟨r, a', x', e, h1, h2, h3, h4, h5, h6⟩ := hc ⟨call, glob, takeF.io, sub⟩ rfl
  refine ⟨r, a', x', ?_, h2, h3, h4, h5, h6⟩
  unfold runFn
  rw [if_pos (show [jug ns a x, T.leaf (D.int m)].length = takeF.n from rfl)]
  show (match exs ⟨call, glob, takeF.io, sub⟩ takeF.body [some (jug ns a x), some (.leaf (.int m)), none, none, none] with
    | .nx e => Out.ret (.leaf .non) (outsOf takeF e)
    | .rt t e => .ret t (outsOf takeF e)
    | .exc x e => .exc x (outsOf takeF e)
    | _ => .bad) = _
  rw [h1]
  rfl
theorem jug_ok (call : Nat → List T → Out) (glob : PySem.Str → Option D) (sub : Nat → Nat → Bool) (ns : List Int) : runFn call glob sub jugF (scrT ns) = .ret (jug ns 0 0) [none] := by
  simp [runFn, jugF, scrT, exs, ex, ev, evs, Fn.start, getL, dTy, T.fz, T.fzs, optR, outsOf, jug, leafs, List.range, List.range.loop]
/-! loops -/
theorem forL_all {f : D → Env → S} {I : Env → Prop} : ∀ (ds : List D) (e : Env), I e → (∀ d ∈ ds, ∀ e, I e → ∃ e', f d e = .nx e' ∧ I e') → ∃ e', forL f ds e = .nx e' ∧ I e'
  | [], e, h, _ => ⟨e, rfl, h⟩
  | d :: ds, e, h, hf => by
    obtain ⟨e1, h1, h2⟩ := hf d (by simp) e h
    obtain ⟨e2, h3, h4⟩ := forL_all ds e1 h2 fun d' hd => hf d' (by simp [hd])
    exact ⟨e2, by unfold forL; rw [h1]; exact h3, h4⟩
theorem run_eq {P : Pg} {f : Nat} {F : Fn} (h : P.fn f = some F) (k : Nat) (ts : List T) : P.run (k + 1) f ts = runFn (P.run k) P.glob P.sub F ts := by
  conv => lhs; unfold Pg.run
  rw [h]
end Mi
end
section
set_option maxRecDepth 100000
set_option maxHeartbeats 0
/-! Mi25: exact sameness of plain data, as the laws ask it; comprehensions as lists. -/
namespace Mi
/-- a comprehension whose turns leave the names as they are, but for those of its own -/
theorem compL_map {own : List Nat} {f : D → Env → R (Option T)} {g : D → Option T} {I : Env → Prop} (hI : ∀ e, I e → I (wipe own e)) : ∀ (ds : List D) (acc : List T) (e : Env), I e → (∀ d ∈ ds, ∀ e, I e → ∃ e', f d e = .ok (g d) e' ∧ I e') → ∃ e', compL own f ds acc e = .ok (acc ++ ds.filterMap g) e' ∧ I e'
  | [], acc, e, h, _ => ⟨e, by simp [compL], h⟩
  | d :: ds, acc, e, h, k => by
    obtain ⟨e1, h1, h2⟩ := k d (by simp) e h
    have k' := fun d' (hd : d' ∈ ds) => k d' (by simp [hd])
    cases q : g d with
    | some t =>
      rw [q] at h1
      obtain ⟨e2, h3, h4⟩ := compL_map hI ds (acc ++ [t]) (wipe own e1) (hI e1 h2) k'
      exact ⟨e2, by unfold compL; rw [h1]; simp [q, h3], h4⟩
    | none =>
      rw [q] at h1
      obtain ⟨e2, h3, h4⟩ := compL_map hI ds acc (wipe own e1) (hI e1 h2) k'
      exact ⟨e2, by unfold compL; rw [h1]; simp [q, h3], h4⟩
/-- the laws' own sameness; i: its own number -/
def sameF (i : Nat) : Fn := ⟨2, 3, [],
    (.cons (.ifs (.bop false (.cmp .is (.fz 1) .non) (.cons (.cmp .is (.fz 0) .non) .nil)) (.cons (.ret (.bop true (.cmp .is (.fz 0) .non) (.cons (.cmp .is (.fz 1) .non) .nil)))
    .nil) .nil)
    (.cons (.ifs (.isi (.fz 1) [.tuple]) (.cons (.ifs (.bop false (.not (.isi (.fz 0) [.tuple])) (.cons (.cmp .ne (.bi .len (.cons (.fz 0) .nil)) (.bi .len (.cons (.fz 1) .nil))) .nil)) (.cons (.ret (.bl false))
    .nil) .nil)
    (.cons (.ret (.cmp .eq (.lc (.get 2) (.nm 2) (.d (.rg (.cons (.bi .len (.cons (.fz 1) .nil)) .nil))) (.cons (.not (.call i (.v (.idx (.fz 0) (.get 2)) (.v (.idx (.fz 1) (.get 2)) .nil)) .nil [.v 0, .v 1])) .nil) [2]) (.lst .nil)))
    .nil)) .nil)
    (.cons (.ifs (.bop false (.cmp .ne (.isi (.fz 0) [.bool]) (.isi (.fz 1) [.bool])) (.cons (.cmp .ne (.isi (.fz 0) [.str]) (.isi (.fz 1) [.str])) .nil)) (.cons (.ret (.bl false))
    .nil) .nil)
    (.cons (.ret (.bop true (.isi (.fz 0) [.int, .str]) (.cons (.cmp .eq (.fz 0) (.fz 1)) .nil)))
    .nil))))⟩
mutual
/-- the same data of the same kinds -/
def same : D → D → Bool
  | .non, .non => true
  | .bl a, .bl b => a == b
  | .int a, .int b => a == b
  | .str a, .str b => a == b
  | .tup xs, .tup ys => sames xs ys
  | _, _ => false
def sames : List D → List D → Bool
  | [], [] => true
  | x :: xs, y :: ys => same x y && sames xs ys
  | _, _ => false
end
/-- plain: None, bools, ints, texts, tuples of these -/
def leafD : D → Bool
  | .non => true
  | .bl _ => true
  | .int _ => true
  | .str s => PySem.PyData.strOk s
  | _ => false
theorem eqv_int (i j : Int) : D.eqv (.int i) (.int j) = (i == j) := by rw [D.eqv]
theorem eqv_bl (i j : Bool) : D.eqv (.bl i) (.bl j) = (i == j) := by rw [D.eqv]
theorem eqv_str (i j : PySem.Str) : D.eqv (.str i) (.str j) = (i == j) := by rw [D.eqv]
theorem same_int (i : Nat) (call : Nat → List T → Out) (glob : PySem.Str → Option D) (sub : Nat → Nat → Bool) (a b : Int) : runFn call glob sub (sameF i) [.leaf (.int a), .leaf (.int b)] = .ret (.leaf (.bl (a == b))) [none, none] := by
  simp [sameF, runFn, Fn.start, outsOf, List.range, List.range.loop, exs, ex, exh, ev, evs, evA, evK, evB, evP, evI, getL, setE, T.at1, T.fz, T.fzs, d2, dLt, db, dLen, dTy, dIsi, dIs, optR, leafR, blR, onBl, mulOk, takeAr, putAr, leafs, dc, D.ok, D.okN, eqv_int, eqv_bl]
theorem same_leaf (i : Nat) (call : Nat → List T → Out) (glob : PySem.Str → Option D) (sub : Nat → Nat → Bool) (a b : D) (ha : leafD a = true) (hb : leafD b = true) : runFn call glob sub (sameF i) [.leaf a, .leaf b] = .ret (.leaf (.bl (same a b))) [none, none] := by
  cases a <;> cases b <;> simp [leafD] at ha hb <;> simp [sameF, runFn, Fn.start, outsOf, List.range, List.range.loop, exs, ex, exh, ev, evs, evA, evK, evB, evP, evI, getL, setE, T.at1, T.fz, T.fzs, d2, dLt, db, dLen, dTy, dIsi, dIs, optR, leafR, blR, onBl, mulOk, takeAr, putAr, leafs, dc, D.ok, D.okN, eqv_int, eqv_bl, eqv_str, ha, hb, same]
end Mi
end
section
set_option maxRecDepth 100000
set_option maxHeartbeats 0
/-! Mi26: rules of the meaning for the plain laws: loops and comprehensions over lists, sameness of all plain data, cuts. -/
namespace Mi
/-! what comes later is not looked at before what comes first is known -/
theorem bind_eq {α β : Type} (r : R α) (f : α → Env → R β) : r.bind f = (match r with
  | .ok a e => f a e
  | .exc x e => .exc x e
  | .bad => .bad) := by cases r <;> rfl
theorem rthn_eq {α : Type} (r : R α) (f : α → Env → S) : r.thn f = (match r with
  | .ok a e => f a e
  | .exc x e => .exc x e
  | .bad => .bad) := by cases r <;> rfl
theorem sthn_eq (r : S) (f : Env → S) : r.thn f = (match r with
  | .nx e => f e
  | .rt t e => .rt t e
  | .bk e => .bk e
  | .exc x e => .exc x e
  | .bad => .bad) := by cases r <;> rfl
theorem range0 : List.range 0 = [] := rfl
theorem range1 : List.range 1 = [0] := rfl
theorem range2 : List.range 2 = [0, 1] := rfl
theorem range3 : List.range 3 = [0, 1, 2] := rfl
theorem range4 : List.range 4 = [0, 1, 2, 3] := rfl
/-- outsOf by the number of parameters -/
theorem outs0 (F : Fn) (e : Env) (h : F.n = 0) : outsOf F e = [] := by unfold outsOf; rw [h]; rfl
/-! ### lists of data -/
theorem fzs_map {α : Type} (xs : List α) (h : α → T) : T.fzs (xs.map h) = xs.map fun x => (h x).fz := by
  induction xs with
  | nil => rfl
  | cons x r ih => simp [T.fzs, ih]
theorem fzs_leaf {α : Type} (xs : List α) (h : α → D) : T.fzs (xs.map fun x => .leaf (h x)) = xs.map h := by
  rw [fzs_map]; rfl
theorem fzs_eq (ts : List T) : T.fzs ts = ts.map T.fz := by
  induction ts with
  | nil => rfl
  | cons x r ih => simp [T.fzs, ih]
theorem ints_map {α : Type} (xs : List α) (h : α → Int) : ints? (xs.map fun x => .int (h x)) = some (xs.map h) := by
  induction xs with
  | nil => rfl
  | cons x r ih => simp [ints?, ih]
theorem bls_map {α : Type} (xs : List α) (h : α → Bool) : bls? (xs.map fun x => .bl (h x)) = some (xs.map h) := by
  induction xs with
  | nil => rfl
  | cons x r ih => simp [bls?, ih]
theorem okNs_all (n : Nat) (xs : List D) : D.okNs n xs = xs.all (D.okN n) := by
  induction xs with
  | nil => unfold D.okNs; rfl
  | cons x r ih => rw [D.okNs, ih]; rfl
theorem kN_int (n : Nat) (i : Int) : D.okN n (.int i) = true := by cases n <;> simp [D.okN]
theorem kN_bl (n : Nat) (i : Bool) : D.okN n (.bl i) = true := by cases n <;> simp [D.okN]
theorem kN_non (n : Nat) : D.okN n .non = true := by cases n <;> simp [D.okN]
theorem kN_str (n : Nat) (s : PySem.Str) : D.okN n (.str s) = PySem.PyData.strOk s := by cases n <;> simp [D.okN]
theorem kN_tup (n : Nat) (xs : List D) : D.okN (n + 1) (.tup xs) = xs.all (D.okN n) := by rw [D.okN, okNs_all]
theorem kN_lst (n : Nat) (xs : List D) : D.okN (n + 1) (.lst xs) = xs.all (D.okN n) := by rw [D.okN, okNs_all]
theorem okN_succ : ∀ (n : Nat) (d : D), D.okN n d = true → D.okN (n + 1) d = true
  | n, .non, _ => kN_non _
  | n, .bl _, _ => kN_bl _ _
  | n, .int _, _ => kN_int _ _
  | n, .str s, h => by rw [kN_str] at h ⊢; exact h
  | 0, .tup xs, h => by simp [D.okN] at h
  | n + 1, .tup xs, h => by
    rw [kN_tup] at h ⊢
    rw [List.all_eq_true] at h ⊢
    exact fun x hx => okN_succ n x (h x hx)
  | 0, .lst xs, h => by simp [D.okN] at h
  | n + 1, .lst xs, h => by
    rw [kN_lst] at h ⊢
    rw [List.all_eq_true] at h ⊢
    exact fun x hx => okN_succ n x (h x hx)
  | n, .rng _ _, h => by cases n <;> simp [D.okN] at h
  | n, .dic _ _, h => by cases n <;> simp [D.okN] at h
  | n, .set _, h => by cases n <;> simp [D.okN] at h
theorem okN_le {n m : Nat} {d : D} (h : n ≤ m) (k : D.okN n d = true) : D.okN m d = true := by
  induction h with
  | refl => exact k
  | step _ ih => exact okN_succ _ _ ih
theorem eqv_tup (xs ys : List D) : D.eqv (.tup xs) (.tup ys) = D.eqvs xs ys := by rw [D.eqv]
theorem eqv_lst (xs ys : List D) : D.eqv (.lst xs) (.lst ys) = D.eqvs xs ys := by rw [D.eqv]
theorem eqvs_nil (xs : List D) : D.eqvs xs [] = xs.isEmpty := by
  cases xs <;> unfold D.eqvs <;> rfl
theorem eqv_tup_nil (xs : List D) : D.eqv (.tup xs) (.tup []) = xs.isEmpty := by rw [eqv_tup, eqvs_nil]
theorem eqv_lst_nil (xs : List D) : D.eqv (.lst xs) (.lst []) = xs.isEmpty := by rw [eqv_lst, eqvs_nil]
/-- plain data that Python's == takes to be the same as itself -/
theorem eqv_refl : ∀ (n : Nat) (d : D), D.okN n d = true → D.eqv d d = true
  | n, .non, _ => by rw [D.eqv]
  | n, .bl _, _ => by rw [D.eqv]; simp
  | n, .int _, _ => by rw [D.eqv]; simp
  | n, .str s, h => by rw [D.eqv]; simp
  | 0, .tup xs, h => by simp [D.okN] at h
  | n + 1, .tup xs, h => by
    rw [kN_tup, List.all_eq_true] at h
    rw [eqv_tup]
    induction xs with
    | nil => unfold D.eqvs; rfl
    | cons x r ih =>
      rw [D.eqvs, eqv_refl n x (h x (by simp)), ih fun y hy => h y (by simp [hy])]
      rfl
  | 0, .lst xs, h => by simp [D.okN] at h
  | n + 1, .lst xs, h => by
    rw [kN_lst, List.all_eq_true] at h
    rw [eqv_lst]
    induction xs with
    | nil => unfold D.eqvs; rfl
    | cons x r ih =>
      rw [D.eqvs, eqv_refl n x (h x (by simp)), ih fun y hy => h y (by simp [hy])]
      rfl
  | n, .rng _ _, h => by cases n <;> simp [D.okN] at h
  | n, .dic _ _, h => by cases n <;> simp [D.okN] at h
  | n, .set _, h => by cases n <;> simp [D.okN] at h
theorem db_len (x : D) : db .len [x] = (dLen x).map fun (n : Nat) => .leaf (.int n) := rfl
theorem db_all (xs : List D) : db .all [.lst xs] = (bls? xs).map fun bs => .leaf (.bl (bs.all id)) := rfl
theorem db_any (xs : List D) : db .any [.lst xs] = (bls? xs).map fun bs => .leaf (.bl (bs.any id)) := rfl
theorem db_sum (xs : List D) : db .sum [.lst xs] = (ints? xs).map fun ns => .leaf (.int ns.sum) := rfl
theorem db_minl (xs : List D) : db .min [.lst xs] = (match ints? xs with
    | some (n :: ns) => some (.leaf (.int (minL (n :: ns))))
    | _ => none) := rfl
theorem db_maxl (xs : List D) : db .max [.lst xs] = (match ints? xs with
    | some (n :: ns) => some (.leaf (.int (maxL (n :: ns))))
    | _ => none) := rfl
theorem db_all_map {α : Type} (xs : List α) (h : α → Bool) : db .all [.lst (xs.map fun x => .bl (h x))] = some (.leaf (.bl (xs.all h))) := by
  rw [db_all, bls_map]
  simp [List.all_map, Function.comp_def]
theorem db_any_map {α : Type} (xs : List α) (h : α → Bool) : db .any [.lst (xs.map fun x => .bl (h x))] = some (.leaf (.bl (xs.any h))) := by
  rw [db_any, bls_map]
  simp [List.any_map, Function.comp_def]
theorem db_sum_map {α : Type} (xs : List α) (h : α → Int) : db .sum [.lst (xs.map fun x => .int (h x))] = some (.leaf (.int (xs.map h).sum)) := by
  rw [db_sum, ints_map]
  rfl
theorem beq_nat (a b : Nat) : ((a : Int) == (b : Int)) = decide (a = b) := by
  by_cases h : a = b
  · subst h; simp
  · rw [decide_eq_false h, beq_eq_false_iff_ne]; omega
/-! ### what is walked -/
theorem dWalk_rng {n : Nat} (h : n ≤ line) : dWalk (.rng 0 n) = some ((List.range n).map fun i : Nat => .int (i : Int)) := by
  show (if n ≤ line then some ((List.range n).map fun (i : Nat) => D.int (0 + i)) else none) = _
  rw [if_pos h]
  congr 1
  exact List.map_congr_left fun i _ => by simp
theorem rngOf_nat {n : Nat} (h : n ≤ line) : rngOf [.int (n : Int)] = some (.rng 0 n) := by
  have h' : n ≤ 16777216 := h
  have h2 : (n : Int).natAbs < 2 ^ 62 := by omega
  have e : rngOf [.int (n : Int)] = if (n : Int).natAbs < 2 ^ 62 then some (D.rng 0 (n : Int).toNat) else none := rfl
  rw [e, if_pos h2, Int.toNat_natCast]
theorem atI_nat {α : Type} (xs : List α) (i : Nat) : L2.atI xs (i : Int) = xs[i]? := by
  rw [atI_nn (by omega)]
  simp
/-! ### comprehensions -/
def lcB (c : Cx) (elt : E) (tg : Tg) (cs : Es) (d : D) (e2 : Env) : R (Option T) := match bindTg c tg d e2 with
  | some e3 => (evB c true cs e3).bind fun v e4 => (match v with
    | .leaf (.bl true) => (ev c elt e4).bind fun t e5 => .ok (some t) e5
    | .leaf (.bl false) => .ok none e4
    | _ => .bad)
  | none => .bad
theorem compL_pure {own : List Nat} {f : D → Env → R (Option T)} {g : D → Option T} {e : Env} : ∀ (ds : List D) (acc : List T), (∀ d ∈ ds, ∃ e', f d e = .ok (g d) e' ∧ wipe own e' = e) → compL own f ds acc e = .ok (acc ++ ds.filterMap g) e
  | [], acc, _ => by simp [compL]
  | d :: ds, acc, h => by
    obtain ⟨e', h1, h2⟩ := h d (by simp)
    have k := fun acc' => compL_pure (own := own) (f := f) (g := g) (e := e) ds acc' fun d' hd => h d' (by simp [hd])
    unfold compL
    rw [h1]
    cases q : g d with
    | some t => simp only; rw [h2, k]; simp [q]
    | none => simp only; rw [h2, k]; simp [q]
theorem lc_eq (c : Cx) (elt : E) (tg : Tg) (it : I) (cs : Es) (own : List Nat) (e : Env) : ev c (.lc elt tg it cs own) e = (evI c it e).bind fun ds e1 => (match compL own (lcB c elt tg cs) ds [] (wipe own e1) with
    | .ok ts e2 => .ok (.lst ts) (back own e1 e2)
    | _ => .bad) := by
  rw [ev]; rfl
theorem lc_pure (c : Cx) {elt : E} {tg : Tg} {it : I} {cs : Es} {own : List Nat} {e e1 : Env} {ds : List D} (g : D → Option T) (hI : evI c it e = .ok ds e1) (hf : ∀ d ∈ ds, ∃ e', lcB c elt tg cs d (wipe own e1) = .ok (g d) e' ∧ wipe own e' = wipe own e1) : ev c (.lc elt tg it cs own) e = .ok (.lst (ds.filterMap g)) (back own e1 (wipe own e1)) := by
  rw [lc_eq, hI]
  show (match compL own (lcB c elt tg cs) ds [] (wipe own e1) with
    | R.ok ts e2 => R.ok (T.lst ts) (back own e1 e2)
    | _ => R.bad) = _
  rw [compL_pure ds [] hf]
  rfl
def lcB1 (c : Cx) (elt : E) (tg : Tg) (d : D) (e2 : Env) : R T := match bindTg c tg d e2 with
  | some e3 => ev c elt e3
  | none => .bad
theorem lcB_nil {c : Cx} {elt : E} {tg : Tg} {d : D} {e2 e' : Env} {t : T} (h : lcB1 c elt tg d e2 = .ok t e') : lcB c elt tg .nil d e2 = .ok (some t) e' := by
  unfold lcB1 at h
  unfold lcB
  cases q : bindTg c tg d e2 with
  | none => rw [q] at h; cases h
  | some e3 =>
    rw [q] at h
    simp only at h ⊢
    rw [evB]
    simp [h]
/-- a comprehension without a condition, over a list of anything -/
theorem lc_map (c : Cx) {elt : E} {tg : Tg} {it : I} {own : List Nat} {e e1 : Env} {α : Type} (xs : List α) (φ : α → D) (g : α → T) (hI : evI c it e = .ok (xs.map φ) e1) (hf : ∀ x ∈ xs, ∃ e', lcB1 c elt tg (φ x) (wipe own e1) = .ok (g x) e' ∧ wipe own e' = wipe own e1) : ev c (.lc elt tg it .nil own) e = .ok (.lst (xs.map g)) (back own e1 (wipe own e1)) := by
  rw [lc_eq, hI]
  show (match compL own (lcB c elt tg .nil) (xs.map φ) [] (wipe own e1) with
    | R.ok ts e2 => R.ok (T.lst ts) (back own e1 e2)
    | _ => R.bad) = _
  have k : ∀ (xs : List α) (acc : List T), (∀ x ∈ xs, ∃ e', lcB1 c elt tg (φ x) (wipe own e1) = .ok (g x) e' ∧ wipe own e' = wipe own e1) → compL own (lcB c elt tg .nil) (xs.map φ) acc (wipe own e1) = .ok (acc ++ xs.map g) (wipe own e1) := by
    intro xs
    induction xs with
    | nil => intro acc _; simp [compL]
    | cons x r ih =>
      intro acc h
      obtain ⟨e', h1, h2⟩ := h x (by simp)
      rw [List.map_cons, compL, lcB_nil h1]
      simp only
      rw [h2, ih _ fun y hy => h y (by simp [hy])]
      simp
  rw [k xs [] hf]
  rfl
/-- a comprehension that draws: an invariant that counts its turns -/
theorem lc_draw (c : Cx) {elt : E} {tg : Tg} {it : I} {own : List Nat} {e e1 : Env} {α : Type} (xs : List α) (φ : α → D) (P : T → Prop) (I : Nat → Env → Prop) (hI : evI c it e = .ok (xs.map φ) e1) (h0 : I 0 (wipe own e1)) (hf : ∀ x ∈ xs, ∀ k e, k < xs.length → I k e → ∃ t e', lcB1 c elt tg (φ x) e = .ok t e' ∧ P t ∧ I (k + 1) (wipe own e')) : ∃ ts e2, ev c (.lc elt tg it .nil own) e = .ok (.lst ts) (back own e1 e2) ∧ ts.length = xs.length ∧ (∀ t ∈ ts, P t) ∧ I xs.length e2 := by
  have k : ∀ (ys : List α) (acc : List T) (n : Nat) (e : Env), (∀ y ∈ ys, y ∈ xs) → n + ys.length = xs.length → I n e → acc.length = n → (∀ t ∈ acc, P t) → ∃ ts e2, compL own (lcB c elt tg .nil) (ys.map φ) acc e = .ok ts e2 ∧ ts.length = xs.length ∧ (∀ t ∈ ts, P t) ∧ I xs.length e2 := by
    intro ys
    induction ys with
    | nil =>
      intro acc n e _ hn hi ha hp
      refine ⟨acc, e, rfl, by simpa [ha] using hn, hp, ?_⟩
      have : n = xs.length := by simpa using hn
      exact this ▸ hi
    | cons y r ih =>
      intro acc n e hm hn hi ha hp
      have hn' : n + (r.length + 1) = xs.length := by simpa using hn
      obtain ⟨t, e', h1, h2, h3⟩ := hf y (hm y (by simp)) n e (by omega) hi
      rw [List.map_cons, compL, lcB_nil h1]
      exact ih (acc ++ [t]) (n + 1) (wipe own e') (fun z hz => hm z (by simp [hz])) (by omega) h3 (by simp [ha]) (by
        intro u hu
        rw [List.mem_append] at hu
        rcases hu with hu | hu
        · exact hp u hu
        · have : u = t := by simpa using hu
          exact this ▸ h2)
  obtain ⟨ts, e2, h1, h2, h3, h4⟩ := k xs [] 0 (wipe own e1) (fun _ h => h) (by simp) h0 rfl (by simp)
  refine ⟨ts, e2, ?_, h2, h3, h4⟩
  rw [lc_eq, hI]
  show (match compL own (lcB c elt tg .nil) (xs.map φ) [] (wipe own e1) with
    | R.ok ts e2 => R.ok (T.lst ts) (back own e1 e2)
    | _ => R.bad) = _
  rw [h1]
/-- a comprehension whose turns keep an invariant of the names -/
theorem lc_inv (c : Cx) {elt : E} {tg : Tg} {it : I} {own : List Nat} {e e1 : Env} {α : Type} (xs : List α) (φ : α → D) (g : α → T) (I : Env → Prop) (hI : evI c it e = .ok (xs.map φ) e1) (h0 : I (wipe own e1)) (hf : ∀ x ∈ xs, ∀ e, I e → ∃ e', lcB1 c elt tg (φ x) e = .ok (g x) e' ∧ I (wipe own e')) : ∃ e2, ev c (.lc elt tg it .nil own) e = .ok (.lst (xs.map g)) (back own e1 e2) ∧ I e2 := by
  have k : ∀ (ys : List α) (acc : List T) (e : Env), (∀ y ∈ ys, y ∈ xs) → I e → ∃ e2, compL own (lcB c elt tg .nil) (ys.map φ) acc e = .ok (acc ++ ys.map g) e2 ∧ I e2 := by
    intro ys
    induction ys with
    | nil => intro acc e _ hi; exact ⟨e, by simp [compL], hi⟩
    | cons y r ih =>
      intro acc e hm hi
      obtain ⟨e', h1, h2⟩ := hf y (hm y (by simp)) e hi
      obtain ⟨e2, h3, h4⟩ := ih (acc ++ [g y]) (wipe own e') (fun z hz => hm z (by simp [hz])) h2
      refine ⟨e2, ?_, h4⟩
      rw [List.map_cons, compL, lcB_nil h1]
      simp only
      rw [h3]
      simp
  obtain ⟨e2, h1, h2⟩ := k xs [] (wipe own e1) (fun _ h => h) h0
  refine ⟨e2, ?_, h2⟩
  rw [lc_eq, hI]
  show (match compL own (lcB c elt tg .nil) (xs.map φ) [] (wipe own e1) with
    | R.ok ts e2 => R.ok (T.lst ts) (back own e1 e2)
    | _ => R.bad) = _
  rw [h1]
  rfl
/-- two clauses -/
theorem compC_pure {own : List Nat} {f : D → Env → R T} {g : D → T} {e : Env} : ∀ (ds : List D) (acc : List T), acc.length + ds.length ≤ line → (∀ d ∈ ds, ∃ e', f d e = .ok (g d) e' ∧ wipe own e' = e) → compC own f ds acc e = .ok (acc ++ ds.map g) e
  | [], acc, _, _ => by simp [compC]
  | d :: ds, acc, hl, h => by
    obtain ⟨e', h1, h2⟩ := h d (by simp)
    have hl' : acc.length + (ds.length + 1) ≤ line := by simpa using hl
    have k := compC_pure (own := own) (f := f) (g := g) (e := e) ds (acc ++ [g d]) (by simp; omega) fun d' hd => h d' (by simp [hd])
    unfold compC
    rw [h1]
    simp only
    rw [if_pos (by omega), h2, k]
    simp
def lc2B (c : Cx) (elt : E) (tg : Tg) (tg' : Tg) (it' : I) (own' : List Nat) (d : D) (acc : List T) (e2 : Env) : R (List T) := match bindTg c tg d e2 with
  | some e3 => (evI c it' e3).bind fun ds' e4 => compC own' (lcB1 c elt tg') ds' acc (wipe own' e4)
  | none => .bad
theorem lc2_eq (c : Cx) (elt : E) (tg tg' : Tg) (it it' : I) (own own' : List Nat) (e : Env) : ev c (.lc2 elt tg it tg' it' own own') e = (evI c it e).bind fun ds e1 => (match comp2 (own ++ own') (lc2B c elt tg tg' it' own') ds [] (wipe (own ++ own') e1) with
    | .ok ts e2 => .ok (.lst ts) (back (own ++ own') e1 e2)
    | _ => .bad) := by
  rw [ev]; rfl
theorem lc2_pure (c : Cx) {elt : E} {tg tg' : Tg} {it it' : I} {own own' : List Nat} {e e1 : Env} {ds : List D} (ys : D → List D) (g : D → D → T) (W : Env) (hW : wipe (own ++ own') e1 = W) (hI : evI c it e = .ok ds e1) (hl : (ds.flatMap ys).length ≤ line)
    (hf : ∀ d ∈ ds, ∃ e3 e4, bindTg c tg d W = some e3 ∧ evI c it' e3 = .ok (ys d) e4 ∧ wipe (own ++ own') (wipe own' e4) = W ∧ ∀ d' ∈ ys d, ∃ e', lcB1 c elt tg' d' (wipe own' e4) = .ok (g d d') e' ∧ wipe own' e' = wipe own' e4) : ev c (.lc2 elt tg it tg' it' own own') e = .ok (.lst (ds.flatMap fun d => (ys d).map (g d))) (back (own ++ own') e1 W) := by
  have k : ∀ (ds : List D) (acc : List T), acc.length + (ds.flatMap ys).length ≤ line → (∀ d ∈ ds, ∃ e3 e4, bindTg c tg d W = some e3 ∧ evI c it' e3 = .ok (ys d) e4 ∧ wipe (own ++ own') (wipe own' e4) = W ∧ ∀ d' ∈ ys d, ∃ e', lcB1 c elt tg' d' (wipe own' e4) = .ok (g d d') e' ∧ wipe own' e' = wipe own' e4) → comp2 (own ++ own') (lc2B c elt tg tg' it' own') ds acc W = .ok (acc ++ ds.flatMap fun d => (ys d).map (g d)) W := by
    intro ds
    induction ds with
    | nil => intro acc _ _; simp [comp2]
    | cons d r ih =>
      intro acc hl h
      obtain ⟨e3, e4, h1, h2, h3, h4⟩ := h d (by simp)
      have hl' : acc.length + ((ys d).length + (r.flatMap ys).length) ≤ line := by simpa [List.flatMap_cons] using hl
      have q := compC_pure (own := own') (f := lcB1 c elt tg') (g := g d) (e := wipe own' e4) (ys d) acc (by omega) h4
      have q2 : lc2B c elt tg tg' it' own' d acc W = .ok (acc ++ (ys d).map (g d)) (wipe own' e4) := by
        unfold lc2B
        rw [h1]
        show (evI c it' e3).bind (fun ds' e4 => compC own' (lcB1 c elt tg') ds' acc (wipe own' e4)) = _
        rw [h2]
        exact q
      rw [comp2, q2]
      show comp2 (own ++ own') (lc2B c elt tg tg' it' own') r _ (wipe (own ++ own') (wipe own' e4)) = _
      rw [h3, ih _ (by rw [List.length_append, List.length_map]; omega) fun d' hd => h d' (by simp [hd])]
      simp [List.flatMap_cons]
  rw [lc2_eq, hI]
  show (match comp2 (own ++ own') (lc2B c elt tg tg' it' own') ds [] (wipe (own ++ own') e1) with
    | R.ok ts e2 => R.ok (T.lst ts) (back (own ++ own') e1 e2)
    | _ => R.bad) = _
  rw [hW, k ds [] (by simpa using hl) hf]
  rfl
/-! ### loops -/
/-- an invariant that tells what was walked already -/
theorem forL_pre {f : D → Env → S} {α : Type} (φ : α → D) (J : List α → Env → Prop) : ∀ (xs pre : List α) (e : Env), J pre e → (∀ x ∈ xs, ∀ p e, J p e → p.length < pre.length + xs.length → ∃ e', f (φ x) e = .nx e' ∧ J (p ++ [x]) e') → ∃ e', forL f (xs.map φ) e = .nx e' ∧ J (pre ++ xs) e'
  | [], pre, e, h, _ => ⟨e, rfl, by simpa using h⟩
  | x :: xs, pre, e, h, k => by
    obtain ⟨e1, h1, h2⟩ := k x (by simp) pre e h (by simp)
    obtain ⟨e2, h3, h4⟩ := forL_pre φ J xs (pre ++ [x]) e1 h2 fun y hy p e' hj hl => k y (by simp [hy]) p e' hj (by simp at hl ⊢; omega)
    refine ⟨e2, ?_, by simpa using h4⟩
    rw [List.map_cons, forL, h1]
    exact h3
/-- an invariant that counts -/
theorem forL_cnt {f : D → Env → S} (I : Nat → Env → Prop) : ∀ (ds : List D) (n : Nat) (e : Env), I n e → (∀ d ∈ ds, ∀ k e, k < n + ds.length → I k e → ∃ e', f d e = .nx e' ∧ I (k + 1) e') → ∃ e', forL f ds e = .nx e' ∧ I (n + ds.length) e'
  | [], n, e, h, _ => ⟨e, rfl, h⟩
  | d :: ds, n, e, h, k => by
    obtain ⟨e1, h1, h2⟩ := k d (by simp) n e (by simp) h
    obtain ⟨e2, h3, h4⟩ := forL_cnt I ds (n + 1) e1 h2 fun y hy m e' hm hi => k y (by simp [hy]) m e' (by simp at hm ⊢; omega) hi
    refine ⟨e2, ?_, by simpa [Nat.add_assoc, Nat.add_comm 1] using h4⟩
    rw [forL, h1]
    exact h3
/-! ### cuts -/
theorem cut_to {α : Type} (xs : List α) (p : Nat) (h : p ≤ xs.length) : cut xs none (some (p : Int)) = xs.take p := by
  unfold cut
  have h1 : HT.sIx xs.length 0 none = 0 := rfl
  have h2 : HT.sIx xs.length xs.length (some (p : Int)) = p := by
    unfold HT.sIx
    have : ¬ ((p : Int) < 0) := by omega
    simp only [this, if_false, Int.toNat_natCast]
    omega
  rw [h1, h2]
  simp
theorem cut_from {α : Type} (xs : List α) (p : Nat) (h : p ≤ xs.length) : cut xs (some (p : Int)) none = xs.drop p := by
  unfold cut
  have h1 : HT.sIx xs.length xs.length none = xs.length := rfl
  have h2 : HT.sIx xs.length 0 (some (p : Int)) = p := by
    unfold HT.sIx
    have : ¬ ((p : Int) < 0) := by omega
    simp only [this, if_false, Int.toNat_natCast]
    omega
  rw [h1, h2]
  rw [List.take_of_length_le (by simp)]
/-! ### sameness -/
/-- plain data, at most n deep: what the laws' sameness goes along -/
def pl : Nat → D → Bool
  | _, .non => true
  | _, .bl _ => true
  | _, .int _ => true
  | _, .str s => PySem.PyData.strOk s
  | n + 1, .tup xs => xs.all (pl n) && decide (xs.length ≤ line)
  | _, _ => false
theorem sames_rng (f : List D) : ∀ d : List D, f.length = d.length → (sames f d = true ↔ ∀ k, (hk : k < d.length) → (hk' : k < f.length) → same f[k] d[k] = true) := by
  induction f with
  | nil => intro d h; cases d with
    | nil => simp [sames]
    | cons _ _ => simp at h
  | cons x r ih => intro d h; cases d with
    | nil => simp at h
    | cons y s =>
      rw [sames, Bool.and_eq_true, ih s (by simpa using h)]
      constructor
      · rintro ⟨h1, h2⟩ k hk hk'
        cases k with
        | zero => exact h1
        | succ k => exact h2 k (by simpa using hk) (by simpa using hk')
      · intro h1
        exact ⟨h1 0 (by simp) (by simp), fun k hk hk' => h1 (k + 1) (by simpa using hk) (by simpa using hk')⟩
theorem same_len {f d : List D} (h : f.length ≠ d.length) : sames f d = false := by
  induction f generalizing d with
  | nil => cases d with
    | nil => simp at h
    | cons _ _ => rw [sames] <;> simp
  | cons x r ih => cases d with
    | nil => rw [sames] <;> simp
    | cons y s => rw [sames, ih (by simpa using h), Bool.and_false]
theorem same_refl : ∀ (n : Nat) (d : D), pl n d = true → same d d = true
  | n, .non, _ => by rw [same]
  | n, .bl _, _ => by rw [same]; simp
  | n, .int _, _ => by rw [same]; simp
  | n, .str s, h => by rw [same]; simp
  | 0, .tup xs, h => by simp [pl] at h
  | n + 1, .tup xs, h => by
    rw [pl, Bool.and_eq_true, List.all_eq_true] at h
    rw [same]
    replace h := h.1
    induction xs with
    | nil => rw [sames]
    | cons x r ih =>
      rw [sames, same_refl n x (h x (by simp)), ih fun y hy => h y (by simp [hy])]
      rfl
  | n, .lst _, h => by cases n <;> simp [pl] at h
  | n, .rng _ _, h => by cases n <;> simp [pl] at h
  | n, .dic _ _, h => by cases n <;> simp [pl] at h
  | n, .set _, h => by cases n <;> simp [pl] at h
end Mi
end
section
set_option maxRecDepth 100000
set_option maxHeartbeats 0
/-! Mi27: the laws' sameness of all plain data. -/
namespace Mi
def sameG (xs ys : List D) : D → Option T := fun d => match d with
    | .int k => if same ((xs[k.toNat]?).getD .non) ((ys[k.toNat]?).getD .non) then none else some (.leaf (.int k))
    | _ => none
theorem same_lc (i : Nat) (call : Nat → List T → Out) (glob : PySem.Str → Option D) (sub : Nat → Nat → Bool) (xs ys : List D) (hl : xs.length = ys.length) (hy : ys.length ≤ line) (hc : ∀ k (h : k < ys.length) (h' : k < xs.length), call i [.leaf xs[k], .leaf ys[k]] = .ret (.leaf (.bl (same xs[k] ys[k]))) [none, none]) : ev ⟨call, glob, [], sub⟩ (.lc (.get 2) (.nm 2) (.d (.rg (.cons (.bi .len (.cons (.fz 1) .nil)) .nil))) (.cons (.not (.call i (.v (.idx (.fz 0) (.get 2)) (.v (.idx (.fz 1) (.get 2)) .nil)) .nil [.v 0, .v 1])) .nil) [2]) [some (.leaf (.tup xs)), some (.leaf (.tup ys)), none] = .ok (.lst ((((List.range ys.length).map fun i : Nat => D.int (i : Int))).filterMap (sameG xs ys))) [some (.leaf (.tup xs)), some (.leaf (.tup ys)), none] := by
  rw [lc_pure ⟨call, glob, [], sub⟩ (e1 := [some (.leaf (.tup xs)), some (.leaf (.tup ys)), none]) (sameG xs ys)]
  · rfl
  · simp [-R.bind, -R.thn, -S.thn, ↓bind_eq, ↓rthn_eq, ↓sthn_eq, runFn, Fn.start, outsOf, range0, range1, range2, range3, range4, exs, ex, exh, ev, evs, evA, evK, evB, evP, evI, evO, getL, setE, T.at1, T.fz, T.fzs, d2, dLt, dLen, dTy, dIsi, dIs, optR, leafR, blR, onBl, mulOk, takeAr, putAr, bindTg, wipe, back, dc, eqv_int, eqv_bl, eqv_str, D.ok, kN_int, kN_bl, kN_non, db, rngOf_nat hy, dWalk_rng hy]
  · intro d hd
    obtain ⟨k, hk, rfl⟩ := List.mem_map.mp hd
    have hk1 : k < ys.length := List.mem_range.mp hk
    have hk2 : k < xs.length := by omega
    have q := hc k hk1 hk2
    cases b : same xs[k] ys[k] <;> rw [b] at q <;> exact ⟨[some (.leaf (.tup xs)), some (.leaf (.tup ys)), some (.leaf (.int k))], by simp [-R.bind, -R.thn, -S.thn, ↓bind_eq, ↓rthn_eq, ↓sthn_eq, runFn, Fn.start, outsOf, range0, range1, range2, range3, range4, exs, ex, exh, ev, evs, evA, evK, evB, evP, evI, evO, getL, setE, T.at1, T.fz, T.fzs, d2, dLt, dLen, dTy, dIsi, dIs, optR, leafR, blR, onBl, mulOk, takeAr, putAr, bindTg, wipe, back, dc, eqv_int, eqv_bl, eqv_str, D.ok, kN_int, kN_bl, kN_non, lcB, dIx, atI_nat, hk1, hk2, q, sameG, b], rfl⟩
theorem same_emp (xs ys : List D) (hl : xs.length = ys.length) : (T.fzs ((((List.range ys.length).map fun i : Nat => D.int (i : Int))).filterMap (sameG xs ys))).isEmpty = sames xs ys := by
  rw [Bool.eq_iff_iff, sames_rng xs ys hl, fzs_eq, List.isEmpty_iff, List.map_eq_nil_iff, List.filterMap_eq_nil_iff]
  constructor
  · intro h k hk hk'
    have := h (.int k) (List.mem_map.mpr ⟨k, List.mem_range.mpr hk, rfl⟩)
    simp only [sameG, Int.toNat_natCast] at this
    simp only [List.getElem?_eq_getElem hk, List.getElem?_eq_getElem hk', Option.getD_some] at this
    cases q : same xs[k] ys[k] with
    | true => rfl
    | false => simp [q] at this
  · intro h d hd
    obtain ⟨k, hk, rfl⟩ := List.mem_map.mp hd
    have hk1 : k < ys.length := List.mem_range.mp hk
    have hk2 : k < xs.length := by omega
    simp only [sameG, Int.toNat_natCast]
    simp only [List.getElem?_eq_getElem hk1, List.getElem?_eq_getElem hk2, Option.getD_some, h k hk1 hk2, if_true]
theorem same_okn (xs ys : List D) : D.okN 60 (.lst (T.fzs ((((List.range ys.length).map fun i : Nat => D.int (i : Int))).filterMap (sameG xs ys)))) = true := by
  rw [kN_lst, fzs_eq, List.all_eq_true]
  intro d hd
  obtain ⟨t, ht, rfl⟩ := List.mem_map.mp hd
  obtain ⟨d, hd, hg⟩ := List.mem_filterMap.mp ht
  obtain ⟨k, hk, rfl⟩ := List.mem_map.mp hd
  simp only [sameG] at hg
  split at hg
  · cases hg
  · cases hg; exact kN_int _ _
theorem nil_ok : D.okN 60 (.lst []) = true := by rw [kN_lst]; rfl
theorem same_tup0 (i : Nat) (call : Nat → List T → Out) (glob : PySem.Str → Option D) (sub : Nat → Nat → Bool) (xs ys : List D) (hl : xs.length = ys.length) (z : List T) (b : Bool) (hlc : ev ⟨call, glob, [], sub⟩ (.lc (.get 2) (.nm 2) (.d (.rg (.cons (.bi .len (.cons (.fz 1) .nil)) .nil))) (.cons (.not (.call i (.v (.idx (.fz 0) (.get 2)) (.v (.idx (.fz 1) (.get 2)) .nil)) .nil [.v 0, .v 1])) .nil) [2]) [some (.leaf (.tup xs)), some (.leaf (.tup ys)), none] = .ok (.lst z) [some (.leaf (.tup xs)), some (.leaf (.tup ys)), none]) (h1 : (T.fzs z).isEmpty = b) (h2 : D.okN 60 (.lst (T.fzs z)) = true) : runFn call glob sub (sameF i) [.leaf (.tup xs), .leaf (.tup ys)] = .ret (.leaf (.bl b)) [none, none] := by
  simp [-R.bind, -R.thn, -S.thn, ↓bind_eq, ↓rthn_eq, ↓sthn_eq, runFn, Fn.start, outsOf, range0, range1, range2, range3, range4, exs, ex, exh, ev, evs, evA, evK, evB, evP, evI, evO, getL, setE, T.at1, T.fz, T.fzs, d2, dLt, dLen, dTy, dIsi, dIs, optR, leafR, blR, onBl, mulOk, takeAr, putAr, bindTg, wipe, back, dc, eqv_int, eqv_bl, eqv_str, D.ok, kN_int, kN_bl, kN_non, sameF, ↓hlc, h1, h2, nil_ok, eqv_lst_nil, db, hl]
theorem same_tup (i : Nat) (call : Nat → List T → Out) (glob : PySem.Str → Option D) (sub : Nat → Nat → Bool) (xs ys : List D) (hl : xs.length = ys.length) (hy : ys.length ≤ line) (hc : ∀ k (h : k < ys.length) (h' : k < xs.length), call i [.leaf xs[k], .leaf ys[k]] = .ret (.leaf (.bl (same xs[k] ys[k]))) [none, none]) : runFn call glob sub (sameF i) [.leaf (.tup xs), .leaf (.tup ys)] = .ret (.leaf (.bl (sames xs ys))) [none, none] := by
  exact same_tup0 i call glob sub xs ys hl _ _ (same_lc i call glob sub xs ys hl hy hc) (same_emp xs ys hl) (same_okn xs ys)
theorem same_lf (i : Nat) (call : Nat → List T → Out) (glob : PySem.Str → Option D) (sub : Nat → Nat → Bool) (m : Nat) (f d : D) (hd : leafD d = true) (hf : pl m f = true) : runFn call glob sub (sameF i) [.leaf f, .leaf d] = .ret (.leaf (.bl (same f d))) [none, none] := by
  have h : leafD f = true → runFn call glob sub (sameF i) [.leaf f, .leaf d] = .ret (.leaf (.bl (same f d))) [none, none] := fun h => same_leaf i call glob sub f d h hd
  cases f with
  | non => exact h rfl
  | bl _ => exact h rfl
  | int _ => exact h rfl
  | str s => exact h (by cases m <;> exact hf)
  | tup xs => cases d <;> simp [leafD] at hd <;> simp [-R.bind, -R.thn, -S.thn, ↓bind_eq, ↓rthn_eq, ↓sthn_eq, runFn, Fn.start, outsOf, range0, range1, range2, range3, range4, exs, ex, exh, ev, evs, evA, evK, evB, evP, evI, evO, getL, setE, T.at1, T.fz, T.fzs, d2, dLt, dLen, dTy, dIsi, dIs, optR, leafR, blR, onBl, mulOk, takeAr, putAr, bindTg, wipe, back, dc, eqv_int, eqv_bl, eqv_str, D.ok, kN_int, kN_bl, kN_non, sameF, db, D.ok, same]
  | lst _ => cases m <;> simp [pl] at hf
  | rng _ _ => cases m <;> simp [pl] at hf
  | dic _ _ => cases m <;> simp [pl] at hf
  | set _ => cases m <;> simp [pl] at hf
/-- the laws' sameness of plain data -/
theorem same_ok (P : Pg) (i : Nat) (hi : P.fn i = some (sameF i)) : ∀ (n m K : Nat) (f d : D), n < K → pl m f = true → pl n d = true → P.run K i [.leaf f, .leaf d] = .ret (.leaf (.bl (same f d))) [none, none] := by
  intro n
  induction n with
  | zero =>
    intro m K f d hK hf hd
    obtain ⟨K, rfl⟩ : ∃ k, K = k + 1 := ⟨K - 1, by omega⟩
    rw [run_eq hi]
    apply same_lf _ _ _ _ m _ _ _ hf
    cases d <;> first | exact hd | simp [pl] at hd
  | succ n ih =>
    intro m K f d hK hf hd
    obtain ⟨K, rfl⟩ : ∃ k, K = k + 1 := ⟨K - 1, by omega⟩
    rw [run_eq hi]
    cases d with
    | tup ys =>
      rw [pl, Bool.and_eq_true, List.all_eq_true, decide_eq_true_eq] at hd
      cases f with
      | tup xs =>
        cases m with
        | zero => simp [pl] at hf
        | succ m =>
          rw [pl, Bool.and_eq_true, List.all_eq_true, decide_eq_true_eq] at hf
          rw [same]
          by_cases hl : xs.length = ys.length
          · exact same_tup i _ _ _ xs ys hl hd.2 fun k h h' => ih m K _ _ (by omega) (hf.1 _ (List.getElem_mem h')) (hd.1 _ (List.getElem_mem h))
          · rw [same_len hl]
            have hb : ((xs.length : Int) == (ys.length : Int)) = false := by rw [beq_eq_false_iff_ne]; omega
            simp [-R.bind, -R.thn, -S.thn, ↓bind_eq, ↓rthn_eq, ↓sthn_eq, runFn, Fn.start, outsOf, range0, range1, range2, range3, range4, exs, ex, exh, ev, evs, evA, evK, evB, evP, evI, evO, getL, setE, T.at1, T.fz, T.fzs, d2, dLt, dLen, dTy, dIsi, dIs, optR, leafR, blR, onBl, mulOk, takeAr, putAr, bindTg, wipe, back, dc, eqv_int, eqv_bl, eqv_str, D.ok, kN_int, kN_bl, kN_non, sameF, db, hb]
      | lst _ => cases m <;> simp [pl] at hf
      | rng _ _ => cases m <;> simp [pl] at hf
      | dic _ _ => cases m <;> simp [pl] at hf
      | set _ => cases m <;> simp [pl] at hf
      | _ => simp [-R.bind, -R.thn, -S.thn, ↓bind_eq, ↓rthn_eq, ↓sthn_eq, runFn, Fn.start, outsOf, range0, range1, range2, range3, range4, exs, ex, exh, ev, evs, evA, evK, evB, evP, evI, evO, getL, setE, T.at1, T.fz, T.fzs, d2, dLt, dLen, dTy, dIsi, dIs, optR, leafR, blR, onBl, mulOk, takeAr, putAr, bindTg, wipe, back, dc, eqv_int, eqv_bl, eqv_str, D.ok, kN_int, kN_bl, kN_non, sameF, db, D.ok, same]
    | lst _ => simp [pl] at hd
    | rng _ _ => simp [pl] at hd
    | dic _ _ => simp [pl] at hd
    | set _ => simp [pl] at hd
    | _ => exact same_lf _ _ _ _ m _ _ hd hf
end Mi
end
section
set_option maxRecDepth 100000
set_option maxHeartbeats 0
/-! Mi28: draws, tables of what was drawn, statements by their place. -/
namespace Mi
/-! ### statements by their place -/
def Sts.get : Sts → Nat → St
  | .cons s _, 0 => s
  | .cons _ r, n + 1 => r.get n
  | .nil, _ => .pas
def Sts.drop : Sts → Nat → Sts
  | b, 0 => b
  | .cons _ r, n + 1 => r.drop n
  | .nil, _ => .nil
def St.body : St → Sts
  | .fr _ _ b => b
  | .wh _ b => b
  | .ifs _ b _ => b
  | .tr b _ => b
  | _ => .nil
def St.els : St → Sts
  | .ifs _ _ b => b
  | _ => .nil
def St.it : St → I
  | .fr _ i _ => i
  | _ => .d .non
def St.tg : St → Tg
  | .fr t _ _ => t
  | _ => .nm 0
def St.eE : St → E
  | .asg _ e => e
  | .asgT _ e => e
  | .asgC _ e => e
  | .ret e => e
  | .ex e => e
  | .ifs e _ _ => e
  | .aug _ _ e => e
  | .put _ _ _ e => e
  | _ => .non
theorem exs_at (c : Cx) (b : Sts) (k : Nat) (e e1 : Env) (hb : b.drop k = .cons (b.get k) (b.drop (k + 1))) (h : ex c (b.get k) e = .nx e1) : exs c (b.drop k) e = exs c (b.drop (k + 1)) e1 := by
  rw [hb, exs_app, h]
  rfl
theorem exs_rt (c : Cx) (b : Sts) (k : Nat) (e e1 : Env) (t : T) (hb : b.drop k = .cons (b.get k) (b.drop (k + 1))) (h : ex c (b.get k) e = .rt t e1) : exs c (b.drop k) e = .rt t e1 := by
  rw [hb, exs_app, h]
  rfl
theorem exs_end (c : Cx) (e : Env) : exs c .nil e = .nx e := by rw [exs]
noncomputable def frB (c : Cx) (tg : Tg) (b : Sts) (d : D) (e2 : Env) : S := match bindTg c tg d e2 with
  | some e3 => exs c b e3
  | none => .bad
theorem fr_eq (c : Cx) (tg : Tg) (it : I) (b : Sts) (e e1 : Env) (ds : List D) (h : evI c it e = .ok ds e1) : ex c (.fr tg it b) e = forL (frB c tg b) ds e1 := by
  rw [ex, h]
  rfl
theorem run_rt {call : Nat → List T → Out} {glob : PySem.Str → Option D} {sub : Nat → Nat → Bool} {F : Fn} {ts : List T} {t : T} {e : Env} (hn : ts.length = F.n) (h : exs ⟨call, glob, F.io, sub⟩ F.body (F.start ts) = .rt t e) : runFn call glob sub F ts = .ret t (outsOf F e) := by
  unfold runFn
  rw [if_pos hn, h]
/-! ### draws -/
def Draws (call : Nat → List T → Out) (i : Nat) (ns : List Int) : Prop := ∀ a x m : Int, 0 ≤ a → a < 2 ^ 60 → 0 ≤ x → 0 < m → m < 2 ^ 60 → ∃ r a' x' : Int, call i [jug ns a x, .leaf (.int m)] = .ret (.leaf (.int r)) [some (jug ns a' x'), none] ∧ 0 ≤ r ∧ r < m ∧ 0 ≤ a' ∧ a' ≤ a + 1 ∧ 0 ≤ x'
theorem draws_of {P : Pg} {i : Nat} (h : P.fn i = some takeF) (k : Nat) (ns : List Int) : Draws (P.run (k + 1)) i ns := by
  intro a x m ha ha2 hx hm hm2
  rw [run_eq h]
  exact draw_ok (P.run k) P.glob P.sub ns a x m ha ha2 hx hm hm2
/-- a draw of a place -/
theorem Draws.nat {call : Nat → List T → Out} {i : Nat} {ns : List Int} (h : Draws call i ns) (a x : Int) (m : Nat) (ha : 0 ≤ a) (ha2 : a < 2 ^ 60) (hx : 0 ≤ x) (hm : 0 < m) (hm2 : m < 1000000) : ∃ (r : Nat) (a' x' : Int), call i [jug ns a x, .leaf (.int m)] = .ret (.leaf (.int r)) [some (jug ns a' x'), none] ∧ r < m ∧ 0 ≤ a' ∧ a' ≤ a + 1 ∧ 0 ≤ x' := by
  obtain ⟨r, a', x', h1, h2, h3, h4, h5, h6⟩ := h a x m ha ha2 hx (by omega) (by omega)
  refine ⟨r.toNat, a', x', ?_, by omega, h4, h5, h6⟩
  rw [h1, Int.toNat_of_nonneg h2]
/-- what was drawn, as a table -/
theorem tab {β : Type} (P : β → Prop) (mk : β → D) (b0 : β) (h0 : P b0) : ∀ ts : List T, (∀ t ∈ ts, ∃ b, P b ∧ t = .leaf (mk b)) → ∃ φ : Nat → β, (∀ q, P (φ q)) ∧ T.fzs ts = (List.range ts.length).map fun q => mk (φ q)
  | [], _ => ⟨fun _ => b0, fun _ => h0, rfl⟩
  | t :: ts, h => by
    obtain ⟨b, hb, rfl⟩ := h t (by simp)
    obtain ⟨φ, h1, h2⟩ := tab P mk b0 h0 ts fun u hu => h u (by simp [hu])
    refine ⟨fun q => match q with | 0 => b | q + 1 => φ q, fun q => by cases q; exact hb; exact h1 _, ?_⟩
    rw [T.fzs, h2, List.length_cons, List.range_succ_eq_map, List.map_cons, List.map_map]
    rfl
theorem fzs_leafs (ds : List D) : T.fzs (leafs ds) = ds := by
  induction ds with
  | nil => rfl
  | cons d r ih => unfold leafs at ih ⊢; rw [List.map_cons, T.fzs, ih]; rfl
theorem dIx_tup (xs : List D) (i : Int) : dIx (.tup xs) (.int i) = L2.atI xs i := rfl
theorem dIx_lst (xs : List D) (i : Int) : dIx (.lst xs) (.int i) = L2.atI xs i := rfl
/-- one of a list, at a place drawn -/
theorem ix_mem (xs : List D) (r : Nat) (h : r < xs.length) : ∃ d, dIx (.lst xs) (.int (r : Int)) = some d ∧ d ∈ xs := by
  refine ⟨xs[r], ?_, List.getElem_mem h⟩
  rw [dIx_lst, atI_nat, List.getElem?_eq_getElem h]
theorem ix_memT (xs : List D) (r : Nat) (h : r < xs.length) : ∃ d, dIx (.tup xs) (.int (r : Int)) = some d ∧ d ∈ xs := by
  refine ⟨xs[r], ?_, List.getElem_mem h⟩
  rw [dIx_tup, atI_nat, List.getElem?_eq_getElem h]
/-! ### one part of a list changed, by slices -/
def pre (xs : List D) (q : Nat) (x : D) : List D := xs.take q ++ [x]
def rpl (xs : List D) (q : Nat) (x : D) : List D := pre xs q x ++ xs.drop (q + 1)
theorem d2_tup {xs ys : List D} (h : xs.length + ys.length ≤ line) : d2 .add (.tup xs) (.tup ys) = some (.leaf (.tup (xs ++ ys))) := by
  show (if xs.length + ys.length ≤ line then some (T.leaf (.tup (xs ++ ys))) else none) = _
  rw [if_pos h]
theorem pre_ok {xs : List D} {q : Nat} {x : D} (h : xs.length < line) : d2 .add (.tup (xs.take q)) (.tup [x]) = some (.leaf (.tup (pre xs q x))) := by
  rw [d2_tup]
  · rfl
  · rw [List.length_take, List.length_singleton]; omega
theorem rpl_ok {xs : List D} {q : Nat} {x : D} (h : xs.length + xs.length < line) : d2 .add (.tup (pre xs q x)) (.tup (xs.drop (q + 1))) = some (.leaf (.tup (rpl xs q x))) := by
  rw [d2_tup]
  · rfl
  · unfold pre; rw [List.length_append, List.length_take, List.length_drop, List.length_singleton]; omega
theorem sl_to {xs : List D} {q : Nat} (h : q ≤ xs.length) : dSl (.tup xs) none (some (q : Int)) = some (.leaf (.tup (xs.take q))) := by
  show some (T.leaf (.tup (cut xs none (some (q : Int))))) = _
  rw [cut_to xs q h]
theorem sl_from {xs : List D} {q : Nat} (h : q < xs.length) : dSl (.tup xs) (some ((q : Int) + 1)) none = some (.leaf (.tup (xs.drop (q + 1)))) := by
  show some (T.leaf (.tup (cut xs (some ((q : Int) + 1)) none))) = _
  have := cut_from xs (q + 1) (by omega)
  rw [← this]
  rfl
theorem rpl_len {xs : List D} {q : Nat} {x : D} (h : q < xs.length) : (rpl xs q x).length = xs.length := by
  unfold rpl pre
  simp only [List.length_append, List.length_take, List.length_drop, List.length_singleton]
  omega
theorem rpl_mem (xs : List D) (q : Nat) (x : D) : x ∈ rpl xs q x := by unfold rpl pre; simp
theorem rpl_all {xs : List D} {q : Nat} {x : D} {p : D → Bool} (h : ∀ y ∈ xs, p y = true) (hx : p x = true) : ∀ y ∈ rpl xs q x, p y = true := by
  intro y hy
  unfold rpl pre at hy
  simp only [List.mem_append, List.mem_singleton] at hy
  rcases hy with (hy | hy) | hy
  · exact h y (List.mem_of_mem_take hy)
  · exact hy ▸ hx
  · exact h y (List.mem_of_mem_drop hy)
end Mi
end
section
set_option maxRecDepth 100000
set_option maxHeartbeats 0
/-! Mi29: the laws' well: numbers drawn from it. -/
namespace Mi
def wellF : Fn := ⟨1, 2, [],
    (.cons (.ret (.lst (.cons (.lc (.ty .int (.cons (.get 1) .nil)) (.nm 1) (.d (.slc (.fz 0) .no (.so (.int 63)))) .nil [1]) (.cons (.int 0) (.cons (.int 40507) .nil)))))
    .nil)⟩
def drawF : Fn := ⟨2, 5, [0],
    (.cons (.ifs (.bop true (.vcmp .lt 0 (.cons (.int 1) .nil) (.bin .pow (.int 10) (.int 9))) (.cons (.vcmp .ne 0 (.cons (.int 0) .nil) (.lst .nil)) .nil)) (.cons (.asg 2 (.pk 0 (.cons (.int 0) (.cons (.int 0) .nil))))
    (.cons (.put 0 .nil (.int 0) (.psl 0 (.cons (.int 0) .nil) 1))
    (.cons (.asg 3 (.bin .add (.bin .mul (.int 2) (.bi .abs (.cons (.get 2) .nil))) (.ty .int (.cons (.cmp .lt (.get 2) (.int 0)) .nil))))
    (.cons (.ifs (.cmp .ge (.get 3) (.bin .pow (.int 10) (.int 18))) (.cons (.put 0 .nil (.int 1) (.get 3))
    .nil) (.cons (.put 0 .nil (.int 2) (.bin .mod (.ty .int (.cons (.bin .add (.bin .add (.bin .mul (.pk 0 (.cons (.int 2) .nil)) (.int 48271)) (.bin .mul (.get 3) (.int 69621))) (.int 17)) .nil)) (.int 2147483647)))
    .nil))
    .nil)))) .nil)
    (.cons (.ifs (.vcmp .ge 0 (.cons (.int 1) .nil) (.bin .pow (.int 10) (.int 9))) (.cons (.asg 4 (.bin .mod (.ty .int (.cons (.pk 0 (.cons (.int 1) .nil)) .nil)) (.fz 1)))
    (.cons (.put 0 .nil (.int 1) (.bin .fdiv (.pk 0 (.cons (.int 1) .nil)) (.fz 1)))
    (.cons (.ret (.get 4))
    .nil))) .nil)
    (.cons (.put 0 .nil (.int 2) (.bin .mod (.ty .int (.cons (.bin .add (.bin .mul (.pk 0 (.cons (.int 2) .nil)) (.int 39373)) (.int 101)) .nil)) (.int 2147483647)))
    (.cons (.ret (.bin .mod (.ty .int (.cons (.bin .fdiv (.pk 0 (.cons (.int 2) .nil)) (.int 89)) .nil)) (.fz 1)))
    .nil))))⟩
def well (cs : List Int) (a b : Int) : T := .lst [.lst (leafs (cs.map .int)), .leaf (.int a), .leaf (.int b)]
def Well (t : T) : Prop := ∃ cs a b, t = well cs a b ∧ 0 ≤ a ∧ 0 ≤ b ∧ b < 2147483647
theorem p10 (n : Nat) (h : n ≤ 1000) : d2 .pow (.int 10) (.int n) = some (.leaf (.int (10 ^ n))) := by
  have h10 : (10 : Int).natAbs < 2 ^ 1000 := by
    have h3 : (2 : Nat) ^ 4 ≤ 2 ^ 1000 := Nat.pow_le_pow_right (by decide) (by decide)
    have : (10 : Int).natAbs = 10 := rfl
    omega
  show (if 0 ≤ (n : Int) ∧ (n : Int) ≤ 1000 ∧ (10 : Int).natAbs < 2 ^ 1000 then some (T.leaf (.int (10 ^ (n : Int).toNat))) else none) = _
  rw [if_pos ⟨by omega, by omega, h10⟩, Int.toNat_natCast]
theorem p10_9 : d2 .pow (.int 10) (.int 9) = some (.leaf (.int 1000000000)) := p10 9 (by omega)
theorem p10_18 : d2 .pow (.int 10) (.int 18) = some (.leaf (.int 1000000000000000000)) := p10 18 (by omega)
theorem mul_ok {i j : Int} (h : i.natAbs < 2 ^ 64 ∨ j.natAbs < 2 ^ 64) : d2 .mul (.int i) (.int j) = some (.leaf (.int (i * j))) := by
  show (if mulOk i j then some (T.leaf (.int (i * j))) else none) = _
  rw [if_pos]
  unfold mulOk
  rcases h with h | h <;> simp [h]
theorem add_int (i j : Int) : d2 .add (.int i) (.int j) = some (.leaf (.int (i + j))) := rfl
theorem mod_int {i j : Int} (h : 0 < j) : d2 .mod (.int i) (.int j) = some (.leaf (.int (i % j))) := by
  show (if 0 < j then some (T.leaf (.int (i % j))) else none) = _
  rw [if_pos h]
theorem fdiv_int {i j : Int} (h : 0 < j) (h2 : j.natAbs < 2 ^ 64) : d2 .fdiv (.int i) (.int j) = some (.leaf (.int (i / j))) := by
  show (if 0 < j ∧ j.natAbs < 2 ^ 4000 then some (T.leaf (.int (i / j))) else none) = _
  have h3 : (2 : Nat) ^ 64 ≤ 2 ^ 4000 := Nat.pow_le_pow_right (by decide) (by decide)
  rw [if_pos ⟨h, Nat.lt_of_lt_of_le h2 h3⟩]
theorem ints_ok (cs : List Int) (n : Nat) : D.okN (n + 1) (.lst (cs.map .int)) = true := by
  rw [kN_lst, List.all_eq_true]
  intro d hd
  obtain ⟨i, _, rfl⟩ := List.mem_map.mp hd
  exact kN_int _ _
theorem eqv_lst_cons (x : D) (xs : List D) : D.eqv (.lst (x :: xs)) (.lst []) = false := by rw [eqv_lst_nil]; rfl
theorem unl_leafs (ds : List D) : unl (leafs ds) = some ds := by
  induction ds with
  | nil => rfl
  | cons d r ih => unfold leafs at ih ⊢; rw [List.map_cons, unl, ih]; rfl
def wgt (c : Int) : Int := 2 * (if c < 0 then -c else c) + (if c < 0 then 1 else 0)
theorem wgt_nn (c : Int) : 0 ≤ wgt c := by unfold wgt; split <;> omega
theorem draw1 (c : Cx) (hio : c.io = [0]) (cs : List Int) (a b : Int) (m : T) (ha : 0 ≤ a) (hb : 0 ≤ b) (hb2 : b < 2147483647) : ∃ cs' a' b' v2 v3, ex c (drawF.body.get 0) [some (well cs a b), some m, none, none, none] = .nx [some (well cs' a' b'), some m, v2, v3, none] ∧ 0 ≤ a' ∧ 0 ≤ b' ∧ b' < 2147483647 := by
  by_cases h : a < 1000000000
  · cases cs with
    | nil =>
      refine ⟨[], a, b, none, none, ?_, ha, hb, hb2⟩
      have z : D.eqv (.lst []) (.lst []) = true := eqv_lst_nil []
      simp [-R.bind, -R.thn, -S.thn, ↓bind_eq, ↓rthn_eq, ↓sthn_eq, runFn, Fn.start, outsOf, range0, range1, range2, range3, range4, exs, ex, exh, ev, evs, evA, evK, evB, evP, evI, evO, getL, setE, T.at1, T.fz, T.fzs, dLt, dLen, dIsi, dIs, optR, leafR, blR, onBl, mulOk, takeAr, putAr, bindTg, wipe, back, dc, eqv_int, eqv_bl, eqv_str, D.ok, kN_int, kN_bl, kN_non, hio, drawF, Sts.get, well, p10_9, h, L2.atI, L2.ixN, fzs_leafs, nil_ok, z]
    | cons x r =>
      have z := eqv_lst_cons (.int x) (r.map .int)
      have nok' : D.okN 60 (.lst (D.int x :: r.map .int)) = true := ints_ok (x :: r) 59
      have e1 : dIx (.lst (D.int x :: r.map .int)) (.int 0) = some (.int x) := by rw [dIx_lst]; simp [L2.atI, L2.ixN]
      have e2' : cut (D.int x :: r.map .int) (some 1) none = r.map .int := by
        have := cut_from (D.int x :: r.map .int) 1 (by simp)
        rw [show (some (1 : Int)) = some ((1 : Nat) : Int) from rfl, this]
        rfl
      have e9 : unl (leafs (D.int x :: r.map .int)) = some (D.int x :: r.map .int) := unl_leafs _
      have f1 : (leafs (D.int x :: r.map .int)).length = r.length + 1 := by simp [leafs]
      have f2 : ∀ h, (leafs (D.int x :: r.map .int))[0]'h = .leaf (.int x) := fun _ => rfl
      have k0 : ev c (drawF.body.get 0).eE [some (well (x :: r) a b), some m, none, none, none] = .ok (.leaf (.bl true)) [some (well (x :: r) a b), some m, none, none, none] := by
        simp [-R.bind, -R.thn, -S.thn, ↓bind_eq, ↓rthn_eq, ↓sthn_eq, runFn, Fn.start, outsOf, range0, range1, range2, range3, range4, exs, ex, exh, ev, evs, evA, evK, evB, evP, evI, evO, getL, setE, T.at1, T.fz, T.fzs, dLt, dLen, dIsi, dIs, optR, leafR, blR, onBl, mulOk, takeAr, putAr, bindTg, wipe, back, dc, eqv_int, eqv_bl, eqv_str, D.ok, kN_int, kN_bl, kN_non, hio, drawF, Sts.get, St.eE, well, p10_9, h, L2.atI, L2.ixN, fzs_leafs, nil_ok, z, nok']
      have k1 : ex c ((drawF.body.get 0).body.get 0) [some (well (x :: r) a b), some m, none, none, none] = .nx [some (well (x :: r) a b), some m, some (.leaf (.int x)), none, none] := by
        simp [-R.bind, -R.thn, -S.thn, ↓bind_eq, ↓rthn_eq, ↓sthn_eq, runFn, Fn.start, outsOf, range0, range1, range2, range3, range4, exs, ex, exh, ev, evs, evA, evK, evB, evP, evI, evO, getL, setE, T.at1, T.fz, T.fzs, dLt, dLen, dIsi, dIs, optR, leafR, blR, onBl, mulOk, takeAr, putAr, bindTg, wipe, back, dc, eqv_int, eqv_bl, eqv_str, D.ok, kN_int, kN_bl, kN_non, hio, drawF, Sts.get, St.body, well, L2.atI, L2.ixN, f1, f2]
      have k2 : ex c ((drawF.body.get 0).body.get 1) [some (well (x :: r) a b), some m, some (.leaf (.int x)), none, none] = .nx [some (well r a b), some m, some (.leaf (.int x)), none, none] := by
        simp [-R.bind, -R.thn, -S.thn, ↓bind_eq, ↓rthn_eq, ↓sthn_eq, runFn, Fn.start, outsOf, range0, range1, range2, range3, range4, exs, ex, exh, ev, evs, evA, evK, evB, evP, evI, evO, getL, setE, T.at1, T.fz, T.fzs, dLt, dLen, dIsi, dIs, optR, leafR, blR, onBl, mulOk, takeAr, putAr, bindTg, wipe, back, dc, eqv_int, eqv_bl, eqv_str, D.ok, kN_int, kN_bl, kN_non, hio, drawF, Sts.get, St.body, well, L2.atI, L2.ixN, e9, e2', putSem, T.mod, fzs_leafs]
      have k3 : ex c ((drawF.body.get 0).body.get 2) [some (well r a b), some m, some (.leaf (.int x)), none, none] = .nx [some (well r a b), some m, some (.leaf (.int x)), some (.leaf (.int (wgt x))), none] := by
        by_cases hx : x < 0
        · have w : wgt x = 2 * (-x) + 1 := by unfold wgt; rw [if_pos hx, if_pos hx]
          have e6 : d2 .mul (.int 2) (.int (-x)) = some (.leaf (.int (2 * (-x)))) := mul_ok (.inl (by decide))
          have e7 : db .abs [.int x] = some (.leaf (.int (-x))) := by show some (T.leaf (.int (if x < 0 then -x else x))) = _; rw [if_pos hx]
          have e8 : dTy .int [.bl true] = some (.leaf (.int 1)) := rfl
          rw [w]
          generalize 2 * (-x) = z at e6
          simp [-R.bind, -R.thn, -S.thn, ↓bind_eq, ↓rthn_eq, ↓sthn_eq, runFn, Fn.start, outsOf, range0, range1, range2, range3, range4, exs, ex, exh, ev, evs, evA, evK, evB, evP, evI, evO, getL, setE, T.at1, T.fz, T.fzs, dLt, dLen, dIsi, dIs, optR, leafR, blR, onBl, mulOk, takeAr, putAr, bindTg, wipe, back, dc, eqv_int, eqv_bl, eqv_str, D.ok, kN_int, kN_bl, kN_non, hio, drawF, Sts.get, St.body, e6, e7, e8, add_int, hx]
        · have w : wgt x = 2 * x + 0 := by unfold wgt; rw [if_neg hx, if_neg hx]
          have e6 : d2 .mul (.int 2) (.int x) = some (.leaf (.int (2 * x))) := mul_ok (.inl (by decide))
          have e7 : db .abs [.int x] = some (.leaf (.int x)) := by show some (T.leaf (.int (if x < 0 then -x else x))) = _; rw [if_neg hx]
          have e8 : dTy .int [.bl false] = some (.leaf (.int 0)) := rfl
          rw [w]
          generalize 2 * x = z at e6
          simp [-R.bind, -R.thn, -S.thn, ↓bind_eq, ↓rthn_eq, ↓sthn_eq, runFn, Fn.start, outsOf, range0, range1, range2, range3, range4, exs, ex, exh, ev, evs, evA, evK, evB, evP, evI, evO, getL, setE, T.at1, T.fz, T.fzs, dLt, dLen, dIsi, dIs, optR, leafR, blR, onBl, mulOk, takeAr, putAr, bindTg, wipe, back, dc, eqv_int, eqv_bl, eqv_str, D.ok, kN_int, kN_bl, kN_non, hio, drawF, Sts.get, St.body, e6, e7, e8, add_int, hx]
      have go : ∀ e', ex c ((drawF.body.get 0).body.get 3) [some (well r a b), some m, some (.leaf (.int x)), some (.leaf (.int (wgt x))), none] = .nx e' → ex c (drawF.body.get 0) [some (well (x :: r) a b), some m, none, none, none] = .nx e' := by
        intro e' k4
        show ex c (.ifs (drawF.body.get 0).eE (drawF.body.get 0).body (drawF.body.get 0).els) _ = _
        rw [ex, k0]
        show exs c ((drawF.body.get 0).body.drop 0) _ = _
        rw [exs_at c _ 0 _ _ rfl k1, exs_at c _ 1 _ _ rfl k2, exs_at c _ 2 _ _ rfl k3, exs_at c _ 3 _ _ rfl k4]
        exact exs_end _ _
      by_cases hw : 1000000000000000000 ≤ wgt x
      · refine ⟨r, wgt x, b, some (.leaf (.int x)), some (.leaf (.int (wgt x))), go _ ?_, wgt_nn x, hb, hb2⟩
        simp [-R.bind, -R.thn, -S.thn, ↓bind_eq, ↓rthn_eq, ↓sthn_eq, runFn, Fn.start, outsOf, range0, range1, range2, range3, range4, exs, ex, exh, ev, evs, evA, evK, evB, evP, evI, evO, getL, setE, T.at1, T.fz, T.fzs, dLt, dLen, dIsi, dIs, optR, leafR, blR, onBl, mulOk, takeAr, putAr, bindTg, wipe, back, dc, eqv_int, eqv_bl, eqv_str, D.ok, kN_int, kN_bl, kN_non, hio, drawF, Sts.get, St.body, well, p10_18, hw, L2.ixN, putSem, T.mod]
      · refine ⟨r, a, (b * 48271 + wgt x * 69621 + 17) % 2147483647, some (.leaf (.int x)), some (.leaf (.int (wgt x))), go _ ?_, ha, Int.emod_nonneg _ (by decide), Int.emod_lt_of_pos _ (by decide)⟩
        have m1 : d2 .mul (.int b) (.int 48271) = some (.leaf (.int (b * 48271))) := mul_ok (.inr (by decide))
        have m2 : d2 .mul (.int (wgt x)) (.int 69621) = some (.leaf (.int (wgt x * 69621))) := mul_ok (.inr (by decide))
        have m3 := fun z => mod_int (i := z) (j := 2147483647) (by decide)
        have m4 := fun z : Int => (show dTy .int [.int z] = some (.leaf (.int z)) from rfl)
        simp [-R.bind, -R.thn, -S.thn, ↓bind_eq, ↓rthn_eq, ↓sthn_eq, runFn, Fn.start, outsOf, range0, range1, range2, range3, range4, exs, ex, exh, ev, evs, evA, evK, evB, evP, evI, evO, getL, setE, T.at1, T.fz, T.fzs, dLt, dLen, dIsi, dIs, optR, leafR, blR, onBl, mulOk, takeAr, putAr, bindTg, wipe, back, dc, eqv_int, eqv_bl, eqv_str, D.ok, kN_int, kN_bl, kN_non, hio, drawF, Sts.get, St.body, well, p10_18, hw, L2.atI, L2.ixN, putSem, T.mod, add_int, m1, m2, m3, m4]
  · refine ⟨cs, a, b, none, none, ?_, ha, hb, hb2⟩
    simp [-R.bind, -R.thn, -S.thn, ↓bind_eq, ↓rthn_eq, ↓sthn_eq, runFn, Fn.start, outsOf, range0, range1, range2, range3, range4, exs, ex, exh, ev, evs, evA, evK, evB, evP, evI, evO, getL, setE, T.at1, T.fz, T.fzs, dLt, dLen, dIsi, dIs, optR, leafR, blR, onBl, mulOk, takeAr, putAr, bindTg, wipe, back, dc, eqv_int, eqv_bl, eqv_str, D.ok, kN_int, kN_bl, kN_non, hio, drawF, Sts.get, well, p10_9, h, L2.atI, L2.ixN]
theorem draw2 (c : Cx) (hio : c.io = [0]) (cs : List Int) (a b m : Int) (v2 v3 : Option T) (ha : 0 ≤ a) (hb : 0 ≤ b) (hb2 : b < 2147483647) (hm : 0 < m) (hm2 : m < 2 ^ 60) : ∃ r a' b' v4, exs c (drawF.body.drop 1) [some (well cs a b), some (.leaf (.int m)), v2, v3, none] = .rt (.leaf (.int r)) [some (well cs a' b'), some (.leaf (.int m)), v2, v3, v4] ∧ 0 ≤ r ∧ r < m ∧ 0 ≤ a' ∧ 0 ≤ b' ∧ b' < 2147483647 := by
  have m3 := fun z => mod_int (i := z) (j := 2147483647) (by decide)
  have m4 := fun z : Int => (show dTy .int [.int z] = some (.leaf (.int z)) from rfl)
  have m5 := fun z => mod_int (i := z) (j := m) hm
  have m6 := fun z => fdiv_int (i := z) (j := m) hm (by omega)
  have m7 := fun z => fdiv_int (i := z) (j := 89) (by decide) (by decide)
  by_cases h : 1000000000 ≤ a
  · refine ⟨a % m, a / m, b, some (.leaf (.int (a % m))), ?_, Int.emod_nonneg _ (by omega), Int.emod_lt_of_pos _ hm, Int.ediv_nonneg ha (by omega), hb, hb2⟩
    have k : ex c (drawF.body.get 1) [some (well cs a b), some (.leaf (.int m)), v2, v3, none] = .rt (.leaf (.int (a % m))) [some (well cs (a / m) b), some (.leaf (.int m)), v2, v3, some (.leaf (.int (a % m)))] := by
      simp [-R.bind, -R.thn, -S.thn, ↓bind_eq, ↓rthn_eq, ↓sthn_eq, runFn, Fn.start, outsOf, range0, range1, range2, range3, range4, exs, ex, exh, ev, evs, evA, evK, evB, evP, evI, evO, getL, setE, T.at1, T.fz, T.fzs, dLt, dLen, dIsi, dIs, optR, leafR, blR, onBl, mulOk, takeAr, putAr, bindTg, wipe, back, dc, eqv_int, eqv_bl, eqv_str, D.ok, kN_int, kN_bl, kN_non, hio, drawF, Sts.get, well, p10_9, h, L2.atI, L2.ixN, putSem, T.mod, m4, m5, m6]
    exact exs_rt c _ 1 _ _ _ rfl k
  · let b' := (b * 39373 + 101) % 2147483647
    refine ⟨(b' / 89) % m, a, b', none, ?_, Int.emod_nonneg _ (by omega), Int.emod_lt_of_pos _ hm, ha, Int.emod_nonneg _ (by decide), Int.emod_lt_of_pos _ (by decide)⟩
    have m1 : d2 .mul (.int b) (.int 39373) = some (.leaf (.int (b * 39373))) := mul_ok (.inr (by decide))
    have k1 : ex c (drawF.body.get 1) [some (well cs a b), some (.leaf (.int m)), v2, v3, none] = .nx [some (well cs a b), some (.leaf (.int m)), v2, v3, none] := by
      simp [-R.bind, -R.thn, -S.thn, ↓bind_eq, ↓rthn_eq, ↓sthn_eq, runFn, Fn.start, outsOf, range0, range1, range2, range3, range4, exs, ex, exh, ev, evs, evA, evK, evB, evP, evI, evO, getL, setE, T.at1, T.fz, T.fzs, dLt, dLen, dIsi, dIs, optR, leafR, blR, onBl, mulOk, takeAr, putAr, bindTg, wipe, back, dc, eqv_int, eqv_bl, eqv_str, D.ok, kN_int, kN_bl, kN_non, hio, drawF, Sts.get, well, p10_9, h, L2.atI, L2.ixN]
    have k2 : ex c (drawF.body.get 2) [some (well cs a b), some (.leaf (.int m)), v2, v3, none] = .nx [some (well cs a b'), some (.leaf (.int m)), v2, v3, none] := by
      simp [-R.bind, -R.thn, -S.thn, ↓bind_eq, ↓rthn_eq, ↓sthn_eq, runFn, Fn.start, outsOf, range0, range1, range2, range3, range4, exs, ex, exh, ev, evs, evA, evK, evB, evP, evI, evO, getL, setE, T.at1, T.fz, T.fzs, dLt, dLen, dIsi, dIs, optR, leafR, blR, onBl, mulOk, takeAr, putAr, bindTg, wipe, back, dc, eqv_int, eqv_bl, eqv_str, D.ok, kN_int, kN_bl, kN_non, hio, drawF, Sts.get, well, L2.atI, L2.ixN, putSem, T.mod, m1, m3, m4, add_int, b']
    clear_value b'
    have k3 : ex c (drawF.body.get 3) [some (well cs a b'), some (.leaf (.int m)), v2, v3, none] = .rt (.leaf (.int ((b' / 89) % m))) [some (well cs a b'), some (.leaf (.int m)), v2, v3, none] := by
      simp [-R.bind, -R.thn, -S.thn, ↓bind_eq, ↓rthn_eq, ↓sthn_eq, runFn, Fn.start, outsOf, range0, range1, range2, range3, range4, exs, ex, exh, ev, evs, evA, evK, evB, evP, evI, evO, getL, setE, T.at1, T.fz, T.fzs, dLt, dLen, dIsi, dIs, optR, leafR, blR, onBl, mulOk, takeAr, putAr, bindTg, wipe, back, dc, eqv_int, eqv_bl, eqv_str, D.ok, kN_int, kN_bl, kN_non, hio, drawF, Sts.get, well, L2.atI, L2.ixN, m4, m5, m7]
    rw [exs_at c _ 1 _ _ rfl k1, exs_at c _ 2 _ _ rfl k2, exs_rt c _ 3 _ _ _ rfl k3]
/-- draws from a well -/
def WDraws (call : Nat → List T → Out) (i : Nat) : Prop := ∀ (t : T) (m : Int), Well t → 0 < m → m < 2 ^ 60 → ∃ r t', call i [t, .leaf (.int m)] = .ret (.leaf (.int r)) [some t', none] ∧ 0 ≤ r ∧ r < m ∧ Well t'
theorem wdraws_of {P : Pg} {i : Nat} (h : P.fn i = some drawF) (k : Nat) : WDraws (P.run (k + 1)) i := by
  rintro t m ⟨cs, a, b, rfl, ha, hb, hb2⟩ hm hm2
  rw [run_eq h]
  obtain ⟨cs', a', b', v2, v3, e1, g1, g2, g3⟩ := draw1 ⟨P.run k, P.glob, [0], P.sub⟩ rfl cs a b (.leaf (.int m)) ha hb hb2
  obtain ⟨r, a2, b2, v4, e2, g4, g5, g6, g7, g8⟩ := draw2 ⟨P.run k, P.glob, [0], P.sub⟩ rfl cs' a' b' m v2 v3 g1 g2 g3 hm hm2
  refine ⟨r, well cs' a2 b2, ?_, g4, g5, cs', a2, b2, rfl, g6, g7, g8⟩
  have := run_rt (call := P.run k) (glob := P.glob) (sub := P.sub) (F := drawF) (ts := [well cs a b, .leaf (.int m)]) (t := .leaf (.int r)) (e := [some (well cs' a2 b2), some (.leaf (.int m)), v2, v3, v4]) rfl (by
    show exs ⟨P.run k, P.glob, [0], P.sub⟩ (drawF.body.drop 0) [some (well cs a b), some (.leaf (.int m)), none, none, none] = _
    rw [exs_at _ _ 0 _ _ rfl e1]
    exact e2)
  rw [this]; rfl
theorem WDraws.nat {call : Nat → List T → Out} {i : Nat} (h : WDraws call i) (t : T) (m : Nat) (ht : Well t) (hm : 0 < m) (hm2 : m < 1000000) : ∃ (r : Nat) (t' : T), call i [t, .leaf (.int m)] = .ret (.leaf (.int r)) [some t', none] ∧ r < m ∧ Well t' := by
  obtain ⟨r, t', h1, h2, h3, h4⟩ := h t m ht (by omega) (by omega)
  refine ⟨r.toNat, t', ?_, by omega, h4⟩
  rw [h1, Int.toNat_of_nonneg h2]
/-- the well of a script -/
theorem well_ok (call : Nat → List T → Out) (glob : PySem.Str → Option D) (sub : Nat → Nat → Bool) (ns : List Int) (hl : ns.length ≤ 63) : runFn call glob sub wellF (scrT ns) = .ret (well ns 0 40507) [none] := by
  have e1 : dSl (.lst (ns.map .int)) none (some 63) = some (.lst (leafs (ns.map .int))) := by
    show some (T.lst (leafs (cut (ns.map D.int) none (some 63)))) = _
    have e : cut (ns.map D.int) none (some 63) = ns.map D.int := by
      unfold cut
      have h1 : HT.sIx (ns.map D.int).length 0 none = 0 := rfl
      have h2 : HT.sIx (ns.map D.int).length (ns.map D.int).length (some 63) = ns.length := by
        unfold HT.sIx
        have : ¬ ((63 : Int) < 0) := by decide
        simp only [this, if_false, List.length_map]
        omega
      rw [h1, h2]
      exact List.take_of_length_le (by simp)
    rw [e]
  have l1 : ev ⟨call, glob, [], sub⟩ (.lc (.ty .int (.cons (.get 1) .nil)) (.nm 1) (.d (.slc (.fz 0) .no (.so (.int 63)))) .nil [1]) [some (.leaf (.lst (ns.map .int))), none] = .ok (.lst (ns.map fun i => .leaf (.int i))) [some (.leaf (.lst (ns.map .int))), none] := by
    rw [lc_map ⟨call, glob, [], sub⟩ (e1 := [some (.leaf (.lst (ns.map .int))), none]) ns D.int fun i => .leaf (.int i)]
    · rfl
    · simp [-R.bind, -R.thn, -S.thn, ↓bind_eq, ↓rthn_eq, ↓sthn_eq, runFn, Fn.start, outsOf, range0, range1, range2, range3, range4, exs, ex, exh, ev, evs, evA, evK, evB, evP, evI, evO, getL, setE, T.at1, T.fz, T.fzs, d2, dLt, dLen, dTy, dIsi, dIs, optR, leafR, blR, onBl, mulOk, takeAr, putAr, bindTg, wipe, back, dc, eqv_int, eqv_bl, eqv_str, D.ok, kN_int, kN_bl, kN_non, e1, fzs_leafs, dWalk]
    · intro i _
      exact ⟨[some (.leaf (.lst (ns.map .int))), some (.leaf (.int i))], by simp [-R.bind, -R.thn, -S.thn, ↓bind_eq, ↓rthn_eq, ↓sthn_eq, runFn, Fn.start, outsOf, range0, range1, range2, range3, range4, exs, ex, exh, ev, evs, evA, evK, evB, evP, evI, evO, getL, setE, T.at1, T.fz, T.fzs, d2, dLt, dLen, dTy, dIsi, dIs, optR, leafR, blR, onBl, mulOk, takeAr, putAr, bindTg, wipe, back, dc, eqv_int, eqv_bl, eqv_str, D.ok, kN_int, kN_bl, kN_non, lcB1], rfl⟩
  have e2 : (ns.map fun i => T.leaf (.int i)) = leafs (ns.map .int) := by simp [leafs]
  rw [e2] at l1
  simp [-R.bind, -R.thn, -S.thn, ↓bind_eq, ↓rthn_eq, ↓sthn_eq, runFn, Fn.start, outsOf, range0, range1, range2, range3, range4, exs, ex, exh, ev, evs, evA, evK, evB, evP, evI, evO, getL, setE, T.at1, T.fz, T.fzs, d2, dLt, dLen, dTy, dIsi, dIs, optR, leafR, blR, onBl, mulOk, takeAr, putAr, bindTg, wipe, back, dc, eqv_int, eqv_bl, eqv_str, D.ok, kN_int, kN_bl, kN_non, wellF, scrT, ↓l1, well]
end Mi
end
section
set_option maxRecDepth 100000
set_option maxHeartbeats 0
/-! Mx1: classes and matrices of them as plain mathematics: numbers from -1 to 3, going on, least over ways. -/
namespace Mx
def onF (x y : Int) : Int := if x = 3 ∨ y = 3 then 3 else if x = 2 ∨ y = 2 then 2 else if x = -1 ∨ y = -1 then -1 else if y > x then y else x
def lawF (x y : Int) : Int := if x ≤ y then (if 2 ≤ y then y else if x = -1 then -1 else y) else (if 2 ≤ x then x else if y = -1 then -1 else x)
def In (x : Int) : Prop := -1 ≤ x ∧ x ≤ 3
theorem cs {x : Int} (h : In x) : x = -1 ∨ x = 0 ∨ x = 1 ∨ x = 2 ∨ x = 3 := by unfold In at h; omega
theorem onF_in {x y : Int} (hx : In x) (hy : In y) : In (onF x y) := by
  unfold In onF at *
  split <;> (try split) <;> (try split) <;> (try split) <;> omega
theorem onF_assoc {x y z : Int} (hx : In x) (hy : In y) (hz : In z) : onF (onF x y) z = onF x (onF y z) := by
  rcases cs hx with rfl | rfl | rfl | rfl | rfl <;> rcases cs hy with rfl | rfl | rfl | rfl | rfl <;> rcases cs hz with rfl | rfl | rfl | rfl | rfl <;> decide
theorem onF_monoR {x y z : Int} (hx : In x) (hy : In y) (hz : In z) (h : y ≤ z) : onF x y ≤ onF x z := by
  rcases cs hx with rfl | rfl | rfl | rfl | rfl <;> rcases cs hy with rfl | rfl | rfl | rfl | rfl <;> rcases cs hz with rfl | rfl | rfl | rfl | rfl <;> revert h <;> decide
theorem onF_monoL {x y z : Int} (hx : In x) (hy : In y) (hz : In z) (h : y ≤ z) : onF y x ≤ onF z x := by
  rcases cs hx with rfl | rfl | rfl | rfl | rfl <;> rcases cs hy with rfl | rfl | rfl | rfl | rfl <;> rcases cs hz with rfl | rfl | rfl | rfl | rfl <;> revert h <;> decide
theorem onF_law {x y : Int} (hx : In x) (hy : In y) : onF x y = lawF x y := by
  rcases cs hx with rfl | rfl | rfl | rfl | rfl <;> rcases cs hy with rfl | rfl | rfl | rfl | rfl <;> decide
theorem onF_0 {x : Int} (hx : In x) : onF 0 x = x ∧ onF x 0 = x := by
  rcases cs hx with rfl | rfl | rfl | rfl | rfl <;> decide
theorem onF_3 (x : Int) : onF 3 x = 3 ∧ onF x 3 = 3 := by simp [onF]
/-! ### the least of some -/
theorem fold_le (xs : List Int) : ∀ a : Int, xs.foldl min a ≤ a ∧ ∀ x ∈ xs, xs.foldl min a ≤ x := by
  induction xs with
  | nil => intro a; simp
  | cons y r ih =>
    intro a
    obtain ⟨h1, h2⟩ := ih (min a y)
    simp only [List.foldl_cons]
    refine ⟨by omega, fun x hx => ?_⟩
    rcases List.mem_cons.mp hx with rfl | hx
    · omega
    · exact h2 x hx
theorem fold_mem (xs : List Int) : ∀ a : Int, xs.foldl min a = a ∨ xs.foldl min a ∈ xs := by
  induction xs with
  | nil => intro a; simp
  | cons y r ih =>
    intro a
    simp only [List.foldl_cons]
    rcases ih (min a y) with h | h
    · by_cases q : a ≤ y
      · left; rw [h]; omega
      · right; rw [h]
        have : min a y = y := by omega
        rw [this]; simp
    · right; exact List.mem_cons_of_mem _ h
def low (n : Nat) (φ : Nat → Int) : Int := Mi.minL ((List.range n).map φ)
theorem low_le {n : Nat} {φ : Nat → Int} {r : Nat} (h : r < n) : low n φ ≤ φ r := by
  unfold low
  have hm : φ r ∈ (List.range n).map φ := List.mem_map.mpr ⟨r, List.mem_range.mpr h, rfl⟩
  cases q : (List.range n).map φ with
  | nil => rw [q] at hm; simp at hm
  | cons x xs =>
    rw [q] at hm
    unfold Mi.minL
    rcases List.mem_cons.mp hm with e | hm
    · rw [e]; exact (fold_le xs x).1
    · exact (fold_le xs x).2 _ hm
theorem low_is {n : Nat} (φ : Nat → Int) (h : 0 < n) : ∃ r, r < n ∧ low n φ = φ r := by
  have hm : low n φ ∈ (List.range n).map φ := by
    unfold low
    cases q : (List.range n).map φ with
    | nil => have := congrArg List.length q; simp at this; omega
    | cons x xs =>
      show xs.foldl min x ∈ x :: xs
      rcases fold_mem xs x with e | e
      · rw [e]; simp
      · exact List.mem_cons_of_mem _ e
  obtain ⟨r, h1, h2⟩ := List.mem_map.mp hm
  exact ⟨r, List.mem_range.mp h1, h2.symm⟩
theorem low_eq {n : Nat} {φ : Nat → Int} {z : Int} (h1 : ∀ r, r < n → z ≤ φ r) (h2 : ∃ r, r < n ∧ φ r = z) : low n φ = z := by
  obtain ⟨r, hr, e⟩ := h2
  obtain ⟨s, hs, e2⟩ := low_is φ (by omega : 0 < n)
  have := h1 s hs
  have := low_le (φ := φ) hr
  omega
theorem low_ge {n : Nat} {φ : Nat → Int} {z : Int} (h : 0 < n) (h1 : ∀ r, r < n → z ≤ φ r) : z ≤ low n φ := by
  obtain ⟨s, hs, e2⟩ := low_is φ h
  rw [e2]; exact h1 s hs
theorem low_congr {n : Nat} {φ ψ : Nat → Int} (h : ∀ r, r < n → φ r = ψ r) : low n φ = low n ψ := by
  unfold low
  congr 1
  exact List.map_congr_left fun r hr => h r (List.mem_range.mp hr)
theorem low_in {n : Nat} {φ : Nat → Int} (h : 0 < n) (h1 : ∀ r, r < n → In (φ r)) : In (low n φ) := by
  obtain ⟨s, hs, e2⟩ := low_is φ h
  rw [e2]; exact h1 s hs
theorem low_mapL {n : Nat} {φ : Nat → Int} {x : Int} (h : 0 < n) (hx : In x) (h1 : ∀ r, r < n → In (φ r)) : onF (low n φ) x = low n fun r => onF (φ r) x := by
  obtain ⟨s, hs, e2⟩ := low_is φ h
  symm
  apply low_eq
  · intro r hr
    exact onF_monoL hx (low_in h h1) (h1 r hr) (low_le hr)
  · exact ⟨s, hs, by rw [e2]⟩
theorem low_mapR {n : Nat} {φ : Nat → Int} {x : Int} (h : 0 < n) (hx : In x) (h1 : ∀ r, r < n → In (φ r)) : onF x (low n φ) = low n fun r => onF x (φ r) := by
  obtain ⟨s, hs, e2⟩ := low_is φ h
  symm
  apply low_eq
  · intro r hr
    exact onF_monoR hx (low_in h h1) (h1 r hr) (low_le hr)
  · exact ⟨s, hs, by rw [e2]⟩
theorem low_swap {n : Nat} (φ : Nat → Nat → Int) (h : 0 < n) : (low n fun r => low n fun s => φ r s) = low n fun s => low n fun r => φ r s := by
  apply low_eq
  · intro r hr
    apply low_ge h
    intro s hs
    have h1 : (low n fun s => low n fun r => φ r s) ≤ low n fun r => φ r s := low_le hs
    have h2 : (low n fun r => φ r s) ≤ φ r s := low_le hr
    omega
  · obtain ⟨s, hs, e1⟩ := low_is (fun s => low n fun r => φ r s) h
    obtain ⟨r, hr, e2⟩ := low_is (fun r => φ r s) h
    refine ⟨r, hr, ?_⟩
    rw [e1, e2]
    apply low_eq
    · intro s' hs'
      have h1 : (low n fun s => low n fun r => φ r s) ≤ low n fun r => φ r s' := low_le hs'
      have h2 : (low n fun r => φ r s') ≤ φ r s' := low_le hr
      omega
    · exact ⟨s, hs, rfl⟩
/-! ### matrices -/
abbrev M := Nat → Nat → Int
def Mat (f : M) : Prop := ∀ p q, In (f p q)
def tim (n : Nat) (f g : M) : M := fun p q => low n fun r => onF (f p r) (g r q)
def unit : M := fun p q => if p = q then 0 else 3
theorem unit_in : Mat unit := by
  intro p q
  unfold unit In
  split <;> omega
theorem tim_in {n : Nat} {f g : M} (h : 0 < n) (hf : Mat f) (hg : Mat g) : Mat (tim n f g) := fun p q => low_in h fun r _ => onF_in (hf p r) (hg r q)
theorem tim_assoc {n : Nat} {f g k : M} (h : 0 < n) (hf : Mat f) (hg : Mat g) (hk : Mat k) (p q : Nat) : tim n (tim n f g) k p q = tim n f (tim n g k) p q := by
  unfold tim
  have e1 : (low n fun r => onF (low n fun s => onF (f p s) (g s r)) (k r q)) = low n fun r => low n fun s => onF (onF (f p s) (g s r)) (k r q) :=
    low_congr fun r _ => low_mapL h (hk r q) fun s _ => onF_in (hf p s) (hg s r)
  have e2 : (low n fun s => onF (f p s) (low n fun r => onF (g s r) (k r q))) = low n fun s => low n fun r => onF (f p s) (onF (g s r) (k r q)) :=
    low_congr fun s _ => low_mapR h (hf p s) fun r _ => onF_in (hg s r) (hk r q)
  rw [e1, e2, low_swap _ h]
  exact low_congr fun s _ => low_congr fun r _ => onF_assoc (hf p s) (hg s r) (hk r q)
theorem tim_congr {n : Nat} {f f' g g' : M} (hf : ∀ p q, p < n → q < n → f p q = f' p q) (hg : ∀ p q, p < n → q < n → g p q = g' p q) {p q : Nat} (hp : p < n) (hq : q < n) : tim n f g p q = tim n f' g' p q :=
  low_congr fun r hr => by rw [hf p r hp hr, hg r q hr hq]
theorem unit_tim {n : Nat} {f : M} (hf : Mat f) {p q : Nat} (hp : p < n) : tim n unit f p q = f p q := by
  apply low_eq
  · intro r hr
    unfold unit
    by_cases h : p = r
    · subst h; rw [if_pos rfl, (onF_0 (hf p q)).1]; omega
    · rw [if_neg h, (onF_3 _).1]; exact (hf p q).2
  · exact ⟨p, hp, by simp [unit, (onF_0 (hf p q)).1]⟩
theorem tim_unit {n : Nat} {f : M} (hf : Mat f) {p q : Nat} (hq : q < n) : tim n f unit p q = f p q := by
  apply low_eq
  · intro r hr
    unfold unit
    by_cases h : r = q
    · subst h; rw [if_pos rfl, (onF_0 (hf p r)).2]; omega
    · rw [if_neg h, (onF_3 _).2]; exact (hf p q).2
  · exact ⟨q, hq, by simp [unit, (onF_0 (hf p q)).2]⟩
/-! ### stabilised -/
def hld (x : Int) : Int := if x = 1 then 2 else x
theorem hld_in {x : Int} (h : In x) : In (hld x) := by unfold hld In at *; split <;> omega
theorem hld_ge {x : Int} : x ≤ hld x := by unfold hld; split <;> omega
theorem hld_own {x : Int} (h : In x) : onF (hld x) (onF x (hld x)) = hld x := by
  rcases cs h with rfl | rfl | rfl | rfl | rfl <;> decide
/-- each column gone on with what is held -/
def heldM (f : M) : M := fun p r => onF (f p r) (hld (f r r))
def pum (n : Nat) (f : M) : M := tim n (heldM f) f
theorem heldM_in {f : M} (hf : Mat f) : Mat (heldM f) := fun p r => onF_in (hf p r) (hld_in (hf r r))
theorem pum_in {n : Nat} {f : M} (h : 0 < n) (hf : Mat f) : Mat (pum n f) := tim_in h (heldM_in hf) hf
/-- equal on n -/
def Eqn (n : Nat) (f g : M) : Prop := ∀ p q, p < n → q < n → f p q = g p q
theorem held_left {n : Nat} {f : M} (h : 0 < n) (hf : Mat f) (hi : Eqn n (tim n f f) f) : Eqn n (tim n f (heldM f)) (heldM f) := by
  intro p r hp hr
  have e : tim n f (heldM f) p r = onF (tim n f f p r) (hld (f r r)) := by
    unfold tim heldM
    rw [low_mapL h (hld_in (hf r r)) fun s _ => onF_in (hf p s) (hf s r)]
    exact low_congr fun s _ => (onF_assoc (hf p s) (hf s r) (hld_in (hf r r))).symm
  rw [e, hi p r hp hr]
  rfl
theorem Eqn.symm {n : Nat} {f g : M} (h : Eqn n f g) : Eqn n g f := fun p q hp hq => (h p q hp hq).symm
theorem Eqn.trans {n : Nat} {f g k : M} (h : Eqn n f g) (h2 : Eqn n g k) : Eqn n f k := fun p q hp hq => (h p q hp hq).trans (h2 p q hp hq)
theorem Eqn.rfl {n : Nat} {f : M} : Eqn n f f := fun _ _ _ _ => Eq.refl _
theorem Eqn.tim {n : Nat} {f f' g g' : M} (h : Eqn n f f') (h2 : Eqn n g g') : Eqn n (tim n f g) (tim n f' g') := fun _ _ hp hq => tim_congr h h2 hp hq
theorem assocE {n : Nat} {f g k : M} (h : 0 < n) (hf : Mat f) (hg : Mat g) (hk : Mat k) : Eqn n (tim n (tim n f g) k) (tim n f (tim n g k)) := fun p q _ _ => tim_assoc h hf hg hk p q
theorem pum_left {n : Nat} {f : M} (h : 0 < n) (hf : Mat f) (hi : Eqn n (tim n f f) f) : Eqn n (tim n f (pum n f)) (pum n f) := by
  have e1 := (assocE h hf (heldM_in hf) hf).symm
  exact e1.trans (Eqn.tim (held_left h hf hi) Eqn.rfl)
theorem pum_right {n : Nat} {f : M} (h : 0 < n) (hf : Mat f) (hi : Eqn n (tim n f f) f) : Eqn n (tim n (pum n f) f) (pum n f) := by
  have e1 := assocE h (heldM_in hf) hf hf
  exact e1.trans (Eqn.tim Eqn.rfl hi)
/-- nowhere less -/
theorem tim_mono {n : Nat} {f f' g g' : M} (h : 0 < n) (hf : Mat f) (hf' : Mat f') (hg : Mat g) (hg' : Mat g') (h1 : ∀ p q, p < n → q < n → f p q ≤ f' p q) (h2 : ∀ p q, p < n → q < n → g p q ≤ g' p q) : ∀ p q, p < n → q < n → tim n f g p q ≤ tim n f' g' p q := by
  intro p q hp hq
  unfold tim
  apply low_ge h
  intro r hr
  have a : (low n fun r => onF (f p r) (g r q)) ≤ onF (f p r) (g r q) := low_le hr
  have b := onF_monoL (hg r q) (hf p r) (hf' p r) (h1 p r hp hr)
  have c := onF_monoR (hf' p r) (hg r q) (hg' r q) (h2 r q hr hq)
  omega
theorem held_ge {n : Nat} {f : M} (h : 0 < n) (hf : Mat f) (hi : Eqn n (tim n f f) f) : ∀ p q, p < n → q < n → f p q ≤ heldM f p q := by
  intro p q hp hq
  unfold heldM
  have a : tim n f f p q ≤ onF (f p q) (f q q) := low_le (φ := fun r => onF (f p r) (f r q)) hq
  rw [hi p q hp hq] at a
  have b := onF_monoR (hf p q) (hf q q) (hld_in (hf q q)) hld_ge
  omega
theorem pum_ge {n : Nat} {f : M} (h : 0 < n) (hf : Mat f) (hi : Eqn n (tim n f f) f) : ∀ p q, p < n → q < n → f p q ≤ pum n f p q := by
  intro p q hp hq
  have a := tim_mono h hf (heldM_in hf) hf hf (held_ge h hf hi) (fun _ _ _ _ => Int.le_refl _) p q hp hq
  rw [hi p q hp hq] at a
  exact a
theorem pum_own {n : Nat} {f : M} (h : 0 < n) (hf : Mat f) (hi : Eqn n (tim n f f) f) : Eqn n (tim n (pum n f) (pum n f)) (pum n f) := by
  have hH := heldM_in hf
  have hS := pum_in h hf
  -- S S = H (f S) = H S
  have e1 : Eqn n (tim n (pum n f) (pum n f)) (tim n (heldM f) (pum n f)) := (assocE h hH hf hS).trans (Eqn.tim Eqn.rfl (pum_left h hf hi))
  apply e1.trans
  intro p q hp hq
  have up : pum n f p q ≤ tim n (heldM f) (pum n f) p q := by
    have a := tim_mono h hf hH hS hS (held_ge h hf hi) (fun _ _ _ _ => Int.le_refl _) p q hp hq
    rw [pum_left h hf hi p q hp hq] at a
    exact a
  have dn : tim n (heldM f) (pum n f) p q ≤ pum n f p q := by
    show _ ≤ low n fun r => onF (heldM f p r) (f r q)
    apply low_ge h
    intro s hs
    have a : tim n (heldM f) (pum n f) p q ≤ onF (heldM f p s) (pum n f s q) := low_le (φ := fun r => onF (heldM f p r) (pum n f r q)) hs
    have b : pum n f s q ≤ onF (heldM f s s) (f s q) := low_le (φ := fun r => onF (heldM f s r) (f r q)) hs
    have c := onF_monoR (hH p s) (hS s q) (onF_in (hH s s) (hf s q)) b
    have d : onF (heldM f p s) (onF (heldM f s s) (f s q)) = onF (heldM f p s) (f s q) := by
      unfold heldM
      have i1 := hf p s
      have i2 := hld_in (hf s s)
      have i3 := hf s s
      have i4 := hf s q
      rw [← onF_assoc (onF_in i1 i2) (onF_in i3 i2) i4, onF_assoc i1 i2 (onF_in i3 i2), hld_own i3]
    omega
  omega
end Mx
end
section
set_option maxRecDepth 100000
set_option maxHeartbeats 0
/-! Mx2: the defs about classes and matrices, and what they answer. -/
namespace Mi
open Mx
def okd : D → Prop
  | .rng _ _ => False
  | .dic _ _ => False
  | .set _ => False
  | _ => True
theorem okd_of {n : Nat} {d : D} (h : D.okN n d = true) : okd d := by
  cases d with
  | rng _ _ => cases n <;> simp [D.okN] at h
  | dic _ _ => cases n <;> simp [D.okN] at h
  | set _ => cases n <;> simp [D.okN] at h
  | _ => trivial
def isInt : D → Bool
  | .int _ => true
  | _ => false
def isIntF : Fn := ⟨1, 1, [],
    (.cons (.ret (.bop true (.isi (.fz 0) [.int]) (.cons (.not (.isi (.fz 0) [.bool])) .nil)))
    .nil)⟩
theorem isInt_ok (call : Nat → List T → Out) (glob : PySem.Str → Option D) (sub : Nat → Nat → Bool) (d : D) (h : okd d) : runFn call glob sub isIntF [.leaf d] = .ret (.leaf (.bl (isInt d))) [none] := by
  cases d <;> simp [okd] at h <;> simp [-R.bind, -R.thn, -S.thn, ↓bind_eq, ↓rthn_eq, ↓sthn_eq, runFn, Fn.start, outsOf, range0, range1, range2, range3, range4, exs, ex, exh, ev, evs, evA, evK, evB, evP, evI, evO, getL, setE, T.at1, T.fz, T.fzs, d2, dLt, dLen, dTy, dIsi, dIs, optR, leafR, blR, onBl, mulOk, takeAr, putAr, bindTg, wipe, back, dc, eqv_int, eqv_bl, eqv_str, D.ok, kN_int, kN_bl, kN_non, isIntF, isInt]
def wit (lo hi : Int) : D → Bool
  | .int i => decide (lo ≤ i) && decide (i ≤ hi)
  | _ => false
def withinF (i : Nat) : Fn := ⟨3, 3, [],
    (.cons (.ret (.bop true (.call i (.v (.fz 0) .nil) .nil [.v 0]) (.cons (.chn .le .le (.fz 1) (.fz 0) (.fz 2)) .nil)))
    .nil)⟩
theorem within_ok (i : Nat) (call : Nat → List T → Out) (glob : PySem.Str → Option D) (sub : Nat → Nat → Bool) (hc : ∀ d, okd d → call i [.leaf d] = .ret (.leaf (.bl (isInt d))) [none]) (d : D) (h : okd d) (lo hi : Int) : runFn call glob sub (withinF i) [.leaf d, .leaf (.int lo), .leaf (.int hi)] = .ret (.leaf (.bl (wit lo hi d))) [none, none, none] := by
  have q := hc d h
  cases d
  case int x => by_cases h1 : lo ≤ x <;> by_cases h2 : x ≤ hi <;> simp [-R.bind, -R.thn, -S.thn, ↓bind_eq, ↓rthn_eq, ↓sthn_eq, runFn, Fn.start, outsOf, range0, range1, range2, range3, range4, exs, ex, exh, ev, evs, evA, evK, evB, evP, evI, evO, getL, setE, T.at1, T.fz, T.fzs, d2, dLt, dLen, dTy, dIsi, dIs, optR, leafR, blR, onBl, mulOk, takeAr, putAr, bindTg, wipe, back, dc, eqv_int, eqv_bl, eqv_str, D.ok, kN_int, kN_bl, kN_non, withinF, q, isInt, wit, h1, h2]
  all_goals simp [okd] at h
  all_goals simp [-R.bind, -R.thn, -S.thn, ↓bind_eq, ↓rthn_eq, ↓sthn_eq, runFn, Fn.start, outsOf, range0, range1, range2, range3, range4, exs, ex, exh, ev, evs, evA, evK, evB, evP, evI, evO, getL, setE, T.at1, T.fz, T.fzs, d2, dLt, dLen, dTy, dIsi, dIs, optR, leafR, blR, onBl, mulOk, takeAr, putAr, bindTg, wipe, back, dc, eqv_int, eqv_bl, eqv_str, D.ok, kN_int, kN_bl, kN_non, withinF, q, isInt, wit]
def isClsF (i : Nat) : Fn := ⟨1, 1, [],
    (.cons (.ret (.call i (.v (.fz 0) (.v (.gl "RESET") (.v (.gl "NONE") .nil))) .nil [.v 0, .v 1, .v 2]))
    .nil)⟩
abbrev cls : D → Bool := wit (-1) 3
theorem isCls_ok (i : Nat) (call : Nat → List T → Out) (glob : PySem.Str → Option D) (sub : Nat → Nat → Bool) (hc : ∀ d, okd d → ∀ lo hi : Int, call i [.leaf d, .leaf (.int lo), .leaf (.int hi)] = .ret (.leaf (.bl (wit lo hi d))) [none, none, none]) (g3 : glob "NONE" = some (.int 3)) (g1 : glob "RESET" = some (.int (-1))) (d : D) (h : okd d) : runFn call glob sub (isClsF i) [.leaf d] = .ret (.leaf (.bl (cls d))) [none] := by
  have q := hc d h (-1) 3
  simp [-R.bind, -R.thn, -S.thn, ↓bind_eq, ↓rthn_eq, ↓sthn_eq, runFn, Fn.start, outsOf, range0, range1, range2, range3, range4, exs, ex, exh, ev, evs, evA, evK, evB, evP, evI, evO, getL, setE, T.at1, T.fz, T.fzs, d2, dLt, dLen, dTy, dIsi, dIs, optR, leafR, blR, onBl, mulOk, takeAr, putAr, bindTg, wipe, back, dc, eqv_int, eqv_bl, eqv_str, D.ok, kN_int, kN_bl, kN_non, isClsF, q, g3, g1]
/-! ### is_matrix -/
def isTup : D → Bool
  | .tup _ => true
  | _ => false
def isRow (n : Nat) : D → Bool
  | .tup xs => decide (xs.length = n)
  | _ => false
def isMx : D → Bool
  | .tup xs => !xs.isEmpty && (xs.all (isRow xs.length) && xs.all fun r => r.items.all cls)
  | _ => false
def mxF (i : Nat) : Fn := ⟨1, 3, [],
    (.cons (.ifs (.bop false (.not (.isi (.fz 0) [.tuple])) (.cons (.cmp .eq (.fz 0) (.tup .nil)) .nil)) (.cons (.ret (.bl false))
    .nil) .nil)
    (.cons (.ifs (.not (.bi .all (.cons (.lc (.bop true (.isi (.get 1) [.tuple]) (.cons (.cmp .eq (.bi .len (.cons (.get 1) .nil)) (.bi .len (.cons (.fz 0) .nil))) .nil)) (.nm 1) (.d (.fz 0)) .nil [1]) .nil))) (.cons (.ret (.bl false))
    .nil) .nil)
    (.cons (.ret (.bi .all (.cons (.lc2 (.call i (.v (.get 2) .nil) .nil [.v 0]) (.nm 1) (.d (.fz 0)) (.nm 2) (.d (.get 1)) [1] [2]) .nil)))
    .nil)))⟩
theorem all_flat (xs : List D) (p : D → Bool) : ((xs.flatMap fun d => d.items.map p).all id) = xs.all fun r => r.items.all p := by
  induction xs with
  | nil => rfl
  | cons x r ih =>
    rw [List.flatMap_cons, List.all_append, ih, List.all_cons]
    congr 1
    rw [List.all_map]
    rfl
theorem mx_ok (i : Nat) (call : Nat → List T → Out) (glob : PySem.Str → Option D) (sub : Nat → Nat → Bool) (hc : ∀ d, okd d → call i [.leaf d] = .ret (.leaf (.bl (cls d))) [none]) (d : D) (h : D.okN 60 d = true) (hl : (d.items.flatMap D.items).length ≤ line) : runFn call glob sub (mxF i) [.leaf d] = .ret (.leaf (.bl (isMx d))) [none] := by
  have hk := okd_of h
  cases d
  case tup xs =>
    rw [kN_tup, List.all_eq_true] at h
    have hok : D.okN 60 (.tup xs) = true := by rw [kN_tup, List.all_eq_true]; exact h
    have hok2 : D.okN 60 (.tup []) = true := by rw [kN_tup]; rfl
    have l1 : ev ⟨call, glob, [], sub⟩ (.lc (.bop true (.isi (.get 1) [.tuple]) (.cons (.cmp .eq (.bi .len (.cons (.get 1) .nil)) (.bi .len (.cons (.fz 0) .nil))) .nil)) (.nm 1) (.d (.fz 0)) .nil [1]) [some (.leaf (.tup xs)), none, none] = .ok (.lst (xs.map fun d => .leaf (.bl (isRow xs.length d)))) [some (.leaf (.tup xs)), none, none] := by
      rw [lc_map ⟨call, glob, [], sub⟩ (e1 := [some (.leaf (.tup xs)), none, none]) xs id fun d => .leaf (.bl (isRow xs.length d))]
      · rfl
      · simp [-R.bind, -R.thn, -S.thn, ↓bind_eq, ↓rthn_eq, ↓sthn_eq, runFn, Fn.start, outsOf, range0, range1, range2, range3, range4, exs, ex, exh, ev, evs, evA, evK, evB, evP, evI, evO, getL, setE, T.at1, T.fz, T.fzs, d2, dLt, dLen, dTy, dIsi, dIs, optR, leafR, blR, onBl, mulOk, takeAr, putAr, bindTg, wipe, back, dc, eqv_int, eqv_bl, eqv_str, D.ok, kN_int, kN_bl, kN_non, dWalk]
      · intro d hd
        have hd' := okd_of (h d hd)
        refine ⟨[some (.leaf (.tup xs)), some (.leaf d), none], ?_, rfl⟩
        cases d <;> simp [okd] at hd' <;> simp [-R.bind, -R.thn, -S.thn, ↓bind_eq, ↓rthn_eq, ↓sthn_eq, runFn, Fn.start, outsOf, range0, range1, range2, range3, range4, exs, ex, exh, ev, evs, evA, evK, evB, evP, evI, evO, getL, setE, T.at1, T.fz, T.fzs, d2, dLt, dLen, dTy, dIsi, dIs, optR, leafR, blR, onBl, mulOk, takeAr, putAr, bindTg, wipe, back, dc, eqv_int, eqv_bl, eqv_str, D.ok, kN_int, kN_bl, kN_non, lcB1, isRow, db, beq_nat]
    have a1 : db .all [.lst (T.fzs (xs.map fun d => .leaf (.bl (isRow xs.length d))))] = some (.leaf (.bl (xs.all (isRow xs.length)))) := by
      rw [fzs_leaf]
      exact db_all_map xs (isRow xs.length)
    cases he : xs.isEmpty
    · cases hr : xs.all (isRow xs.length)
      · rw [hr] at a1
        simp [-R.bind, -R.thn, -S.thn, ↓bind_eq, ↓rthn_eq, ↓sthn_eq, runFn, Fn.start, outsOf, range0, range1, range2, range3, range4, exs, ex, exh, ev, evs, evA, evK, evB, evP, evI, evO, getL, setE, T.at1, T.fz, T.fzs, d2, dLt, dLen, dTy, dIsi, dIs, optR, leafR, blR, onBl, mulOk, takeAr, putAr, bindTg, wipe, back, dc, eqv_int, eqv_bl, eqv_str, D.ok, kN_int, kN_bl, kN_non, mxF, ↓l1, a1, eqv_tup_nil, he, D.ok, hok, hok2, isMx, hr]
      · rw [hr] at a1
        have hr' := List.all_eq_true.mp hr
        have l2 : ev ⟨call, glob, [], sub⟩ (.lc2 (.call i (.v (.get 2) .nil) .nil [.v 0]) (.nm 1) (.d (.fz 0)) (.nm 2) (.d (.get 1)) [1] [2]) [some (.leaf (.tup xs)), none, none] = .ok (.lst (xs.flatMap fun d => d.items.map fun d' => .leaf (.bl (cls d')))) [some (.leaf (.tup xs)), none, none] := by
          rw [lc2_pure ⟨call, glob, [], sub⟩ (e1 := [some (.leaf (.tup xs)), none, none]) (ds := xs) D.items (fun _ d' => .leaf (.bl (cls d'))) [some (.leaf (.tup xs)), none, none] rfl]
          · rfl
          · simp [-R.bind, -R.thn, -S.thn, ↓bind_eq, ↓rthn_eq, ↓sthn_eq, runFn, Fn.start, outsOf, range0, range1, range2, range3, range4, exs, ex, exh, ev, evs, evA, evK, evB, evP, evI, evO, getL, setE, T.at1, T.fz, T.fzs, d2, dLt, dLen, dTy, dIsi, dIs, optR, leafR, blR, onBl, mulOk, takeAr, putAr, bindTg, wipe, back, dc, eqv_int, eqv_bl, eqv_str, D.ok, kN_int, kN_bl, kN_non, dWalk]
          · exact hl
          · intro d hd
            have hd' := hr' d hd
            have hn := h d hd
            cases d <;> simp [isRow] at hd'
            rename_i ys
            rw [kN_tup, List.all_eq_true] at hn
            refine ⟨[some (.leaf (.tup xs)), some (.leaf (.tup ys)), none], [some (.leaf (.tup xs)), some (.leaf (.tup ys)), none], rfl, ?_, rfl, ?_⟩
            · simp [-R.bind, -R.thn, -S.thn, ↓bind_eq, ↓rthn_eq, ↓sthn_eq, runFn, Fn.start, outsOf, range0, range1, range2, range3, range4, exs, ex, exh, ev, evs, evA, evK, evB, evP, evI, evO, getL, setE, T.at1, T.fz, T.fzs, d2, dLt, dLen, dTy, dIsi, dIs, optR, leafR, blR, onBl, mulOk, takeAr, putAr, bindTg, wipe, back, dc, eqv_int, eqv_bl, eqv_str, D.ok, kN_int, kN_bl, kN_non, dWalk, D.items]
            · intro d' hd'
              have q := hc d' (okd_of (hn d' hd'))
              refine ⟨[some (.leaf (.tup xs)), some (.leaf (.tup ys)), some (.leaf d')], ?_, rfl⟩
              simp [-R.bind, -R.thn, -S.thn, ↓bind_eq, ↓rthn_eq, ↓sthn_eq, runFn, Fn.start, outsOf, range0, range1, range2, range3, range4, exs, ex, exh, ev, evs, evA, evK, evB, evP, evI, evO, getL, setE, T.at1, T.fz, T.fzs, d2, dLt, dLen, dTy, dIsi, dIs, optR, leafR, blR, onBl, mulOk, takeAr, putAr, bindTg, wipe, back, dc, eqv_int, eqv_bl, eqv_str, D.ok, kN_int, kN_bl, kN_non, lcB1, q]
        have a2 : db .all [.lst (T.fzs (xs.flatMap fun d => d.items.map fun d' => T.leaf (.bl (cls d'))))] = some (.leaf (.bl (xs.all fun r => r.items.all cls))) := by
          have e : T.fzs (xs.flatMap fun d => d.items.map fun d' => T.leaf (.bl (cls d'))) = (xs.flatMap fun d => d.items.map cls).map fun b => .bl b := by
            rw [fzs_eq, List.map_flatMap, List.map_flatMap]
            congr 1
            funext d
            rw [List.map_map, List.map_map]
            rfl
          rw [e, db_all_map, ← all_flat]
          rfl
        simp [-R.bind, -R.thn, -S.thn, ↓bind_eq, ↓rthn_eq, ↓sthn_eq, runFn, Fn.start, outsOf, range0, range1, range2, range3, range4, exs, ex, exh, ev, evs, evA, evK, evB, evP, evI, evO, getL, setE, T.at1, T.fz, T.fzs, d2, dLt, dLen, dTy, dIsi, dIs, optR, leafR, blR, onBl, mulOk, takeAr, putAr, bindTg, wipe, back, dc, eqv_int, eqv_bl, eqv_str, D.ok, kN_int, kN_bl, kN_non, mxF, ↓l1, ↓l2, a1, a2, eqv_tup_nil, he, D.ok, hok, hok2, isMx, hr]
    · have : xs = [] := List.isEmpty_iff.mp he
      subst this
      simp [-R.bind, -R.thn, -S.thn, ↓bind_eq, ↓rthn_eq, ↓sthn_eq, runFn, Fn.start, outsOf, range0, range1, range2, range3, range4, exs, ex, exh, ev, evs, evA, evK, evB, evP, evI, evO, getL, setE, T.at1, T.fz, T.fzs, d2, dLt, dLen, dTy, dIsi, dIs, optR, leafR, blR, onBl, mulOk, takeAr, putAr, bindTg, wipe, back, dc, eqv_int, eqv_bl, eqv_str, D.ok, kN_int, kN_bl, kN_non, mxF, eqv_tup_nil, D.ok, hok2, isMx]
  all_goals simp [okd] at hk
  all_goals simp [-R.bind, -R.thn, -S.thn, ↓bind_eq, ↓rthn_eq, ↓sthn_eq, runFn, Fn.start, outsOf, range0, range1, range2, range3, range4, exs, ex, exh, ev, evs, evA, evK, evB, evP, evI, evO, getL, setE, T.at1, T.fz, T.fzs, d2, dLt, dLen, dTy, dIsi, dIs, optR, leafR, blR, onBl, mulOk, takeAr, putAr, bindTg, wipe, back, dc, eqv_int, eqv_bl, eqv_str, D.ok, kN_int, kN_bl, kN_non, mxF, isMx]
end Mi
end
section
set_option maxRecDepth 100000
set_option maxHeartbeats 0
/-! Ln1: names, letters, words, languages: the defs and what they answer. -/
namespace Mi
def isTupN (lo hi : Int) : D → Bool
  | .tup xs => decide (lo ≤ xs.length) && decide ((xs.length : Int) ≤ hi)
  | _ => false
def isRowF : Fn := ⟨3, 3, [],
    (.cons (.ret (.bop true (.isi (.fz 0) [.tuple]) (.cons (.chn .le .le (.fz 1) (.bi .len (.cons (.fz 0) .nil)) (.fz 2)) .nil)))
    .nil)⟩
theorem isRow_ok (call : Nat → List T → Out) (glob : PySem.Str → Option D) (sub : Nat → Nat → Bool) (d : D) (h : okd d) (lo hi : Int) : runFn call glob sub isRowF [.leaf d, .leaf (.int lo), .leaf (.int hi)] = .ret (.leaf (.bl (isTupN lo hi d))) [none, none, none] := by
  cases d
  case tup xs => by_cases h1 : lo ≤ xs.length <;> by_cases h2 : (xs.length : Int) ≤ hi <;> simp [-R.bind, -R.thn, -S.thn, ↓bind_eq, ↓rthn_eq, ↓sthn_eq, runFn, Fn.start, outsOf, range0, range1, range2, range3, range4, exs, ex, exh, ev, evs, evA, evK, evB, evP, evI, evO, getL, setE, T.at1, T.fz, T.fzs, d2, dLt, dLen, dTy, dIsi, dIs, optR, leafR, blR, onBl, mulOk, takeAr, putAr, bindTg, wipe, back, dc, eqv_int, eqv_bl, eqv_str, D.ok, kN_int, kN_bl, kN_non, isRowF, isTupN, db_len, h1, h2]
  all_goals simp [okd] at h
  all_goals simp [-R.bind, -R.thn, -S.thn, ↓bind_eq, ↓rthn_eq, ↓sthn_eq, runFn, Fn.start, outsOf, range0, range1, range2, range3, range4, exs, ex, exh, ev, evs, evA, evK, evB, evP, evI, evO, getL, setE, T.at1, T.fz, T.fzs, d2, dLt, dLen, dTy, dIsi, dIs, optR, leafR, blR, onBl, mulOk, takeAr, putAr, bindTg, wipe, back, dc, eqv_int, eqv_bl, eqv_str, D.ok, kN_int, kN_bl, kN_non, isRowF, isTupN]
/-! ### ascending -/
def ascB (ns : List Int) : Bool := (ns.zip ns.tail).all fun p => decide (p.1 < p.2)
theorem ascB_cons2 (a b : Int) (r : List Int) : ascB (a :: b :: r) = (decide (a < b) && ascB (b :: r)) := rfl
theorem ascB_pw : ∀ {ns : List Int}, ns.Pairwise (· < ·) → ascB ns = true
  | [], _ => rfl
  | [_], _ => rfl
  | a :: b :: r, h => by
    rw [ascB_cons2, ascB_pw (List.Pairwise.of_cons h), Bool.and_true]
    exact decide_eq_true ((List.pairwise_cons.mp h).1 b (by simp))
theorem cut_tail {α : Type} (xs : List α) : cut xs (some 1) none = xs.tail := by
  cases xs with
  | nil => rfl
  | cons x r =>
    have := cut_from (x :: r) 1 (by simp)
    rw [show (some (1 : Int)) = some ((1 : Nat) : Int) from rfl, this]
    rfl
def ascF : Fn := ⟨1, 3, [],
    (.cons (.ret (.bi .all (.cons (.lc (.cmp .lt (.get 1) (.get 2)) (.tp [1, 2]) (.zp (.fz 0) (.slc (.fz 0) (.so (.int 1)) .no)) .nil [1, 2]) .nil)))
    .nil)⟩
theorem asc_ok (call : Nat → List T → Out) (glob : PySem.Str → Option D) (sub : Nat → Nat → Bool) (ns : List Int) : runFn call glob sub ascF [.leaf (.tup (ns.map .int))] = .ret (.leaf (.bl (ascB ns))) [none] := by
  have e2 : dSl (.tup (ns.map .int)) (some 1) none = some (.leaf (.tup (ns.map .int).tail)) := by
    show some (T.leaf (.tup (cut (ns.map D.int) (some 1) none))) = _
    rw [cut_tail]
  have e3 : dZip (.tup (ns.map .int)) (.tup (ns.map .int).tail) = some ((ns.zip ns.tail).map fun p => .tup [.int p.1, .int p.2]) := by
    show some (((ns.map D.int).zip (ns.map D.int).tail).map fun p => D.tup [p.1, p.2]) = _
    rw [← List.map_tail, List.zip_map, List.map_map]
    rfl
  have l1 : ev ⟨call, glob, [], sub⟩ (.lc (.cmp .lt (.get 1) (.get 2)) (.tp [1, 2]) (.zp (.fz 0) (.slc (.fz 0) (.so (.int 1)) .no)) .nil [1, 2]) [some (.leaf (.tup (ns.map .int))), none, none] = .ok (.lst ((ns.zip ns.tail).map fun p => .leaf (.bl (decide (p.1 < p.2))))) [some (.leaf (.tup (ns.map .int))), none, none] := by
    rw [lc_map ⟨call, glob, [], sub⟩ (e1 := [some (.leaf (.tup (ns.map .int))), none, none]) (ns.zip ns.tail) (fun p => .tup [.int p.1, .int p.2]) fun p => .leaf (.bl (decide (p.1 < p.2)))]
    · rfl
    · simp [-R.bind, -R.thn, -S.thn, ↓bind_eq, ↓rthn_eq, ↓sthn_eq, runFn, Fn.start, outsOf, range0, range1, range2, range3, range4, exs, ex, exh, ev, evs, evA, evK, evB, evP, evI, evO, getL, setE, T.at1, T.fz, T.fzs, d2, dLt, dLen, dTy, dIsi, dIs, optR, leafR, blR, onBl, mulOk, takeAr, putAr, bindTg, wipe, back, dc, eqv_int, eqv_bl, eqv_str, D.ok, kN_int, kN_bl, kN_non, e2, e3]
    · intro p _
      refine ⟨[some (.leaf (.tup (ns.map .int))), some (.leaf (.int p.1)), some (.leaf (.int p.2))], ?_, rfl⟩
      simp [-R.bind, -R.thn, -S.thn, ↓bind_eq, ↓rthn_eq, ↓sthn_eq, runFn, Fn.start, outsOf, range0, range1, range2, range3, range4, exs, ex, exh, ev, evs, evA, evK, evB, evP, evI, evO, getL, setE, T.at1, T.fz, T.fzs, d2, dLt, dLen, dTy, dIsi, dIs, optR, leafR, blR, onBl, mulOk, takeAr, putAr, bindTg, wipe, back, dc, eqv_int, eqv_bl, eqv_str, D.ok, kN_int, kN_bl, kN_non, lcB1]
  have e4 := db_all_map (ns.zip ns.tail) fun p => decide (p.1 < p.2)
  have e5 : (ns.zip ns.tail).all (fun p => decide (p.1 < p.2)) = ascB ns := rfl
  rw [e5] at e4
  simp [-R.bind, -R.thn, -S.thn, ↓bind_eq, ↓rthn_eq, ↓sthn_eq, runFn, Fn.start, outsOf, range0, range1, range2, range3, range4, exs, ex, exh, ev, evs, evA, evK, evB, evP, evI, evO, getL, setE, T.at1, T.fz, T.fzs, d2, dLt, dLen, dTy, dIsi, dIs, optR, leafR, blR, onBl, mulOk, takeAr, putAr, bindTg, wipe, back, dc, eqv_int, eqv_bl, eqv_str, D.ok, kN_int, kN_bl, kN_non, ascF, ↓l1, fzs_leaf, e4]
/-! ### indexes -/
def dToI : D → Int
  | .int i => i
  | _ => 0
theorem wit_ints {lo hi : Int} : ∀ {xs : List D}, xs.all (wit lo hi) = true → xs = (xs.map dToI).map .int
  | [], _ => rfl
  | x :: r, h => by
    rw [List.all_cons, Bool.and_eq_true] at h
    rw [List.map_cons, List.map_cons, ← wit_ints h.2]
    cases x with
    | int i => rfl
    | _ => simp [wit] at h
def idxB (many : Int) : D → Bool
  | .tup xs => xs.all (wit 0 (many - 1)) && ascB (xs.map dToI)
  | _ => false
def idxF (iw ia : Nat) : Fn := ⟨2, 3, [],
    (.cons (.ret (.bop true (.isi (.fz 0) [.tuple]) (.cons (.bi .all (.cons (.lc (.call iw (.v (.get 2) (.v (.int 0) (.v (.bin .sub (.fz 1) (.int 1)) .nil))) .nil [.v 0, .v 1, .v 2]) (.nm 2) (.d (.fz 0)) .nil [2]) .nil)) (.cons (.call ia (.v (.fz 0) .nil) .nil [.v 0]) .nil))))
    .nil)⟩
theorem idx_ok (iw ia : Nat) (call : Nat → List T → Out) (glob : PySem.Str → Option D) (sub : Nat → Nat → Bool) (hw : ∀ d, okd d → ∀ lo hi : Int, call iw [.leaf d, .leaf (.int lo), .leaf (.int hi)] = .ret (.leaf (.bl (wit lo hi d))) [none, none, none]) (ha : ∀ ns : List Int, call ia [.leaf (.tup (ns.map .int))] = .ret (.leaf (.bl (ascB ns))) [none]) (d : D) (n : Nat) (h : D.okN n d = true) (many : Int) : runFn call glob sub (idxF iw ia) [.leaf d, .leaf (.int many)] = .ret (.leaf (.bl (idxB many d))) [none, none] := by
  have hk := okd_of h
  cases d
  case tup xs =>
    have hx : ∀ x ∈ xs, okd x := by
      cases n with
      | zero => simp [D.okN] at h
      | succ n =>
        rw [kN_tup, List.all_eq_true] at h
        exact fun x hx => okd_of (h x hx)
    have l1 : ev ⟨call, glob, [], sub⟩ (.lc (.call iw (.v (.get 2) (.v (.int 0) (.v (.bin .sub (.fz 1) (.int 1)) .nil))) .nil [.v 0, .v 1, .v 2]) (.nm 2) (.d (.fz 0)) .nil [2]) [some (.leaf (.tup xs)), some (.leaf (.int many)), none] = .ok (.lst (xs.map fun x => .leaf (.bl (wit 0 (many - 1) x)))) [some (.leaf (.tup xs)), some (.leaf (.int many)), none] := by
      rw [lc_map ⟨call, glob, [], sub⟩ (e1 := [some (.leaf (.tup xs)), some (.leaf (.int many)), none]) xs id fun x => .leaf (.bl (wit 0 (many - 1) x))]
      · rfl
      · simp [-R.bind, -R.thn, -S.thn, ↓bind_eq, ↓rthn_eq, ↓sthn_eq, runFn, Fn.start, outsOf, range0, range1, range2, range3, range4, exs, ex, exh, ev, evs, evA, evK, evB, evP, evI, evO, getL, setE, T.at1, T.fz, T.fzs, d2, dLt, dLen, dTy, dIsi, dIs, optR, leafR, blR, onBl, mulOk, takeAr, putAr, bindTg, wipe, back, dc, eqv_int, eqv_bl, eqv_str, D.ok, kN_int, kN_bl, kN_non, dWalk]
      · intro x hm
        refine ⟨[some (.leaf (.tup xs)), some (.leaf (.int many)), some (.leaf x)], ?_, rfl⟩
        have q := hw x (hx x hm) 0 (many - 1)
        simp [-R.bind, -R.thn, -S.thn, ↓bind_eq, ↓rthn_eq, ↓sthn_eq, runFn, Fn.start, outsOf, range0, range1, range2, range3, range4, exs, ex, exh, ev, evs, evA, evK, evB, evP, evI, evO, getL, setE, T.at1, T.fz, T.fzs, d2, dLt, dLen, dTy, dIsi, dIs, optR, leafR, blR, onBl, mulOk, takeAr, putAr, bindTg, wipe, back, dc, eqv_int, eqv_bl, eqv_str, D.ok, kN_int, kN_bl, kN_non, lcB1, q]
    have e1 := db_all_map xs (wit 0 (many - 1))
    cases b : xs.all (wit 0 (many - 1))
    · rw [b] at e1
      simp [-R.bind, -R.thn, -S.thn, ↓bind_eq, ↓rthn_eq, ↓sthn_eq, runFn, Fn.start, outsOf, range0, range1, range2, range3, range4, exs, ex, exh, ev, evs, evA, evK, evB, evP, evI, evO, getL, setE, T.at1, T.fz, T.fzs, d2, dLt, dLen, dTy, dIsi, dIs, optR, leafR, blR, onBl, mulOk, takeAr, putAr, bindTg, wipe, back, dc, eqv_int, eqv_bl, eqv_str, D.ok, kN_int, kN_bl, kN_non, idxF, ↓l1, fzs_leaf, e1, idxB, b]
    · rw [b] at e1
      have q := ha (xs.map dToI)
      rw [← wit_ints b] at q
      simp [-R.bind, -R.thn, -S.thn, ↓bind_eq, ↓rthn_eq, ↓sthn_eq, runFn, Fn.start, outsOf, range0, range1, range2, range3, range4, exs, ex, exh, ev, evs, evA, evK, evB, evP, evI, evO, getL, setE, T.at1, T.fz, T.fzs, d2, dLt, dLen, dTy, dIsi, dIs, optR, leafR, blR, onBl, mulOk, takeAr, putAr, bindTg, wipe, back, dc, eqv_int, eqv_bl, eqv_str, D.ok, kN_int, kN_bl, kN_non, idxF, ↓l1, fzs_leaf, e1, idxB, b, q]
  all_goals simp [okd] at hk
  all_goals simp [-R.bind, -R.thn, -S.thn, ↓bind_eq, ↓rthn_eq, ↓sthn_eq, runFn, Fn.start, outsOf, range0, range1, range2, range3, range4, exs, ex, exh, ev, evs, evA, evK, evB, evP, evI, evO, getL, setE, T.at1, T.fz, T.fzs, d2, dLt, dLen, dTy, dIsi, dIs, optR, leafR, blR, onBl, mulOk, takeAr, putAr, bindTg, wipe, back, dc, eqv_int, eqv_bl, eqv_str, D.ok, kN_int, kN_bl, kN_non, idxF, idxB]
/-! ### words -/
def wordB (k : Int) : D → Bool
  | .tup xs => decide (xs.length ≤ 1000) && xs.all (wit 0 (k - 1))
  | _ => false
def wordF (ir iw : Nat) : Fn := ⟨2, 3, [],
    (.cons (.ifs (.not (.call ir (.v (.fz 1) (.v (.int 0) (.v (.gl "LONGEST_WORD") .nil))) .nil [.v 0, .v 1, .v 2])) (.cons (.ret (.bl false))
    .nil) .nil)
    (.cons (.ret (.bi .all (.cons (.lc (.call iw (.v (.get 2) (.v (.int 0) (.v (.bin .sub (.bi .len (.cons (.fz 0) .nil)) (.int 1)) .nil))) .nil [.v 0, .v 1, .v 2]) (.nm 2) (.d (.fz 1)) .nil [2]) .nil)))
    .nil))⟩
theorem word_ok (ir iw : Nat) (call : Nat → List T → Out) (glob : PySem.Str → Option D) (sub : Nat → Nat → Bool) (gw : glob "LONGEST_WORD" = some (.int 1000)) (hr : ∀ d, okd d → ∀ lo hi : Int, call ir [.leaf d, .leaf (.int lo), .leaf (.int hi)] = .ret (.leaf (.bl (isTupN lo hi d))) [none, none, none]) (hw : ∀ d, okd d → ∀ lo hi : Int, call iw [.leaf d, .leaf (.int lo), .leaf (.int hi)] = .ret (.leaf (.bl (wit lo hi d))) [none, none, none]) (L d : D) (k n : Nat) (hL : dLen L = some k) (h : D.okN n d = true) : runFn call glob sub (wordF ir iw) [.leaf L, .leaf d] = .ret (.leaf (.bl (wordB k d))) [none, none] := by
  have hk := okd_of h
  have q0 := hr d hk 0 1000
  have hl := db_len L
  rw [hL] at hl
  cases d
  case tup xs =>
    have hx : ∀ x ∈ xs, okd x := by
      cases n with
      | zero => simp [D.okN] at h
      | succ n =>
        rw [kN_tup, List.all_eq_true] at h
        exact fun x hx => okd_of (h x hx)
    have l1 : ev ⟨call, glob, [], sub⟩ (.lc (.call iw (.v (.get 2) (.v (.int 0) (.v (.bin .sub (.bi .len (.cons (.fz 0) .nil)) (.int 1)) .nil))) .nil [.v 0, .v 1, .v 2]) (.nm 2) (.d (.fz 1)) .nil [2]) [some (.leaf L), some (.leaf (.tup xs)), none] = .ok (.lst (xs.map fun x => .leaf (.bl (wit 0 (k - 1) x)))) [some (.leaf L), some (.leaf (.tup xs)), none] := by
      rw [lc_map ⟨call, glob, [], sub⟩ (e1 := [some (.leaf L), some (.leaf (.tup xs)), none]) xs id fun x => .leaf (.bl (wit 0 (k - 1) x))]
      · rfl
      · simp [-R.bind, -R.thn, -S.thn, ↓bind_eq, ↓rthn_eq, ↓sthn_eq, runFn, Fn.start, outsOf, range0, range1, range2, range3, range4, exs, ex, exh, ev, evs, evA, evK, evB, evP, evI, evO, getL, setE, T.at1, T.fz, T.fzs, d2, dLt, dLen, dTy, dIsi, dIs, optR, leafR, blR, onBl, mulOk, takeAr, putAr, bindTg, wipe, back, dc, eqv_int, eqv_bl, eqv_str, D.ok, kN_int, kN_bl, kN_non, dWalk]
      · intro x hm
        refine ⟨[some (.leaf L), some (.leaf (.tup xs)), some (.leaf x)], ?_, rfl⟩
        have q := hw x (hx x hm) 0 (k - 1)
        simp [-R.bind, -R.thn, -S.thn, ↓bind_eq, ↓rthn_eq, ↓sthn_eq, runFn, Fn.start, outsOf, range0, range1, range2, range3, range4, exs, ex, exh, ev, evs, evA, evK, evB, evP, evI, evO, getL, setE, T.at1, T.fz, T.fzs, d2, dLt, dLen, dTy, dIsi, dIs, optR, leafR, blR, onBl, mulOk, takeAr, putAr, bindTg, wipe, back, dc, eqv_int, eqv_bl, eqv_str, D.ok, kN_int, kN_bl, kN_non, lcB1, q, hl]
    have e1 := db_all_map xs (wit 0 (k - 1))
    by_cases b : xs.length ≤ 1000
    · have q : isTupN 0 1000 (.tup xs) = true := by
        show (decide (0 ≤ (xs.length : Int)) && decide ((xs.length : Int) ≤ 1000)) = true
        rw [decide_eq_true (by omega), decide_eq_true (by omega)]; rfl
      rw [q] at q0
      simp [-R.bind, -R.thn, -S.thn, ↓bind_eq, ↓rthn_eq, ↓sthn_eq, runFn, Fn.start, outsOf, range0, range1, range2, range3, range4, exs, ex, exh, ev, evs, evA, evK, evB, evP, evI, evO, getL, setE, T.at1, T.fz, T.fzs, d2, dLt, dLen, dTy, dIsi, dIs, optR, leafR, blR, onBl, mulOk, takeAr, putAr, bindTg, wipe, back, dc, eqv_int, eqv_bl, eqv_str, D.ok, kN_int, kN_bl, kN_non, wordF, gw, q0, ↓l1, fzs_leaf, e1, wordB, b]
    · have q : isTupN 0 1000 (.tup xs) = false := by
        show (decide (0 ≤ (xs.length : Int)) && decide ((xs.length : Int) ≤ 1000)) = false
        rw [decide_eq_false (p := (xs.length : Int) ≤ 1000) (by omega), Bool.and_false]
      rw [q] at q0
      simp [-R.bind, -R.thn, -S.thn, ↓bind_eq, ↓rthn_eq, ↓sthn_eq, runFn, Fn.start, outsOf, range0, range1, range2, range3, range4, exs, ex, exh, ev, evs, evA, evK, evB, evP, evI, evO, getL, setE, T.at1, T.fz, T.fzs, d2, dLt, dLen, dTy, dIsi, dIs, optR, leafR, blR, onBl, mulOk, takeAr, putAr, bindTg, wipe, back, dc, eqv_int, eqv_bl, eqv_str, D.ok, kN_int, kN_bl, kN_non, wordF, gw, q0, wordB, b]
  all_goals simp [okd] at hk
  all_goals simp only [isTupN] at q0
  all_goals simp [-R.bind, -R.thn, -S.thn, ↓bind_eq, ↓rthn_eq, ↓sthn_eq, runFn, Fn.start, outsOf, range0, range1, range2, range3, range4, exs, ex, exh, ev, evs, evA, evK, evB, evP, evI, evO, getL, setE, T.at1, T.fz, T.fzs, d2, dLt, dLen, dTy, dIsi, dIs, optR, leafR, blR, onBl, mulOk, takeAr, putAr, bindTg, wipe, back, dc, eqv_int, eqv_bl, eqv_str, D.ok, kN_int, kN_bl, kN_non, wordF, gw, q0, wordB]
def needWordF (i cl : Nat) : Fn := ⟨2, 2, [],
    (.cons (.ifs (.not (.call i (.v (.fz 0) (.v (.fz 1) .nil)) .nil [.v 0, .v 1])) (.cons (.rse cl "this is no word over the letters")
    .nil) .nil)
    .nil)⟩
theorem needWord_ok (i cl : Nat) (call : Nat → List T → Out) (glob : PySem.Str → Option D) (sub : Nat → Nat → Bool) (d d' : D) (b : Bool) (h : call i [.leaf d, .leaf d'] = .ret (.leaf (.bl b)) [none, none]) : runFn call glob sub (needWordF i cl) [.leaf d, .leaf d'] = if b then .ret (.leaf .non) [none, none] else .exc ⟨cl, .non⟩ [none, none] := by
  cases b <;> simp [-R.bind, -R.thn, -S.thn, ↓bind_eq, ↓rthn_eq, ↓sthn_eq, runFn, Fn.start, outsOf, range0, range1, range2, range3, range4, exs, ex, exh, ev, evs, evA, evK, evB, evP, evI, evO, getL, setE, T.at1, T.fz, T.fzs, d2, dLt, dLen, dTy, dIsi, dIs, optR, leafR, blR, onBl, mulOk, takeAr, putAr, bindTg, wipe, back, dc, eqv_int, eqv_bl, eqv_str, D.ok, kN_int, kN_bl, kN_non, needWordF, h]
/-! ### languages -/
def langB (k : Nat) (R E : D) : Bool := isTupN 1 100 R && (R.items.all (isTupN k k) && ((R.items.all fun r => r.items.all (wit 0 ((R.items.length : Int) - 1))) && idxB R.items.length E))
def langF (ir iL iw ii : Nat) : Fn := ⟨1, 6, [],
    (.cons (.ifs (.bop false (.not (.call ir (.v (.fz 0) (.v (.int 3) (.v (.int 3) .nil))) .nil [.v 0, .v 1, .v 2])) (.cons (.not (.call iL (.v (.idx (.fz 0) (.int 0)) .nil) .nil [.v 0])) (.cons (.not (.call ir (.v (.idx (.fz 0) (.int 1)) (.v (.int 1) (.v (.gl "MOST_SMALL") .nil))) .nil [.v 0, .v 1, .v 2])) .nil))) (.cons (.ret (.bl false))
    .nil) .nil)
    (.cons (.asgT [1, 2, 3] (.fz 0))
    (.cons (.ifs (.not (.bi .all (.cons (.lc (.call ir (.v (.get 4) (.v (.bi .len (.cons (.get 1) .nil)) (.v (.bi .len (.cons (.get 1) .nil)) .nil))) .nil [.v 0, .v 1, .v 2]) (.nm 4) (.d (.get 2)) .nil [4]) .nil))) (.cons (.ret (.bl false))
    .nil) .nil)
    (.cons (.ifs (.not (.bi .all (.cons (.lc2 (.call iw (.v (.get 5) (.v (.int 0) (.v (.bin .sub (.bi .len (.cons (.get 2) .nil)) (.int 1)) .nil))) .nil [.v 0, .v 1, .v 2]) (.nm 4) (.d (.get 2)) (.nm 5) (.d (.get 4)) [4] [5]) .nil))) (.cons (.ret (.bl false))
    .nil) .nil)
    (.cons (.ret (.call ii (.v (.get 3) (.v (.bi .len (.cons (.get 2) .nil)) .nil)) .nil [.v 0, .v 1]))
    .nil)))))⟩
section
variable (ir iL iw ii : Nat) (call : Nat → List T → Out) (glob : PySem.Str → Option D) (sub : Nat → Nat → Bool) (gm : glob "MOST_SMALL" = some (.int 100)) (hr : ∀ d, okd d → ∀ lo hi : Int, call ir [.leaf d, .leaf (.int lo), .leaf (.int hi)] = .ret (.leaf (.bl (isTupN lo hi d))) [none, none, none]) (hw : ∀ d, okd d → ∀ lo hi : Int, call iw [.leaf d, .leaf (.int lo), .leaf (.int hi)] = .ret (.leaf (.bl (wit lo hi d))) [none, none, none])
include gm hr hw
theorem lang_no3 (d : D) (h : okd d) (h3 : isTupN 3 3 d = false) : runFn call glob sub (langF ir iL iw ii) [.leaf d] = .ret (.leaf (.bl false)) [none] := by
  have q := hr d h 3 3
  rw [h3] at q
  simp [-R.bind, -R.thn, -S.thn, ↓bind_eq, ↓rthn_eq, ↓sthn_eq, runFn, Fn.start, outsOf, range0, range1, range2, range3, range4, exs, ex, exh, ev, evs, evA, evK, evB, evP, evI, evO, getL, setE, T.at1, T.fz, T.fzs, d2, dLt, dLen, dTy, dIsi, dIs, optR, leafR, blR, onBl, mulOk, takeAr, putAr, bindTg, wipe, back, dc, eqv_int, eqv_bl, eqv_str, D.ok, kN_int, kN_bl, kN_non, langF, q]
theorem lang_noL (L R E : D) (hL : call iL [.leaf L] = .ret (.leaf (.bl false)) [none]) : runFn call glob sub (langF ir iL iw ii) [.leaf (.tup [L, R, E])] = .ret (.leaf (.bl false)) [none] := by
  have q := hr (.tup [L, R, E]) trivial 3 3
  have q3 : isTupN 3 3 (.tup [L, R, E]) = true := rfl
  rw [q3] at q
  simp [-R.bind, -R.thn, -S.thn, ↓bind_eq, ↓rthn_eq, ↓sthn_eq, runFn, Fn.start, outsOf, range0, range1, range2, range3, range4, exs, ex, exh, ev, evs, evA, evK, evB, evP, evI, evO, getL, setE, T.at1, T.fz, T.fzs, d2, dLt, dLen, dTy, dIsi, dIs, optR, leafR, blR, onBl, mulOk, takeAr, putAr, bindTg, wipe, back, dc, eqv_int, eqv_bl, eqv_str, D.ok, kN_int, kN_bl, kN_non, langF, q, dIx, L2.atI, L2.ixN, hL]
theorem lang_ok (hi : ∀ d n, D.okN n d = true → ∀ many : Int, call ii [.leaf d, .leaf (.int many)] = .ret (.leaf (.bl (idxB many d))) [none, none]) (L R E : D) (k : Nat) (hL : call iL [.leaf L] = .ret (.leaf (.bl true)) [none]) (hk : dLen L = some k) (n : Nat) (oR : D.okN n R = true) (oE : D.okN n E = true) (sz : (R.items.flatMap D.items).length ≤ line) : runFn call glob sub (langF ir iL iw ii) [.leaf (.tup [L, R, E])] = .ret (.leaf (.bl (langB k R E))) [none] := by
  have q := hr (.tup [L, R, E]) trivial 3 3
  have q3 : isTupN 3 3 (.tup [L, R, E]) = true := rfl
  rw [q3] at q
  have kR := okd_of oR
  have q4 := hr R kR 1 100
  have hl := db_len L
  rw [hk] at hl
  cases b1 : isTupN 1 100 R with
  | false =>
    rw [b1] at q4
    simp [-R.bind, -R.thn, -S.thn, ↓bind_eq, ↓rthn_eq, ↓sthn_eq, runFn, Fn.start, outsOf, range0, range1, range2, range3, range4, exs, ex, exh, ev, evs, evA, evK, evB, evP, evI, evO, getL, setE, T.at1, T.fz, T.fzs, d2, dLt, dLen, dTy, dIsi, dIs, optR, leafR, blR, onBl, mulOk, takeAr, putAr, bindTg, wipe, back, dc, eqv_int, eqv_bl, eqv_str, D.ok, kN_int, kN_bl, kN_non, langF, q, dIx, L2.atI, L2.ixN, hL, gm, q4, langB, b1]
  | true =>
    rw [b1] at q4
    cases R with
    | tup xs =>
      have hx : ∀ x ∈ xs, ∃ m, D.okN m x = true := by
        cases n with
        | zero => simp [D.okN] at oR
        | succ n =>
          rw [kN_tup, List.all_eq_true] at oR
          exact fun x hx => ⟨n, oR x hx⟩
      have hm := db_len (.tup xs)
      have hm' : db .len [.tup xs] = some (.leaf (.int (xs.length : Int))) := hm
      have l1 : ev ⟨call, glob, [], sub⟩ (.lc (.call ir (.v (.get 4) (.v (.bi .len (.cons (.get 1) .nil)) (.v (.bi .len (.cons (.get 1) .nil)) .nil))) .nil [.v 0, .v 1, .v 2]) (.nm 4) (.d (.get 2)) .nil [4]) [some (.leaf (.tup [L, .tup xs, E])), some (.leaf L), some (.leaf (.tup xs)), some (.leaf E), none, none] = .ok (.lst (xs.map fun x => .leaf (.bl (isTupN k k x)))) [some (.leaf (.tup [L, .tup xs, E])), some (.leaf L), some (.leaf (.tup xs)), some (.leaf E), none, none] := by
        rw [lc_map ⟨call, glob, [], sub⟩ (e1 := [some (.leaf (.tup [L, .tup xs, E])), some (.leaf L), some (.leaf (.tup xs)), some (.leaf E), none, none]) xs id fun x => .leaf (.bl (isTupN k k x))]
        · rfl
        · simp [-R.bind, -R.thn, -S.thn, ↓bind_eq, ↓rthn_eq, ↓sthn_eq, runFn, Fn.start, outsOf, range0, range1, range2, range3, range4, exs, ex, exh, ev, evs, evA, evK, evB, evP, evI, evO, getL, setE, T.at1, T.fz, T.fzs, d2, dLt, dLen, dTy, dIsi, dIs, optR, leafR, blR, onBl, mulOk, takeAr, putAr, bindTg, wipe, back, dc, eqv_int, eqv_bl, eqv_str, D.ok, kN_int, kN_bl, kN_non, dWalk]
        · intro x hxm
          refine ⟨[some (.leaf (.tup [L, .tup xs, E])), some (.leaf L), some (.leaf (.tup xs)), some (.leaf E), some (.leaf x), none], ?_, rfl⟩
          obtain ⟨m, hm⟩ := hx x hxm
          have z := hr x (okd_of hm) k k
          simp [-R.bind, -R.thn, -S.thn, ↓bind_eq, ↓rthn_eq, ↓sthn_eq, runFn, Fn.start, outsOf, range0, range1, range2, range3, range4, exs, ex, exh, ev, evs, evA, evK, evB, evP, evI, evO, getL, setE, T.at1, T.fz, T.fzs, d2, dLt, dLen, dTy, dIsi, dIs, optR, leafR, blR, onBl, mulOk, takeAr, putAr, bindTg, wipe, back, dc, eqv_int, eqv_bl, eqv_str, D.ok, kN_int, kN_bl, kN_non, lcB1, hl, z]
      have e1 := db_all_map xs (isTupN k k)
      cases b2 : xs.all (isTupN k k) with
      | false =>
        rw [b2] at e1
        simp [-R.bind, -R.thn, -S.thn, ↓bind_eq, ↓rthn_eq, ↓sthn_eq, runFn, Fn.start, outsOf, range0, range1, range2, range3, range4, exs, ex, exh, ev, evs, evA, evK, evB, evP, evI, evO, getL, setE, T.at1, T.fz, T.fzs, d2, dLt, dLen, dTy, dIsi, dIs, optR, leafR, blR, onBl, mulOk, takeAr, putAr, bindTg, wipe, back, dc, eqv_int, eqv_bl, eqv_str, D.ok, kN_int, kN_bl, kN_non, langF, q, dIx, L2.atI, L2.ixN, hL, gm, q4, tgs, ↓l1, fzs_leaf, e1, langB, b1, D.items, b2]
      | true =>
        rw [b2] at e1
        have b2' := List.all_eq_true.mp b2
        let wz : D → Bool := wit 0 ((xs.length : Int) - 1)
        have l2 : ev ⟨call, glob, [], sub⟩ (.lc2 (.call iw (.v (.get 5) (.v (.int 0) (.v (.bin .sub (.bi .len (.cons (.get 2) .nil)) (.int 1)) .nil))) .nil [.v 0, .v 1, .v 2]) (.nm 4) (.d (.get 2)) (.nm 5) (.d (.get 4)) [4] [5]) [some (.leaf (.tup [L, .tup xs, E])), some (.leaf L), some (.leaf (.tup xs)), some (.leaf E), none, none] = .ok (.lst (xs.flatMap fun d => d.items.map fun d' => .leaf (.bl (wz d')))) [some (.leaf (.tup [L, .tup xs, E])), some (.leaf L), some (.leaf (.tup xs)), some (.leaf E), none, none] := by
          rw [lc2_pure ⟨call, glob, [], sub⟩ (e1 := [some (.leaf (.tup [L, .tup xs, E])), some (.leaf L), some (.leaf (.tup xs)), some (.leaf E), none, none]) (ds := xs) D.items (fun _ d' => .leaf (.bl (wz d'))) [some (.leaf (.tup [L, .tup xs, E])), some (.leaf L), some (.leaf (.tup xs)), some (.leaf E), none, none] rfl]
          · rfl
          · simp [-R.bind, -R.thn, -S.thn, ↓bind_eq, ↓rthn_eq, ↓sthn_eq, runFn, Fn.start, outsOf, range0, range1, range2, range3, range4, exs, ex, exh, ev, evs, evA, evK, evB, evP, evI, evO, getL, setE, T.at1, T.fz, T.fzs, d2, dLt, dLen, dTy, dIsi, dIs, optR, leafR, blR, onBl, mulOk, takeAr, putAr, bindTg, wipe, back, dc, eqv_int, eqv_bl, eqv_str, D.ok, kN_int, kN_bl, kN_non, dWalk]
          · exact sz
          · intro d hd
            have hd' := b2' d hd
            obtain ⟨m, hn⟩ := hx d hd
            cases d <;> simp [isTupN] at hd'
            rename_i ys
            refine ⟨[some (.leaf (.tup [L, .tup xs, E])), some (.leaf L), some (.leaf (.tup xs)), some (.leaf E), some (.leaf (.tup ys)), none], [some (.leaf (.tup [L, .tup xs, E])), some (.leaf L), some (.leaf (.tup xs)), some (.leaf E), some (.leaf (.tup ys)), none], rfl, ?_, rfl, ?_⟩
            · simp [-R.bind, -R.thn, -S.thn, ↓bind_eq, ↓rthn_eq, ↓sthn_eq, runFn, Fn.start, outsOf, range0, range1, range2, range3, range4, exs, ex, exh, ev, evs, evA, evK, evB, evP, evI, evO, getL, setE, T.at1, T.fz, T.fzs, d2, dLt, dLen, dTy, dIsi, dIs, optR, leafR, blR, onBl, mulOk, takeAr, putAr, bindTg, wipe, back, dc, eqv_int, eqv_bl, eqv_str, D.ok, kN_int, kN_bl, kN_non, dWalk, D.items]
            · intro d' hd'
              have od : okd d' := by
                cases m with
                | zero => simp [D.okN] at hn
                | succ m =>
                  rw [kN_tup, List.all_eq_true] at hn
                  exact okd_of (hn d' hd')
              have z := hw d' od 0 ((xs.length : Int) - 1)
              refine ⟨[some (.leaf (.tup [L, .tup xs, E])), some (.leaf L), some (.leaf (.tup xs)), some (.leaf E), some (.leaf (.tup ys)), some (.leaf d')], ?_, rfl⟩
              simp [-R.bind, -R.thn, -S.thn, ↓bind_eq, ↓rthn_eq, ↓sthn_eq, runFn, Fn.start, outsOf, range0, range1, range2, range3, range4, exs, ex, exh, ev, evs, evA, evK, evB, evP, evI, evO, getL, setE, T.at1, T.fz, T.fzs, d2, dLt, dLen, dTy, dIsi, dIs, optR, leafR, blR, onBl, mulOk, takeAr, putAr, bindTg, wipe, back, dc, eqv_int, eqv_bl, eqv_str, D.ok, kN_int, kN_bl, kN_non, lcB1, hm', z, wz]
        have e2 : db .all [.lst (T.fzs (xs.flatMap fun d => d.items.map fun d' => T.leaf (.bl (wz d'))))] = some (.leaf (.bl (xs.all fun r => r.items.all wz))) := by
          have e : T.fzs (xs.flatMap fun d => d.items.map fun d' => T.leaf (.bl (wz d'))) = (xs.flatMap fun d => d.items.map wz).map fun b => .bl b := by
            rw [fzs_eq, List.map_flatMap, List.map_flatMap]
            congr 1
            funext d
            rw [List.map_map, List.map_map]
            rfl
          rw [e, db_all_map, ← all_flat]
          rfl
        cases b3 : xs.all fun r => r.items.all wz with
        | false =>
          rw [b3] at e2
          have e : langB k (.tup xs) E = false := by
            show (isTupN 1 100 (.tup xs) && (xs.all (isTupN k k) && ((xs.all fun r => r.items.all wz) && idxB xs.length E))) = false
            rw [b3]; simp
          rw [e]
          simp [-R.bind, -R.thn, -S.thn, ↓bind_eq, ↓rthn_eq, ↓sthn_eq, runFn, Fn.start, outsOf, range0, range1, range2, range3, range4, exs, ex, exh, ev, evs, evA, evK, evB, evP, evI, evO, getL, setE, T.at1, T.fz, T.fzs, d2, dLt, dLen, dTy, dIsi, dIs, optR, leafR, blR, onBl, mulOk, takeAr, putAr, bindTg, wipe, back, dc, eqv_int, eqv_bl, eqv_str, D.ok, kN_int, kN_bl, kN_non, langF, q, dIx, L2.atI, L2.ixN, hL, gm, q4, tgs, ↓l1, ↓l2, fzs_leaf, e1, e2]
        | true =>
          rw [b3] at e2
          have e : langB k (.tup xs) E = idxB xs.length E := by
            show (isTupN 1 100 (.tup xs) && (xs.all (isTupN k k) && ((xs.all fun r => r.items.all wz) && idxB xs.length E))) = _
            rw [b1, b2, b3]; simp
          have z := hi E n oE xs.length
          rw [e]
          simp [-R.bind, -R.thn, -S.thn, ↓bind_eq, ↓rthn_eq, ↓sthn_eq, runFn, Fn.start, outsOf, range0, range1, range2, range3, range4, exs, ex, exh, ev, evs, evA, evK, evB, evP, evI, evO, getL, setE, T.at1, T.fz, T.fzs, d2, dLt, dLen, dTy, dIsi, dIs, optR, leafR, blR, onBl, mulOk, takeAr, putAr, bindTg, wipe, back, dc, eqv_int, eqv_bl, eqv_str, D.ok, kN_int, kN_bl, kN_non, langF, q, dIx, L2.atI, L2.ixN, hL, gm, q4, tgs, ↓l1, ↓l2, fzs_leaf, e1, e2, hm', z]
    | _ => simp [isTupN] at b1
end
end Mi
end
section
set_option maxRecDepth 100000
set_option maxHeartbeats 0
/-! Ln2: letters, words, languages drawn; where words lead. -/
namespace Mi
theorem lst_of {β : Type} (P : β → Prop) (mk : β → D) : ∀ ts : List T, (∀ t ∈ ts, ∃ b, P b ∧ t = .leaf (mk b)) → ∃ bs : List β, bs.length = ts.length ∧ (∀ b ∈ bs, P b) ∧ T.fzs ts = bs.map mk
  | [], _ => ⟨[], rfl, by simp, rfl⟩
  | t :: ts, h => by
    obtain ⟨b, hb, rfl⟩ := h t (by simp)
    obtain ⟨bs, h1, h2, h3⟩ := lst_of P mk ts fun u hu => h u (by simp [hu])
    refine ⟨b :: bs, by simp [h1], ?_, by rw [T.fzs, h3]; rfl⟩
    intro c hc
    rcases List.mem_cons.mp hc with rfl | hc
    · exact hb
    · exact h2 c hc
/-- a comprehension that draws for each whether it stays -/
theorem lc_sel (c : Cx) {elt : E} {tg : Tg} {it : I} {cs : Es} {own : List Nat} {e e1 : Env} {α : Type} (xs : List α) (φ : α → D) (g : α → T) (I : Env → Prop) (hI : evI c it e = .ok (xs.map φ) e1) (h0 : I (wipe own e1)) (hf : ∀ x ∈ xs, ∀ e, I e → ∃ o e', lcB c elt tg cs (φ x) e = .ok o e' ∧ (o = none ∨ o = some (g x)) ∧ I (wipe own e')) : ∃ (ys : List α) (e2 : Env), ev c (.lc elt tg it cs own) e = .ok (.lst (ys.map g)) (back own e1 e2) ∧ ys.Sublist xs ∧ I e2 := by
  have k : ∀ (zs : List α) (acc : List T) (e : Env), (∀ y ∈ zs, y ∈ xs) → I e → ∃ (ys : List α) (e2 : Env), compL own (lcB c elt tg cs) (zs.map φ) acc e = .ok (acc ++ ys.map g) e2 ∧ ys.Sublist zs ∧ I e2 := by
    intro zs
    induction zs with
    | nil => intro acc e _ hi; exact ⟨[], e, by simp [compL], .slnil, hi⟩
    | cons y r ih =>
      intro acc e hm hi
      obtain ⟨o, e', h1, h2, h3⟩ := hf y (hm y (by simp)) e hi
      rcases h2 with rfl | rfl
      · obtain ⟨ys, e2, h4, h5, h6⟩ := ih acc (wipe own e') (fun z hz => hm z (by simp [hz])) h3
        refine ⟨ys, e2, ?_, h5.cons _, h6⟩
        rw [List.map_cons, compL, h1]
        exact h4
      · obtain ⟨ys, e2, h4, h5, h6⟩ := ih (acc ++ [g y]) (wipe own e') (fun z hz => hm z (by simp [hz])) h3
        refine ⟨y :: ys, e2, ?_, h5.cons_cons _, h6⟩
        rw [List.map_cons, compL, h1]
        simp only
        rw [h4]
        simp
  obtain ⟨ys, e2, h1, h2, h3⟩ := k xs [] (wipe own e1) (fun _ h => h) h0
  refine ⟨ys, e2, ?_, h2, h3⟩
  rw [lc_eq, hI]
  show (match compL own (lcB c elt tg cs) (xs.map φ) [] (wipe own e1) with
    | R.ok ts e2 => R.ok (T.lst ts) (back own e1 e2)
    | _ => R.bad) = _
  rw [h1]
  rfl
theorem d2_lst {xs ys : List D} (h : xs.length + ys.length ≤ line) : d2 .add (.lst xs) (.lst ys) = some (.lst (leafs (xs ++ ys))) := by
  show (if xs.length + ys.length ≤ line then some (T.lst (leafs (xs ++ ys))) else none) = _
  rw [if_pos h]
theorem sl_toL {xs : List D} {q : Nat} (h : q ≤ xs.length) : dSl (.lst xs) none (some (q : Int)) = some (.lst (leafs (xs.take q))) := by
  show some (T.lst (leafs (cut xs none (some (q : Int))))) = _
  rw [cut_to xs q h]
theorem sl_fromL {xs : List D} {q : Nat} (h : q ≤ xs.length) : dSl (.lst xs) (some (q : Int)) none = some (.lst (leafs (xs.drop q))) := by
  show some (T.lst (leafs (cut xs (some (q : Int)) none))) = _
  rw [cut_from xs q h]
/-! ### letters -/
def namesS : List PySem.Str := ["a", "b", "x1", "zz9", "c0c0c0c0c0", "d"]
def letS (a b : Nat) : List PySem.Str := (namesS.drop a ++ namesS.take a).take (1 + b)
def letD (a b : Nat) : List D := (letS a b).map .str
theorem letS_len {a b : Nat} (ha : a < 6) (hb : b < 4) : (letS a b).length = 1 + b := by
  unfold letS
  rw [List.length_take, List.length_append, List.length_drop, List.length_take]
  have : namesS.length = 6 := rfl
  omega
theorem letS_mem {a b : Nat} {s : PySem.Str} (h : s ∈ letS a b) : s ∈ namesS := by
  have := List.mem_of_mem_take h
  rw [List.mem_append] at this
  rcases this with h | h
  · exact List.mem_of_mem_drop h
  · exact List.mem_of_mem_take h
theorem letS_cnt {a b : Nat} (ha : a < 6) (hb : b < 4) : cntF (letS a b) (letS a b).length = 1 + b := by
  have h : ((List.range 6).all fun a => (List.range 4).all fun b => cntF (letS a b) (letS a b).length == 1 + b) = true := by decide +kernel
  rw [List.all_eq_true] at h
  have h1 := h a (List.mem_range.mpr ha)
  rw [List.all_eq_true] at h1
  exact eq_of_beq (h1 b (List.mem_range.mpr hb))
theorem strs?_map' (ss : List PySem.Str) : strs? (ss.map .str) = some ss := by
  induction ss with
  | nil => rfl
  | cons s r ih => rw [List.map_cons, strs?, ih]; rfl
theorem dLset_strs {ss : List PySem.Str} (h : ss.length ≤ 1000) : dLset (.tup (ss.map .str)) = some (.leaf (.int (cntF ss ss.length))) := by
  show (match strs? (ss.map .str) with
    | some ss => if ss.length ≤ 1000 then some (T.leaf (.int (cntF ss ss.length))) else none
    | none => none) = _
  rw [strs?_map']
  show (if ss.length ≤ 1000 then some (T.leaf (.int (cntF ss ss.length))) else none) = _
  rw [if_pos h]
def letF (ir il : Nat) : Fn := ⟨1, 2, [],
    (.cons (.ifs (.bop false (.not (.call ir (.v (.fz 0) (.v (.int 1) (.v (.gl "MOST_LETTERS") .nil))) .nil [.v 0, .v 1, .v 2])) (.cons (.not (.bi .all (.cons (.lc (.call il (.v (.get 1) .nil) .nil [.v 0]) (.nm 1) (.d (.fz 0)) .nil [1]) .nil))) .nil)) (.cons (.ret (.bl false))
    .nil) .nil)
    (.cons (.ret (.cmp .eq (.lset (.fz 0)) (.bi .len (.cons (.fz 0) .nil))))
    .nil))⟩
section
variable (ir il : Nat) (call : Nat → List T → Out) (glob : PySem.Str → Option D) (sub : Nat → Nat → Bool) (gm : glob "MOST_LETTERS" = some (.int 6)) (hr : ∀ d, okd d → ∀ lo hi : Int, call ir [.leaf d, .leaf (.int lo), .leaf (.int hi)] = .ret (.leaf (.bl (isTupN lo hi d))) [none, none, none])
include gm hr
theorem let_no (d : D) (h : okd d) (h6 : isTupN 1 6 d = false) : runFn call glob sub (letF ir il) [.leaf d] = .ret (.leaf (.bl false)) [none] := by
  have q := hr d h 1 6
  rw [h6] at q
  simp [-R.bind, -R.thn, -S.thn, ↓bind_eq, ↓rthn_eq, ↓sthn_eq, runFn, Fn.start, outsOf, range0, range1, range2, range3, range4, exs, ex, exh, ev, evs, evA, evK, evB, evP, evI, evO, getL, setE, T.at1, T.fz, T.fzs, d2, dLt, dLen, dTy, dIsi, dIs, optR, leafR, blR, onBl, mulOk, takeAr, putAr, bindTg, wipe, back, dc, eqv_int, eqv_bl, eqv_str, D.ok, kN_int, kN_bl, kN_non, letF, gm, q]
theorem let_all (ss : List PySem.Str) (p : PySem.Str → Bool) (hp : ∀ s ∈ ss, call il [.leaf (.str s)] = .ret (.leaf (.bl (p s))) [none]) (h1 : 0 < ss.length) (h6 : ss.length ≤ 6) : runFn call glob sub (letF ir il) [.leaf (.tup (ss.map .str))] = .ret (.leaf (.bl (ss.all p && decide (cntF ss ss.length = ss.length)))) [none] := by
  have q := hr (.tup (ss.map .str)) trivial 1 6
  have q6 : isTupN 1 6 (.tup (ss.map .str)) = true := by
    show (decide (1 ≤ ((ss.map D.str).length : Int)) && decide (((ss.map D.str).length : Int) ≤ 6)) = true
    rw [List.length_map, decide_eq_true (by omega), decide_eq_true (by omega)]; rfl
  rw [q6] at q
  have l1 : ev ⟨call, glob, [], sub⟩ (.lc (.call il (.v (.get 1) .nil) .nil [.v 0]) (.nm 1) (.d (.fz 0)) .nil [1]) [some (.leaf (.tup (ss.map .str))), none] = .ok (.lst (ss.map fun s => .leaf (.bl (p s)))) [some (.leaf (.tup (ss.map .str))), none] := by
    rw [lc_map ⟨call, glob, [], sub⟩ (e1 := [some (.leaf (.tup (ss.map .str))), none]) ss .str fun s => .leaf (.bl (p s))]
    · rfl
    · simp [-R.bind, -R.thn, -S.thn, ↓bind_eq, ↓rthn_eq, ↓sthn_eq, runFn, Fn.start, outsOf, range0, range1, range2, range3, range4, exs, ex, exh, ev, evs, evA, evK, evB, evP, evI, evO, getL, setE, T.at1, T.fz, T.fzs, d2, dLt, dLen, dTy, dIsi, dIs, optR, leafR, blR, onBl, mulOk, takeAr, putAr, bindTg, wipe, back, dc, eqv_int, eqv_bl, eqv_str, D.ok, kN_int, kN_bl, kN_non, dWalk]
    · intro s hs
      refine ⟨[some (.leaf (.tup (ss.map .str))), some (.leaf (.str s))], ?_, rfl⟩
      have z := hp s hs
      simp [-R.bind, -R.thn, -S.thn, ↓bind_eq, ↓rthn_eq, ↓sthn_eq, runFn, Fn.start, outsOf, range0, range1, range2, range3, range4, exs, ex, exh, ev, evs, evA, evK, evB, evP, evI, evO, getL, setE, T.at1, T.fz, T.fzs, d2, dLt, dLen, dTy, dIsi, dIs, optR, leafR, blR, onBl, mulOk, takeAr, putAr, bindTg, wipe, back, dc, eqv_int, eqv_bl, eqv_str, D.ok, kN_int, kN_bl, kN_non, lcB1, z]
  have e1 := db_all_map ss p
  have e2 := dLset_strs (ss := ss) (by omega)
  have e3 : db .len [.tup (ss.map .str)] = some (.leaf (.int (ss.length : Int))) := by
    rw [db_len]
    show some (T.leaf (.int ((ss.map D.str).length : Int))) = _
    rw [List.length_map]
  cases b : ss.all p
  · rw [b] at e1
    simp [-R.bind, -R.thn, -S.thn, ↓bind_eq, ↓rthn_eq, ↓sthn_eq, runFn, Fn.start, outsOf, range0, range1, range2, range3, range4, exs, ex, exh, ev, evs, evA, evK, evB, evP, evI, evO, getL, setE, T.at1, T.fz, T.fzs, d2, dLt, dLen, dTy, dIsi, dIs, optR, leafR, blR, onBl, mulOk, takeAr, putAr, bindTg, wipe, back, dc, eqv_int, eqv_bl, eqv_str, D.ok, kN_int, kN_bl, kN_non, letF, gm, q, ↓l1, fzs_leaf, e1]
  · rw [b] at e1
    simp [-R.bind, -R.thn, -S.thn, ↓bind_eq, ↓rthn_eq, ↓sthn_eq, runFn, Fn.start, outsOf, range0, range1, range2, range3, range4, exs, ex, exh, ev, evs, evA, evK, evB, evP, evI, evO, getL, setE, T.at1, T.fz, T.fzs, d2, dLt, dLen, dTy, dIsi, dIs, optR, leafR, blR, onBl, mulOk, takeAr, putAr, bindTg, wipe, back, dc, eqv_int, eqv_bl, eqv_str, D.ok, kN_int, kN_bl, kN_non, letF, gm, q, ↓l1, fzs_leaf, e1, e2, e3, beq_nat]
end
def dletF (i : Nat) : Fn := ⟨2, 4, [0],
    (.cons (.asg 2 (.lst (.cons (.str "a") (.cons (.str "b") (.cons (.str "x1") (.cons (.str "zz9") (.cons (.str "c0c0c0c0c0") (.cons (.str "d") .nil))))))))
    (.cons (.asg 3 (.call i (.io 0 (.v (.int 6) .nil)) .nil [.io 0, .v 0]))
    (.cons (.asg 2 (.bin .add (.slc (.fz 2) (.so (.fz 3)) .no) (.slc (.fz 2) .no (.so (.fz 3)))))
    (.cons (.ret (.ty .tuple (.cons (.slc (.fz 2) .no (.so (.bin .add (.int 1) (.call i (.io 0 (.v (.fz 1) .nil)) .nil [.io 0, .v 0])))) .nil)))
    .nil))))⟩
theorem dlet_ok (i : Nat) (call : Nat → List T → Out) (glob : PySem.Str → Option D) (sub : Nat → Nat → Bool) (hd : WDraws call i) (t : T) (ht : Well t) (most : Nat) (hm : 0 < most) (hm4 : most ≤ 4) : ∃ a b t', a < 6 ∧ b < most ∧ Well t' ∧ runFn call glob sub (dletF i) [t, .leaf (.int most)] = .ret (.leaf (.tup (letD a b))) [some t', none] := by
  obtain ⟨a, t1, h1, ha, w1⟩ := hd.nat t 6 ht (by omega) (by omega)
  obtain ⟨b, t2, h2, hb, w2⟩ := hd.nat t1 most w1 hm (by omega)
  refine ⟨a, b, t2, ha, hb, w2, ?_⟩
  have h1' : call i [t, .leaf (.int 6)] = .ret (.leaf (.int a)) [some t1, none] := h1
  let N : List D := namesS.map .str
  have lN : N.length = 6 := rfl
  have hN : N = [.str "a", .str "b", .str "x1", .str "zz9", .str "c0c0c0c0c0", .str "d"] := rfl
  have e0 : ex ⟨call, glob, [0], sub⟩ ((dletF i).body.get 0) [some t, some (.leaf (.int most)), none, none] = .nx [some t, some (.leaf (.int most)), some (.lst (leafs N)), none] := by
    simp [-R.bind, -R.thn, -S.thn, ↓bind_eq, ↓rthn_eq, ↓sthn_eq, runFn, Fn.start, outsOf, range0, range1, range2, range3, range4, exs, ex, exh, ev, evs, evA, evK, evB, evP, evI, evO, getL, setE, T.at1, T.fz, T.fzs, d2, dLt, dLen, dTy, dIsi, dIs, optR, leafR, blR, onBl, mulOk, takeAr, putAr, bindTg, wipe, back, dc, eqv_int, eqv_bl, eqv_str, D.ok, kN_int, kN_bl, kN_non, dletF, Sts.get, N, namesS, leafs]
  clear_value N
  have e1 : ex ⟨call, glob, [0], sub⟩ ((dletF i).body.get 1) [some t, some (.leaf (.int most)), some (.lst (leafs N)), none] = .nx [some t1, some (.leaf (.int most)), some (.lst (leafs N)), some (.leaf (.int a))] := by
    simp [-R.bind, -R.thn, -S.thn, ↓bind_eq, ↓rthn_eq, ↓sthn_eq, runFn, Fn.start, outsOf, range0, range1, range2, range3, range4, exs, ex, exh, ev, evs, evA, evK, evB, evP, evI, evO, getL, setE, T.at1, T.fz, T.fzs, d2, dLt, dLen, dTy, dIsi, dIs, optR, leafR, blR, onBl, mulOk, takeAr, putAr, bindTg, wipe, back, dc, eqv_int, eqv_bl, eqv_str, D.ok, kN_int, kN_bl, kN_non, dletF, Sts.get, h1']
  have s1 := sl_fromL (xs := N) (q := a) (by omega)
  have s2 := sl_toL (xs := N) (q := a) (by omega)
  have s3 := d2_lst (xs := N.drop a) (ys := N.take a) (by rw [List.length_drop, List.length_take]; unfold line; omega)
  let R : List D := N.drop a ++ N.take a
  have lR : R.length = 6 := by show (N.drop a ++ N.take a).length = 6; rw [List.length_append, List.length_drop, List.length_take]; omega
  have s3' : d2 .add (.lst (N.drop a)) (.lst (N.take a)) = some (.lst (leafs R)) := s3
  have hR : R.take (1 + b) = letD a b := by
    show (N.drop a ++ N.take a).take (1 + b) = _
    unfold letD letS
    rw [List.map_take, List.map_append, List.map_drop, List.map_take, hN]
    rfl
  clear_value R
  have e2 : ex ⟨call, glob, [0], sub⟩ ((dletF i).body.get 2) [some t1, some (.leaf (.int most)), some (.lst (leafs N)), some (.leaf (.int a))] = .nx [some t1, some (.leaf (.int most)), some (.lst (leafs R)), some (.leaf (.int a))] := by
    simp [-R.bind, -R.thn, -S.thn, ↓bind_eq, ↓rthn_eq, ↓sthn_eq, runFn, Fn.start, outsOf, range0, range1, range2, range3, range4, exs, ex, exh, ev, evs, evA, evK, evB, evP, evI, evO, getL, setE, T.at1, T.fz, T.fzs, dLt, dLen, dIsi, dIs, optR, leafR, blR, onBl, mulOk, takeAr, putAr, bindTg, wipe, back, dc, eqv_int, eqv_bl, eqv_str, D.ok, kN_int, kN_bl, kN_non, dletF, Sts.get, fzs_leafs, s1, s2, s3']
  have s4 := sl_toL (xs := R) (q := 1 + b) (by omega)
  rw [hR] at s4
  have s5 : ((1 + b : Nat) : Int) = 1 + (b : Int) := by omega
  rw [s5] at s4
  have s6 : dTy .tuple [.lst (letD a b)] = some (.leaf (.tup (letD a b))) := rfl
  have e3 : ex ⟨call, glob, [0], sub⟩ ((dletF i).body.get 3) [some t1, some (.leaf (.int most)), some (.lst (leafs R)), some (.leaf (.int a))] = .rt (.leaf (.tup (letD a b))) [some t2, some (.leaf (.int most)), some (.leaf (.lst R)), some (.leaf (.int a))] := by
    simp [-R.bind, -R.thn, -S.thn, ↓bind_eq, ↓rthn_eq, ↓sthn_eq, runFn, Fn.start, outsOf, range0, range1, range2, range3, range4, exs, ex, exh, ev, evs, evA, evK, evB, evP, evI, evO, getL, setE, T.at1, T.fz, T.fzs, dLt, dLen, dIsi, dIs, optR, leafR, blR, onBl, mulOk, takeAr, putAr, bindTg, wipe, back, dc, eqv_int, eqv_bl, eqv_str, D.ok, kN_int, kN_bl, kN_non, dletF, Sts.get, fzs_leafs, h2, add_int, s4, s6]
  have := run_rt (call := call) (glob := glob) (sub := sub) (F := dletF i) (ts := [t, .leaf (.int most)]) rfl (by
    show exs ⟨call, glob, [0], sub⟩ ((dletF i).body.drop 0) [some t, some (.leaf (.int most)), none, none] = _
    rw [exs_at _ _ 0 _ _ rfl e0, exs_at _ _ 1 _ _ rfl e1, exs_at _ _ 2 _ _ rfl e2, exs_rt _ _ 3 _ _ _ rfl e3])
  rw [this]; rfl
/-! ### words -/
def natsD (ns : List Nat) : D := .tup (ns.map fun n : Nat => .int (n : Int))
theorem natsD_ok (ns : List Nat) (k : Nat) : D.okN (k + 1) (natsD ns) = true := by
  unfold natsD
  rw [kN_tup, List.all_eq_true]
  intro d hd
  obtain ⟨n, _, rfl⟩ := List.mem_map.mp hd
  exact kN_int _ _
theorem wit_nat {n m : Nat} (h : n < m) : wit 0 ((m : Int) - 1) (.int (n : Int)) = true := by
  show (decide (0 ≤ (n : Int)) && decide ((n : Int) ≤ (m : Int) - 1)) = true
  rw [decide_eq_true (by omega), decide_eq_true (by omega)]; rfl
theorem nats_all {ns : List Nat} {m : Nat} (h : ∀ n ∈ ns, n < m) : (natsD ns).items.all (wit 0 ((m : Int) - 1)) = true := by
  show (ns.map fun n : Nat => D.int (n : Int)).all _ = true
  rw [List.all_eq_true]
  intro d hd
  obtain ⟨n, hn, rfl⟩ := List.mem_map.mp hd
  exact wit_nat (h n hn)
theorem wordB_nats {ns : List Nat} {k : Nat} (h : ∀ n ∈ ns, n < k) (hl : ns.length ≤ 1000) : wordB k (natsD ns) = true := by
  have e := nats_all h
  show (decide ((ns.map fun n : Nat => D.int (n : Int)).length ≤ 1000) && _) = true
  rw [List.length_map, decide_eq_true hl]
  exact e
def dwordF (i : Nat) : Fn := ⟨3, 4, [0],
    (.cons (.ret (.ty .tuple (.cons (.lc (.call i (.io 0 (.v (.bi .len (.cons (.fz 1) .nil)) .nil)) .nil [.io 0, .v 0]) (.nm 3) (.d (.rg (.cons (.call i (.io 0 (.v (.bin .add (.fz 2) (.int 1)) .nil)) .nil [.io 0, .v 0]) .nil))) .nil [3]) .nil)))
    .nil)⟩
theorem dword_ok (i : Nat) (call : Nat → List T → Out) (glob : PySem.Str → Option D) (sub : Nat → Nat → Bool) (hd : WDraws call i) (t : T) (ht : Well t) (L : D) (k most : Nat) (hL : dLen L = some k) (hk : 0 < k) (hk2 : k ≤ 100) (hm : most ≤ 900) : ∃ ns t', (∀ n ∈ ns, n < k) ∧ ns.length ≤ most ∧ Well t' ∧ runFn call glob sub (dwordF i) [t, .leaf L, .leaf (.int most)] = .ret (.leaf (natsD ns)) [some t', none, none] := by
  obtain ⟨n, t1, h1, hn, w1⟩ := hd.nat t (most + 1) ht (by omega) (by omega)
  have h1' : call i [t, .leaf (.int ((most : Int) + 1))] = .ret (.leaf (.int n)) [some t1, none] := h1
  have hl := db_len L
  rw [hL] at hl
  have r1 := rngOf_nat (n := n) (by unfold line; omega)
  have r2 := dWalk_rng (n := n) (by unfold line; omega)
  obtain ⟨ts, e2, g1, g2, g3, t', g4, rfl⟩ := lc_draw ⟨call, glob, [0], sub⟩ (elt := .call i (.io 0 (.v (.bi .len (.cons (.fz 1) .nil)) .nil)) .nil [.io 0, .v 0]) (tg := .nm 3) (it := .d (.rg (.cons (.call i (.io 0 (.v (.bin .add (.fz 2) (.int 1)) .nil)) .nil [.io 0, .v 0]) .nil))) (own := [3]) (e := [some t, some (.leaf L), some (.leaf (.int most)), none]) (e1 := [some t1, some (.leaf L), some (.leaf (.int most)), none]) (List.range n) (fun q : Nat => .int (q : Int)) (fun u => ∃ z : Nat, z < k ∧ u = .leaf (.int (z : Int))) (fun _ e => ∃ t', Well t' ∧ e = [some t', some (.leaf L), some (.leaf (.int most)), none]) (by simp [-R.bind, -R.thn, -S.thn, ↓bind_eq, ↓rthn_eq, ↓sthn_eq, runFn, Fn.start, outsOf, range0, range1, range2, range3, range4, exs, ex, exh, ev, evs, evA, evK, evB, evP, evI, evO, getL, setE, T.at1, T.fz, T.fzs, d2, dLt, dLen, dTy, dIsi, dIs, optR, leafR, blR, onBl, mulOk, takeAr, putAr, bindTg, wipe, back, dc, eqv_int, eqv_bl, eqv_str, D.ok, kN_int, kN_bl, kN_non, h1', r1, r2]) ⟨t1, w1, rfl⟩ (by
    rintro q _ j _ hj ⟨t', ht', rfl⟩
    obtain ⟨z, t2, z1, z2, z3⟩ := hd.nat t' k ht' hk (by omega)
    refine ⟨.leaf (.int z), [some t2, some (.leaf L), some (.leaf (.int most)), some (.leaf (.int q))], ?_, ⟨z, z2, rfl⟩, t2, z3, rfl⟩
    simp [-R.bind, -R.thn, -S.thn, ↓bind_eq, ↓rthn_eq, ↓sthn_eq, runFn, Fn.start, outsOf, range0, range1, range2, range3, range4, exs, ex, exh, ev, evs, evA, evK, evB, evP, evI, evO, getL, setE, T.at1, T.fz, T.fzs, d2, dLt, dLen, dTy, dIsi, dIs, optR, leafR, blR, onBl, mulOk, takeAr, putAr, bindTg, wipe, back, dc, eqv_int, eqv_bl, eqv_str, D.ok, kN_int, kN_bl, kN_non, lcB1, hl, z1])
  obtain ⟨ns, n1, n2, n3⟩ := lst_of (fun z : Nat => z < k) (fun z : Nat => D.int (z : Int)) ts g3
  refine ⟨ns, t', n2, ?_, g4, ?_⟩
  · rw [n1, g2, List.length_range]; omega
  · have g1' : ev ⟨call, glob, [0], sub⟩ (.lc (.call i (.io 0 (.v (.bi .len (.cons (.fz 1) .nil)) .nil)) .nil [.io 0, .v 0]) (.nm 3) (.d (.rg (.cons (.call i (.io 0 (.v (.bin .add (.fz 2) (.int 1)) .nil)) .nil [.io 0, .v 0]) .nil))) .nil [3]) [some t, some (.leaf L), some (.leaf (.int most)), none] = .ok (.lst ts) [some t', some (.leaf L), some (.leaf (.int most)), none] := g1
    simp [-R.bind, -R.thn, -S.thn, ↓bind_eq, ↓rthn_eq, ↓sthn_eq, runFn, Fn.start, outsOf, range0, range1, range2, range3, range4, exs, ex, exh, ev, evs, evA, evK, evB, evP, evI, evO, getL, setE, T.at1, T.fz, T.fzs, d2, dLt, dLen, dTy, dIsi, dIs, optR, leafR, blR, onBl, mulOk, takeAr, putAr, bindTg, wipe, back, dc, eqv_int, eqv_bl, eqv_str, D.ok, kN_int, kN_bl, kN_non, dwordF, ↓g1', n3, natsD]
/-! ### languages -/
def rowsD (rs : List (List Nat)) : D := .tup (rs.map natsD)
/-- a language: its states m, each row of k states -/
structure Lang (k m : Nat) (rs : List (List Nat)) (es : List Nat) : Prop where
  len : rs.length = m
  pos : 0 < m
  most : m ≤ 100
  row : ∀ r ∈ rs, r.length = k ∧ ∀ n ∈ r, n < m
  ends : es.Sublist (List.range m)
theorem Lang.ok {k m : Nat} {rs : List (List Nat)} {es : List Nat} (h : Lang k m rs es) : langB k (rowsD rs) (natsD es) = true := by
  have l1 : (rs.map natsD).length = m := by rw [List.length_map, h.len]
  have a1 : isTupN 1 100 (rowsD rs) = true := by
    show (decide (1 ≤ ((rs.map natsD).length : Int)) && decide (((rs.map natsD).length : Int) ≤ 100)) = true
    have := h.pos; have := h.most
    rw [l1, decide_eq_true (by omega), decide_eq_true (by omega)]; rfl
  have a2 : (rs.map natsD).all (isTupN k k) = true := by
    rw [List.all_eq_true]
    intro d hd
    obtain ⟨r, hr, rfl⟩ := List.mem_map.mp hd
    show (decide ((k : Int) ≤ ((r.map fun n : Nat => D.int (n : Int)).length : Int)) && decide (((r.map fun n : Nat => D.int (n : Int)).length : Int) ≤ (k : Int))) = true
    rw [List.length_map, (h.row r hr).1, decide_eq_true (by omega)]; rfl
  have a3 : ((rs.map natsD).all fun r => r.items.all (wit 0 ((m : Int) - 1))) = true := by
    rw [List.all_eq_true]
    intro d hd
    obtain ⟨r, hr, rfl⟩ := List.mem_map.mp hd
    exact nats_all (h.row r hr).2
  have a4 : idxB m (natsD es) = true := by
    have e1 : (natsD es).items.all (wit 0 ((m : Int) - 1)) = true := nats_all fun n hn => List.mem_range.mp (h.ends.subset hn)
    show ((es.map fun n : Nat => D.int (n : Int)).all (wit 0 ((m : Int) - 1)) && ascB ((es.map fun n : Nat => D.int (n : Int)).map dToI)) = true
    rw [show (es.map fun n : Nat => D.int (n : Int)).all (wit 0 ((m : Int) - 1)) = true from e1, Bool.true_and, List.map_map]
    apply ascB_pw
    have p := (List.pairwise_lt_range (n := m)).sublist h.ends
    rw [List.pairwise_map]
    exact p.imp fun hab => by show (_ : Int) < _; simp [dToI]; omega
  show (isTupN 1 100 (rowsD rs) && ((rs.map natsD).all (isTupN k k) && (((rs.map natsD).all fun r => r.items.all (wit 0 (((rs.map natsD).length : Int) - 1))) && idxB (rs.map natsD).length (natsD es)))) = true
  rw [l1, a1, a2, a3, a4]
  rfl
theorem rowsD_ok (rs : List (List Nat)) (k : Nat) : D.okN (k + 2) (rowsD rs) = true := by
  unfold rowsD
  rw [kN_tup, List.all_eq_true]
  intro d hd
  obtain ⟨r, _, rfl⟩ := List.mem_map.mp hd
  exact natsD_ok r k
theorem Lang.sml {k m : Nat} {rs : List (List Nat)} {es : List Nat} (h : Lang k m rs es) (hk : k ≤ 100) : ((rowsD rs).items.flatMap D.items).length ≤ line := by
  have : ∀ xs : List (List Nat), (∀ r ∈ xs, r.length ≤ 100) → ((xs.map natsD).flatMap D.items).length ≤ 100 * xs.length := by
    intro xs
    induction xs with
    | nil => intro _; simp
    | cons x r ih =>
      intro h
      have h1 := h x (by simp)
      have h2 := ih fun y hy => h y (by simp [hy])
      have e : (natsD x).items.length = x.length := by show (x.map fun n : Nat => D.int (n : Int)).length = _; rw [List.length_map]
      rw [List.map_cons, List.flatMap_cons, List.length_append, List.length_cons, e]
      omega
  have h3 := this rs fun r hr => by rw [(h.row r hr).1]; exact hk
  have h4 := h.most
  have h5 := h.len
  show ((rs.map natsD).flatMap D.items).length ≤ line
  unfold line
  omega
end Mi
end
section
set_option maxRecDepth 100000
set_option maxHeartbeats 0
/-! Mc1: machines: the defs that judge them, and what they answer. -/
namespace Mi
/-! ### rows of ints, ascending -/
def ascR (rs : List (List Int)) : Bool := (rs.zip rs.tail).all fun p => HT.lexLt p.1 p.2
theorem ints?_map' (ns : List Int) : ints? (ns.map .int) = some ns := by
  induction ns with
  | nil => rfl
  | cons n r ih => rw [List.map_cons, ints?, ih]; rfl
theorem dLt_row (a b : List Int) : dLt (rowT a) (rowT b) = some (HT.lexLt a b) := by
  show (match ints? (a.map .int), ints? (b.map .int) with
    | some ns, some ms => some (HT.lexLt ns ms)
    | _, _ => none) = _
  rw [ints?_map', ints?_map']
theorem asc_okR (call : Nat → List T → Out) (glob : PySem.Str → Option D) (sub : Nat → Nat → Bool) (rs : List (List Int)) : runFn call glob sub ascF [.leaf (.tup (rs.map rowT))] = .ret (.leaf (.bl (ascR rs))) [none] := by
  have e2 : dSl (.tup (rs.map rowT)) (some 1) none = some (.leaf (.tup (rs.map rowT).tail)) := by
    show some (T.leaf (.tup (cut (rs.map rowT) (some 1) none))) = _
    rw [cut_tail]
  have e3 : dZip (.tup (rs.map rowT)) (.tup (rs.map rowT).tail) = some ((rs.zip rs.tail).map fun p => .tup [rowT p.1, rowT p.2]) := by
    show some (((rs.map rowT).zip (rs.map rowT).tail).map fun p => D.tup [p.1, p.2]) = _
    rw [← List.map_tail, List.zip_map, List.map_map]
    rfl
  have l1 : ev ⟨call, glob, [], sub⟩ (.lc (.cmp .lt (.get 1) (.get 2)) (.tp [1, 2]) (.zp (.fz 0) (.slc (.fz 0) (.so (.int 1)) .no)) .nil [1, 2]) [some (.leaf (.tup (rs.map rowT))), none, none] = .ok (.lst ((rs.zip rs.tail).map fun p => .leaf (.bl (HT.lexLt p.1 p.2)))) [some (.leaf (.tup (rs.map rowT))), none, none] := by
    rw [lc_map ⟨call, glob, [], sub⟩ (e1 := [some (.leaf (.tup (rs.map rowT))), none, none]) (rs.zip rs.tail) (fun p => .tup [rowT p.1, rowT p.2]) fun p => .leaf (.bl (HT.lexLt p.1 p.2))]
    · rfl
    · simp [-R.bind, -R.thn, -S.thn, ↓bind_eq, ↓rthn_eq, ↓sthn_eq, runFn, Fn.start, outsOf, range0, range1, range2, range3, range4, exs, ex, exh, ev, evs, evA, evK, evB, evP, evI, evO, getL, setE, T.at1, T.fz, T.fzs, d2, dLt, dLen, dTy, dIsi, dIs, optR, leafR, blR, onBl, mulOk, takeAr, putAr, bindTg, wipe, back, dc, eqv_int, eqv_bl, eqv_str, D.ok, kN_int, kN_bl, kN_non, e2, e3]
    · intro p _
      refine ⟨[some (.leaf (.tup (rs.map rowT))), some (.leaf (rowT p.1)), some (.leaf (rowT p.2))], ?_, rfl⟩
      have q := dLt_row p.1 p.2
      generalize rowT p.1 = a at q
      generalize rowT p.2 = b at q
      have q' : dc .lt a b = some (HT.lexLt p.1 p.2) := q
      have q2 : (match dLt a b with
        | some true => R.ok (T.leaf (.bl true)) [some (.leaf (.tup (rs.map rowT))), some (.leaf a), some (.leaf b)]
        | some false => R.ok (T.leaf (.bl false)) [some (.leaf (.tup (rs.map rowT))), some (.leaf a), some (.leaf b)]
        | none => R.bad) = .ok (.leaf (.bl (HT.lexLt p.1 p.2))) [some (.leaf (.tup (rs.map rowT))), some (.leaf a), some (.leaf b)] := by
        rw [q]
        cases HT.lexLt p.1 p.2 <;> rfl
      show blR (dc .lt a b) [some (.leaf (.tup (rs.map rowT))), some (.leaf a), some (.leaf b)] = _
      rw [q']
      rfl
  have e4 := db_all_map (rs.zip rs.tail) fun p => HT.lexLt p.1 p.2
  have e5 : (rs.zip rs.tail).all (fun p => HT.lexLt p.1 p.2) = ascR rs := rfl
  rw [e5] at e4
  simp [-R.bind, -R.thn, -S.thn, ↓bind_eq, ↓rthn_eq, ↓sthn_eq, runFn, Fn.start, outsOf, range0, range1, range2, range3, range4, exs, ex, exh, ev, evs, evA, evK, evB, evP, evI, evO, getL, setE, T.at1, T.fz, T.fzs, d2, dLt, dLen, dTy, dIsi, dIs, optR, leafR, blR, onBl, mulOk, takeAr, putAr, bindTg, wipe, back, dc, eqv_int, eqv_bl, eqv_str, D.ok, kN_int, kN_bl, kN_non, ascF, ↓l1, fzs_leaf, e4]
/-! ### moves -/
def nth (i : Nat) (d : D) : D := (d.items[i]?).getD .non
def moveB (k n : Int) (d : D) : Bool := isTupN 4 4 d && ((wit 0 (n - 1) (nth 0 d) && wit 0 (n - 1) (nth 3 d)) && (wit 0 (k - 1) (nth 1 d) && wit (-1) 50 (nth 2 d)))
def moveF (ir iw : Nat) : Fn := ⟨3, 4, [],
    (.cons (.ifs (.bop false (.not (.call ir (.v (.fz 2) (.v (.int 4) (.v (.int 4) .nil))) .nil [.v 0, .v 1, .v 2])) (.cons (.not (.bi .all (.cons (.lc (.call iw (.v (.get 3) (.v (.int 0) (.v (.bin .sub (.fz 1) (.int 1)) .nil))) .nil [.v 0, .v 1, .v 2]) (.nm 3) (.d (.tup (.cons (.idx (.fz 2) (.int 0)) (.cons (.idx (.fz 2) (.int 3)) .nil)))) .nil [3]) .nil))) .nil)) (.cons (.ret (.bl false))
    .nil) .nil)
    (.cons (.ret (.bop true (.call iw (.v (.idx (.fz 2) (.int 1)) (.v (.int 0) (.v (.bin .sub (.fz 0) (.int 1)) .nil))) .nil [.v 0, .v 1, .v 2]) (.cons (.call iw (.v (.idx (.fz 2) (.int 2)) (.v (.gl "RESET_COST") (.v (.gl "MOST_COST") .nil))) .nil [.v 0, .v 1, .v 2]) .nil)))
    .nil))⟩
theorem tup4 {d : D} (h : isTupN 4 4 d = true) : ∃ a b c e, d = .tup [a, b, c, e] := by
  cases d with
  | tup xs =>
    have h' : (decide ((4 : Int) ≤ (xs.length : Int)) && decide ((xs.length : Int) ≤ 4)) = true := h
    rw [Bool.and_eq_true, decide_eq_true_eq, decide_eq_true_eq] at h'
    match xs, (by omega : xs.length = 4) with
    | [a, b, c, e], _ => exact ⟨a, b, c, e, rfl⟩
  | _ => cases h
theorem okd4 {n : Nat} {a b c e : D} (h : D.okN n (.tup [a, b, c, e]) = true) : okd a ∧ okd b ∧ okd c ∧ okd e := by
  cases n with
  | zero => simp [D.okN] at h
  | succ n =>
    rw [kN_tup] at h
    simp only [List.all_cons, List.all_nil, Bool.and_true, Bool.and_eq_true] at h
    exact ⟨okd_of h.1, okd_of h.2.1, okd_of h.2.2.1, okd_of h.2.2.2⟩
section
variable (ir iw : Nat) (call : Nat → List T → Out) (glob : PySem.Str → Option D) (sub : Nat → Nat → Bool) (hr : ∀ d, okd d → ∀ lo hi : Int, call ir [.leaf d, .leaf (.int lo), .leaf (.int hi)] = .ret (.leaf (.bl (isTupN lo hi d))) [none, none, none]) (hw : ∀ d, okd d → ∀ lo hi : Int, call iw [.leaf d, .leaf (.int lo), .leaf (.int hi)] = .ret (.leaf (.bl (wit lo hi d))) [none, none, none])
include hr hw
theorem move_ok (g1 : glob "RESET_COST" = some (.int (-1))) (g2 : glob "MOST_COST" = some (.int 50)) (k n : Int) (d : D) (m : Nat) (h : D.okN m d = true) : runFn call glob sub (moveF ir iw) [.leaf (.int k), .leaf (.int n), .leaf d] = .ret (.leaf (.bl (moveB k n d))) [none, none, none] := by
  have q := hr d (okd_of h) 4 4
  cases b : isTupN 4 4 d with
  | false =>
    rw [b] at q
    have e : moveB k n d = false := by unfold moveB; rw [b]; rfl
    rw [e]
    simp [-R.bind, -R.thn, -S.thn, ↓bind_eq, ↓rthn_eq, ↓sthn_eq, runFn, Fn.start, outsOf, range0, range1, range2, range3, range4, exs, ex, exh, ev, evs, evA, evK, evB, evP, evI, evO, getL, setE, T.at1, T.fz, T.fzs, d2, dLt, dLen, dTy, dIsi, dIs, optR, leafR, blR, onBl, mulOk, takeAr, putAr, bindTg, wipe, back, dc, eqv_int, eqv_bl, eqv_str, D.ok, kN_int, kN_bl, kN_non, moveF, q]
  | true =>
    rw [b] at q
    obtain ⟨x0, x1, x2, x3, rfl⟩ := tup4 b
    obtain ⟨o0, o1, o2, o3⟩ := okd4 h
    have i0 : dIx (.tup [x0, x1, x2, x3]) (.int 0) = some x0 := by rw [dIx_tup]; simp [L2.atI, L2.ixN]
    have i1 : dIx (.tup [x0, x1, x2, x3]) (.int 1) = some x1 := by rw [dIx_tup]; simp [L2.atI, L2.ixN]
    have i2 : dIx (.tup [x0, x1, x2, x3]) (.int 2) = some x2 := by rw [dIx_tup]; simp [L2.atI, L2.ixN]
    have i3 : dIx (.tup [x0, x1, x2, x3]) (.int 3) = some x3 := by rw [dIx_tup]; simp [L2.atI, L2.ixN]
    have w0 := hw x0 o0 0 (n - 1)
    have w3 := hw x3 o3 0 (n - 1)
    have w1 := hw x1 o1 0 (k - 1)
    have w2 := hw x2 o2 (-1) 50
    have e : moveB k n (.tup [x0, x1, x2, x3]) = ((wit 0 (n - 1) x0 && wit 0 (n - 1) x3) && (wit 0 (k - 1) x1 && wit (-1) 50 x2)) := by
      unfold moveB; rw [b, Bool.true_and]; rfl
    generalize hX : D.tup [x0, x1, x2, x3] = X at *
    have l1 : ev ⟨call, glob, [], sub⟩ (.lc (.call iw (.v (.get 3) (.v (.int 0) (.v (.bin .sub (.fz 1) (.int 1)) .nil))) .nil [.v 0, .v 1, .v 2]) (.nm 3) (.d (.tup (.cons (.idx (.fz 2) (.int 0)) (.cons (.idx (.fz 2) (.int 3)) .nil)))) .nil [3]) [some (.leaf (.int k)), some (.leaf (.int n)), some (.leaf X), none] = .ok (.lst ([x0, x3].map fun x => .leaf (.bl (wit 0 (n - 1) x)))) [some (.leaf (.int k)), some (.leaf (.int n)), some (.leaf X), none] := by
      rw [lc_map ⟨call, glob, [], sub⟩ (e1 := [some (.leaf (.int k)), some (.leaf (.int n)), some (.leaf X), none]) [x0, x3] id fun x => .leaf (.bl (wit 0 (n - 1) x))]
      · rfl
      · simp [-R.bind, -R.thn, -S.thn, ↓bind_eq, ↓rthn_eq, ↓sthn_eq, runFn, Fn.start, outsOf, range0, range1, range2, range3, range4, exs, ex, exh, ev, evs, evA, evK, evB, evP, evI, evO, getL, setE, T.at1, T.fz, T.fzs, d2, dLt, dLen, dTy, dIsi, dIs, optR, leafR, blR, onBl, mulOk, takeAr, putAr, bindTg, wipe, back, dc, eqv_int, eqv_bl, eqv_str, D.ok, kN_int, kN_bl, kN_non, i0, i3, dWalk]
      · intro x hx
        refine ⟨[some (.leaf (.int k)), some (.leaf (.int n)), some (.leaf X), some (.leaf x)], ?_, rfl⟩
        have z : call iw [.leaf x, .leaf (.int 0), .leaf (.int (n - 1))] = .ret (.leaf (.bl (wit 0 (n - 1) x))) [none, none, none] := by
          simp only [List.mem_cons, List.not_mem_nil, or_false] at hx
          rcases hx with rfl | rfl
          · exact w0
          · exact w3
        simp [-R.bind, -R.thn, -S.thn, ↓bind_eq, ↓rthn_eq, ↓sthn_eq, runFn, Fn.start, outsOf, range0, range1, range2, range3, range4, exs, ex, exh, ev, evs, evA, evK, evB, evP, evI, evO, getL, setE, T.at1, T.fz, T.fzs, d2, dLt, dLen, dTy, dIsi, dIs, optR, leafR, blR, onBl, mulOk, takeAr, putAr, bindTg, wipe, back, dc, eqv_int, eqv_bl, eqv_str, D.ok, kN_int, kN_bl, kN_non, lcB1, z]
    have e1 := db_all_map [x0, x3] (wit 0 (n - 1))
    have e2 : [x0, x3].all (wit 0 (n - 1)) = (wit 0 (n - 1) x0 && wit 0 (n - 1) x3) := by simp
    rw [e2] at e1
    rw [e]
    have e3 : T.fzs ([x0, x3].map fun x => T.leaf (.bl (wit 0 (n - 1) x))) = [x0, x3].map fun x => D.bl (wit 0 (n - 1) x) := fzs_leaf _ _
    generalize ([x0, x3].map fun x => T.leaf (.bl (wit 0 (n - 1) x))) = ts at l1 e3
    generalize ([x0, x3].map fun x => D.bl (wit 0 (n - 1) x)) = ds at e1 e3
    generalize (wit 0 (n - 1) x0 && wit 0 (n - 1) x3) = B at e1
    cases B with
    | false => simp [-R.bind, -R.thn, -S.thn, ↓bind_eq, ↓rthn_eq, ↓sthn_eq, runFn, Fn.start, outsOf, range0, range1, range2, range3, range4, exs, ex, exh, ev, evs, evA, evK, evB, evP, evI, evO, getL, setE, T.at1, T.fz, T.fzs, d2, dLt, dLen, dTy, dIsi, dIs, optR, leafR, blR, onBl, mulOk, takeAr, putAr, bindTg, wipe, back, dc, eqv_int, eqv_bl, eqv_str, D.ok, kN_int, kN_bl, kN_non, moveF, q, ↓l1, e3, e1]
    | true =>
      cases hB : wit 0 (k - 1) x1 <;> rw [hB] at w1 <;> simp [-R.bind, -R.thn, -S.thn, ↓bind_eq, ↓rthn_eq, ↓sthn_eq, runFn, Fn.start, outsOf, range0, range1, range2, range3, range4, exs, ex, exh, ev, evs, evA, evK, evB, evP, evI, evO, getL, setE, T.at1, T.fz, T.fzs, d2, dLt, dLen, dTy, dIsi, dIs, optR, leafR, blR, onBl, mulOk, takeAr, putAr, bindTg, wipe, back, dc, eqv_int, eqv_bl, eqv_str, D.ok, kN_int, kN_bl, kN_non, moveF, q, ↓l1, e3, e1, i1, i2, w1, w2, g1, g2]
end
end Mi
end
section
set_option maxRecDepth 100000
set_option maxHeartbeats 0
/-! Mc2: is_any_machine, is_machine; the law's own judge. -/
namespace Mi
theorem lex_lt (a b : List Int) : HT.lexLt a b = decide (a < b) := by
  induction a generalizing b with
  | nil => cases b with
    | nil => rfl
    | cons y s => rfl
  | cons x r ih => cases b with
    | nil => rfl
    | cons y s =>
      rw [HT.lexLt_cons]
      by_cases h : x = y
      · rw [if_pos h, ih]; simp [h, List.cons_lt_cons_iff]
      · rw [if_neg h]; simp [h, List.cons_lt_cons_iff]
/-- the ints of a row -/
def rowI (d : D) : List Int := d.items.map dToI
theorem moveB_row {k n : Int} {d : D} (h : moveB k n d = true) : d = rowT (rowI d) ∧ d.items.length = 4 := by
  unfold moveB at h
  rw [Bool.and_eq_true] at h
  obtain ⟨a, b, c, e, rfl⟩ := tup4 h.1
  have h2 : (wit 0 (n - 1) a && wit 0 (n - 1) e && (wit 0 (k - 1) b && wit (-1) 50 c)) = true := h.2
  simp only [Bool.and_eq_true] at h2
  have wi : ∀ {lo hi : Int} {x : D}, wit lo hi x = true → x = .int (dToI x) := by
    intro lo hi x hx
    cases x with
    | int i => rfl
    | _ => cases hx
  refine ⟨?_, rfl⟩
  show D.tup [a, b, c, e] = .tup [.int (dToI a), .int (dToI b), .int (dToI c), .int (dToI e)]
  rw [← wi h2.1.1, ← wi h2.1.2, ← wi h2.2.1, ← wi h2.2.2]
theorem moves_rows {k n : Int} : ∀ {xs : List D}, xs.all (moveB k n) = true → xs = (xs.map rowI).map rowT
  | [], _ => rfl
  | x :: r, h => by
    rw [List.all_cons, Bool.and_eq_true] at h
    rw [List.map_cons, List.map_cons, ← moves_rows h.2, ← (moveB_row h.1).1]
def movesB (k n : Int) : D → Bool
  | .tup xs => xs.all (moveB k n) && ascR (xs.map rowI)
  | _ => false
def anyB (k : Int) (N S E M : D) : Bool := (isInt N && decide (1 ≤ dToI N)) && ((idxB (dToI N) S && idxB (dToI N) E) && movesB k (dToI N) M)
def anyF (ir iL ii ix im ia : Nat) : Fn := ⟨1, 7, [],
    (.cons (.ifs (.bop false (.not (.call ir (.v (.fz 0) (.v (.int 5) (.v (.int 5) .nil))) .nil [.v 0, .v 1, .v 2])) (.cons (.not (.call iL (.v (.idx (.fz 0) (.int 0)) .nil) .nil [.v 0])) (.cons (.not (.call ii (.v (.idx (.fz 0) (.int 1)) .nil) .nil [.v 0])) (.cons (.cmp .lt (.idx (.fz 0) (.int 1)) (.int 1)) .nil)))) (.cons (.ret (.bl false))
    .nil) .nil)
    (.cons (.asgT [1, 2, 3, 4, 5] (.fz 0))
    (.cons (.ifs (.bop false (.not (.call ix (.v (.get 3) (.v (.get 2) .nil)) .nil [.v 0, .v 1])) (.cons (.not (.call ix (.v (.get 4) (.v (.get 2) .nil)) .nil [.v 0, .v 1])) (.cons (.not (.isi (.get 5) [.tuple])) .nil))) (.cons (.ret (.bl false))
    .nil) .nil)
    (.cons (.ret (.bop true (.bi .all (.cons (.lc (.call im (.v (.bi .len (.cons (.get 1) .nil)) (.v (.get 2) (.v (.get 6) .nil))) .nil [.v 0, .v 1, .v 2]) (.nm 6) (.d (.get 5)) .nil [6]) .nil)) (.cons (.call ia (.v (.get 5) .nil) .nil [.v 0]) .nil)))
    .nil))))⟩
section
variable (ir iL ii ix im ia : Nat) (call : Nat → List T → Out) (glob : PySem.Str → Option D) (sub : Nat → Nat → Bool)
  (hr : ∀ d, okd d → ∀ lo hi : Int, call ir [.leaf d, .leaf (.int lo), .leaf (.int hi)] = .ret (.leaf (.bl (isTupN lo hi d))) [none, none, none])
  (hi : ∀ d, okd d → call ii [.leaf d] = .ret (.leaf (.bl (isInt d))) [none])
  (hx : ∀ d n, D.okN n d = true → ∀ many : Int, call ix [.leaf d, .leaf (.int many)] = .ret (.leaf (.bl (idxB many d))) [none, none])
  (hm : ∀ d n, D.okN n d = true → ∀ k m : Int, call im [.leaf (.int k), .leaf (.int m), .leaf d] = .ret (.leaf (.bl (moveB k m d))) [none, none, none])
  (ha : ∀ rs : List (List Int), call ia [.leaf (.tup (rs.map rowT))] = .ret (.leaf (.bl (ascR rs))) [none])
include hr hi hx hm ha
theorem any_noL (L N S E M : D) (hL : call iL [.leaf L] = .ret (.leaf (.bl false)) [none]) : runFn call glob sub (anyF ir iL ii ix im ia) [.leaf (.tup [L, N, S, E, M])] = .ret (.leaf (.bl false)) [none] := by
  have q := hr (.tup [L, N, S, E, M]) trivial 5 5
  have q5 : isTupN 5 5 (.tup [L, N, S, E, M]) = true := rfl
  rw [q5] at q
  simp [-R.bind, -R.thn, -S.thn, ↓bind_eq, ↓rthn_eq, ↓sthn_eq, runFn, Fn.start, outsOf, range0, range1, range2, range3, range4, exs, ex, exh, ev, evs, evA, evK, evB, evP, evI, evO, getL, setE, T.at1, T.fz, T.fzs, d2, dLt, dLen, dTy, dIsi, dIs, optR, leafR, blR, onBl, mulOk, takeAr, putAr, bindTg, wipe, back, dc, eqv_int, eqv_bl, eqv_str, D.ok, kN_int, kN_bl, kN_non, anyF, q, dIx, L2.atI, L2.ixN, hL]
theorem any_ok (L N S E M : D) (k n : Nat) (hL : call iL [.leaf L] = .ret (.leaf (.bl true)) [none]) (hk : dLen L = some k) (oN : okd N) (oS : D.okN n S = true) (oE : D.okN n E = true) (oM : D.okN n M = true) : runFn call glob sub (anyF ir iL ii ix im ia) [.leaf (.tup [L, N, S, E, M])] = .ret (.leaf (.bl (anyB k N S E M))) [none] := by
  have q := hr (.tup [L, N, S, E, M]) trivial 5 5
  have q5 : isTupN 5 5 (.tup [L, N, S, E, M]) = true := rfl
  rw [q5] at q
  have i0 : dIx (.tup [L, N, S, E, M]) (.int 0) = some L := by rw [dIx_tup]; simp [L2.atI, L2.ixN]
  have i1 : dIx (.tup [L, N, S, E, M]) (.int 1) = some N := by rw [dIx_tup]; simp [L2.atI, L2.ixN]
  have qi := hi N oN
  have hl := db_len L
  rw [hk] at hl
  cases N with
  | int v =>
    have qi' : call ii [.leaf (.int v)] = .ret (.leaf (.bl true)) [none] := qi
    by_cases h1 : 1 ≤ v
    · have hn : ¬ v < 1 := by omega
      have e : anyB k (.int v) S E M = ((idxB v S && idxB v E) && movesB k v M) := by
        show (true && decide (1 ≤ v) && _) = _
        rw [decide_eq_true h1]; rfl
      rw [e]
      have qS := hx S n oS v
      have qE := hx E n oE v
      cases bS : idxB v S with
      | false =>
        rw [bS] at qS
        simp [-R.bind, -R.thn, -S.thn, ↓bind_eq, ↓rthn_eq, ↓sthn_eq, runFn, Fn.start, outsOf, range0, range1, range2, range3, range4, exs, ex, exh, ev, evs, evA, evK, evB, evP, evI, evO, getL, setE, T.at1, T.fz, T.fzs, d2, dLt, dLen, dTy, dIsi, dIs, optR, leafR, blR, onBl, mulOk, takeAr, putAr, bindTg, wipe, back, dc, eqv_int, eqv_bl, eqv_str, D.ok, kN_int, kN_bl, kN_non, anyF, q, i0, i1, hL, qi', hn, tgs, qS]
      | true =>
        rw [bS] at qS
        cases bE : idxB v E with
        | false =>
          rw [bE] at qE
          simp [-R.bind, -R.thn, -S.thn, ↓bind_eq, ↓rthn_eq, ↓sthn_eq, runFn, Fn.start, outsOf, range0, range1, range2, range3, range4, exs, ex, exh, ev, evs, evA, evK, evB, evP, evI, evO, getL, setE, T.at1, T.fz, T.fzs, d2, dLt, dLen, dTy, dIsi, dIs, optR, leafR, blR, onBl, mulOk, takeAr, putAr, bindTg, wipe, back, dc, eqv_int, eqv_bl, eqv_str, D.ok, kN_int, kN_bl, kN_non, anyF, q, i0, i1, hL, qi', hn, tgs, qS, qE]
        | true =>
          rw [bE] at qE
          have kM := okd_of oM
          cases M with
          | tup xs =>
            have hxs : ∀ x ∈ xs, ∃ m, D.okN m x = true := by
              cases n with
              | zero => simp [D.okN] at oM
              | succ n =>
                rw [kN_tup, List.all_eq_true] at oM
                exact fun x hx => ⟨n, oM x hx⟩
            have l1 : ev ⟨call, glob, [], sub⟩ (.lc (.call im (.v (.bi .len (.cons (.get 1) .nil)) (.v (.get 2) (.v (.get 6) .nil))) .nil [.v 0, .v 1, .v 2]) (.nm 6) (.d (.get 5)) .nil [6]) [some (.leaf (.tup [L, .int v, S, E, .tup xs])), some (.leaf L), some (.leaf (.int v)), some (.leaf S), some (.leaf E), some (.leaf (.tup xs)), none] = .ok (.lst (xs.map fun x => .leaf (.bl (moveB k v x)))) [some (.leaf (.tup [L, .int v, S, E, .tup xs])), some (.leaf L), some (.leaf (.int v)), some (.leaf S), some (.leaf E), some (.leaf (.tup xs)), none] := by
              rw [lc_map ⟨call, glob, [], sub⟩ (e1 := [some (.leaf (.tup [L, .int v, S, E, .tup xs])), some (.leaf L), some (.leaf (.int v)), some (.leaf S), some (.leaf E), some (.leaf (.tup xs)), none]) xs id fun x => .leaf (.bl (moveB k v x))]
              · rfl
              · simp [-R.bind, -R.thn, -S.thn, ↓bind_eq, ↓rthn_eq, ↓sthn_eq, runFn, Fn.start, outsOf, range0, range1, range2, range3, range4, exs, ex, exh, ev, evs, evA, evK, evB, evP, evI, evO, getL, setE, T.at1, T.fz, T.fzs, d2, dLt, dLen, dTy, dIsi, dIs, optR, leafR, blR, onBl, mulOk, takeAr, putAr, bindTg, wipe, back, dc, eqv_int, eqv_bl, eqv_str, D.ok, kN_int, kN_bl, kN_non, dWalk]
              · intro x hxm
                obtain ⟨m, hom⟩ := hxs x hxm
                have z := hm x m hom k v
                refine ⟨[some (.leaf (.tup [L, .int v, S, E, .tup xs])), some (.leaf L), some (.leaf (.int v)), some (.leaf S), some (.leaf E), some (.leaf (.tup xs)), some (.leaf x)], ?_, rfl⟩
                simp [-R.bind, -R.thn, -S.thn, ↓bind_eq, ↓rthn_eq, ↓sthn_eq, runFn, Fn.start, outsOf, range0, range1, range2, range3, range4, exs, ex, exh, ev, evs, evA, evK, evB, evP, evI, evO, getL, setE, T.at1, T.fz, T.fzs, d2, dLt, dLen, dTy, dIsi, dIs, optR, leafR, blR, onBl, mulOk, takeAr, putAr, bindTg, wipe, back, dc, eqv_int, eqv_bl, eqv_str, D.ok, kN_int, kN_bl, kN_non, lcB1, hl, z]
            have e1 := db_all_map xs (moveB k v)
            have eM : movesB k v (.tup xs) = (xs.all (moveB k v) && ascR (xs.map rowI)) := rfl
            cases bM : xs.all (moveB k v) with
            | false =>
              rw [bM] at e1
              simp [-R.bind, -R.thn, -S.thn, ↓bind_eq, ↓rthn_eq, ↓sthn_eq, runFn, Fn.start, outsOf, range0, range1, range2, range3, range4, exs, ex, exh, ev, evs, evA, evK, evB, evP, evI, evO, getL, setE, T.at1, T.fz, T.fzs, d2, dLt, dLen, dTy, dIsi, dIs, optR, leafR, blR, onBl, mulOk, takeAr, putAr, bindTg, wipe, back, dc, eqv_int, eqv_bl, eqv_str, D.ok, kN_int, kN_bl, kN_non, anyF, q, i0, i1, hL, qi', hn, tgs, qS, qE, ↓l1, fzs_leaf, e1, eM, bM]
            | true =>
              rw [bM] at e1
              have qa := ha (xs.map rowI)
              rw [← moves_rows bM] at qa
              simp [-R.bind, -R.thn, -S.thn, ↓bind_eq, ↓rthn_eq, ↓sthn_eq, runFn, Fn.start, outsOf, range0, range1, range2, range3, range4, exs, ex, exh, ev, evs, evA, evK, evB, evP, evI, evO, getL, setE, T.at1, T.fz, T.fzs, d2, dLt, dLen, dTy, dIsi, dIs, optR, leafR, blR, onBl, mulOk, takeAr, putAr, bindTg, wipe, back, dc, eqv_int, eqv_bl, eqv_str, D.ok, kN_int, kN_bl, kN_non, anyF, q, i0, i1, hL, qi', hn, tgs, qS, qE, ↓l1, fzs_leaf, e1, eM, bM, qa]
          | _ =>
            first
              | (simp [okd] at kM; done)
              | simp [-R.bind, -R.thn, -S.thn, ↓bind_eq, ↓rthn_eq, ↓sthn_eq, runFn, Fn.start, outsOf, range0, range1, range2, range3, range4, exs, ex, exh, ev, evs, evA, evK, evB, evP, evI, evO, getL, setE, T.at1, T.fz, T.fzs, d2, dLt, dLen, dTy, dIsi, dIs, optR, leafR, blR, onBl, mulOk, takeAr, putAr, bindTg, wipe, back, dc, eqv_int, eqv_bl, eqv_str, D.ok, kN_int, kN_bl, kN_non, anyF, q, i0, i1, hL, qi', hn, tgs, qS, qE, movesB]
    · have hn : v < 1 := by omega
      have e : anyB k (.int v) S E M = false := by
        show (true && decide (1 ≤ v) && _) = _
        rw [decide_eq_false h1]; rfl
      rw [e]
      simp [-R.bind, -R.thn, -S.thn, ↓bind_eq, ↓rthn_eq, ↓sthn_eq, runFn, Fn.start, outsOf, range0, range1, range2, range3, range4, exs, ex, exh, ev, evs, evA, evK, evB, evP, evI, evO, getL, setE, T.at1, T.fz, T.fzs, d2, dLt, dLen, dTy, dIsi, dIs, optR, leafR, blR, onBl, mulOk, takeAr, putAr, bindTg, wipe, back, dc, eqv_int, eqv_bl, eqv_str, D.ok, kN_int, kN_bl, kN_non, anyF, q, i0, i1, hL, qi', hn]
  | _ =>
    first
      | (simp [okd] at oN; done)
      | (simp only [isInt] at qi
         have e : anyB k _ S E M = false := by
           rename_i z
           show (false && _) = false
           rfl
         simp [-R.bind, -R.thn, -S.thn, ↓bind_eq, ↓rthn_eq, ↓sthn_eq, runFn, Fn.start, outsOf, range0, range1, range2, range3, range4, exs, ex, exh, ev, evs, evA, evK, evB, evP, evI, evO, getL, setE, T.at1, T.fz, T.fzs, d2, dLt, dLen, dTy, dIsi, dIs, optR, leafR, blR, onBl, mulOk, takeAr, putAr, bindTg, wipe, back, dc, eqv_int, eqv_bl, eqv_str, D.ok, kN_int, kN_bl, kN_non, anyF, q, i0, i1, hL, qi, anyB, isInt])
      | simp [-R.bind, -R.thn, -S.thn, ↓bind_eq, ↓rthn_eq, ↓sthn_eq, runFn, Fn.start, outsOf, range0, range1, range2, range3, range4, exs, ex, exh, ev, evs, evA, evK, evB, evP, evI, evO, getL, setE, T.at1, T.fz, T.fzs, d2, dLt, dLen, dTy, dIsi, dIs, optR, leafR, blR, onBl, mulOk, takeAr, putAr, bindTg, wipe, back, dc, eqv_int, eqv_bl, eqv_str, D.ok, kN_int, kN_bl, kN_non, anyF, q, i0, i1, hL, qi, anyB, isInt]
end
/-! ### is_machine -/
def machB (k : Int) (N S E M : D) : Bool := wit 1 12 N && (isTupN 0 5000 M && anyB k N S E M)
def machF (ir iw ia : Nat) : Fn := ⟨1, 1, [],
    (.cons (.ifs (.bop false (.not (.call ir (.v (.fz 0) (.v (.int 5) (.v (.int 5) .nil))) .nil [.v 0, .v 1, .v 2])) (.cons (.not (.call iw (.v (.idx (.fz 0) (.int 1)) (.v (.int 1) (.v (.gl "MOST_STATES") .nil))) .nil [.v 0, .v 1, .v 2])) (.cons (.not (.call ir (.v (.idx (.fz 0) (.int 4)) (.v (.int 0) (.v (.gl "MOST_MOVES") .nil))) .nil [.v 0, .v 1, .v 2])) .nil))) (.cons (.ret (.bl false))
    .nil) .nil)
    (.cons (.ret (.call ia (.v (.fz 0) .nil) .nil [.v 0]))
    .nil))⟩
section
variable (ir iw ia : Nat) (call : Nat → List T → Out) (glob : PySem.Str → Option D) (sub : Nat → Nat → Bool)
  (hr : ∀ d, okd d → ∀ lo hi : Int, call ir [.leaf d, .leaf (.int lo), .leaf (.int hi)] = .ret (.leaf (.bl (isTupN lo hi d))) [none, none, none])
  (hw : ∀ d, okd d → ∀ lo hi : Int, call iw [.leaf d, .leaf (.int lo), .leaf (.int hi)] = .ret (.leaf (.bl (wit lo hi d))) [none, none, none])
  (g1 : glob "MOST_STATES" = some (.int 12)) (g2 : glob "MOST_MOVES" = some (.int 5000))
include hr hw g1 g2
theorem mach_no5 (d : D) (h : okd d) (h5 : isTupN 5 5 d = false) : runFn call glob sub (machF ir iw ia) [.leaf d] = .ret (.leaf (.bl false)) [none] := by
  have q := hr d h 5 5
  rw [h5] at q
  simp [-R.bind, -R.thn, -S.thn, ↓bind_eq, ↓rthn_eq, ↓sthn_eq, runFn, Fn.start, outsOf, range0, range1, range2, range3, range4, exs, ex, exh, ev, evs, evA, evK, evB, evP, evI, evO, getL, setE, T.at1, T.fz, T.fzs, d2, dLt, dLen, dTy, dIsi, dIs, optR, leafR, blR, onBl, mulOk, takeAr, putAr, bindTg, wipe, back, dc, eqv_int, eqv_bl, eqv_str, D.ok, kN_int, kN_bl, kN_non, machF, q]
theorem mach_ok (L N S E M : D) (oN : okd N) (oM : okd M) (b : Bool) (ha : call ia [.leaf (.tup [L, N, S, E, M])] = .ret (.leaf (.bl b)) [none]) : runFn call glob sub (machF ir iw ia) [.leaf (.tup [L, N, S, E, M])] = .ret (.leaf (.bl (wit 1 12 N && (isTupN 0 5000 M && b)))) [none] := by
  have q := hr (.tup [L, N, S, E, M]) trivial 5 5
  have q5 : isTupN 5 5 (.tup [L, N, S, E, M]) = true := rfl
  rw [q5] at q
  have i1 : dIx (.tup [L, N, S, E, M]) (.int 1) = some N := by rw [dIx_tup]; simp [L2.atI, L2.ixN]
  have i4 : dIx (.tup [L, N, S, E, M]) (.int 4) = some M := by rw [dIx_tup]; simp [L2.atI, L2.ixN]
  have w1 := hw N oN 1 12
  have w2 := hr M oM 0 5000
  cases b1 : wit 1 12 N <;> rw [b1] at w1
  · simp [-R.bind, -R.thn, -S.thn, ↓bind_eq, ↓rthn_eq, ↓sthn_eq, runFn, Fn.start, outsOf, range0, range1, range2, range3, range4, exs, ex, exh, ev, evs, evA, evK, evB, evP, evI, evO, getL, setE, T.at1, T.fz, T.fzs, d2, dLt, dLen, dTy, dIsi, dIs, optR, leafR, blR, onBl, mulOk, takeAr, putAr, bindTg, wipe, back, dc, eqv_int, eqv_bl, eqv_str, D.ok, kN_int, kN_bl, kN_non, machF, q, i1, g1, w1]
  · cases b2 : isTupN 0 5000 M <;> rw [b2] at w2
    · simp [-R.bind, -R.thn, -S.thn, ↓bind_eq, ↓rthn_eq, ↓sthn_eq, runFn, Fn.start, outsOf, range0, range1, range2, range3, range4, exs, ex, exh, ev, evs, evA, evK, evB, evP, evI, evO, getL, setE, T.at1, T.fz, T.fzs, d2, dLt, dLen, dTy, dIsi, dIs, optR, leafR, blR, onBl, mulOk, takeAr, putAr, bindTg, wipe, back, dc, eqv_int, eqv_bl, eqv_str, D.ok, kN_int, kN_bl, kN_non, machF, q, i1, i4, g1, g2, w1, w2]
    · simp [-R.bind, -R.thn, -S.thn, ↓bind_eq, ↓rthn_eq, ↓sthn_eq, runFn, Fn.start, outsOf, range0, range1, range2, range3, range4, exs, ex, exh, ev, evs, evA, evK, evB, evP, evI, evO, getL, setE, T.at1, T.fz, T.fzs, d2, dLt, dLen, dTy, dIsi, dIs, optR, leafR, blR, onBl, mulOk, takeAr, putAr, bindTg, wipe, back, dc, eqv_int, eqv_bl, eqv_str, D.ok, kN_int, kN_bl, kN_non, machF, q, i1, i4, g1, g2, w1, w2, ha]
end
end Mi
end
section
set_option maxRecDepth 100000
set_option maxHeartbeats 0
/-! Mc3: the law's own judge of machines. -/
namespace Mi
def numF : Fn := ⟨3, 3, [],
    (.cons (.ret (.bop true (.isi (.fz 0) [.int]) (.cons (.not (.isi (.fz 0) [.bool])) (.cons (.chn .le .le (.fz 1) (.fz 0) (.fz 2)) .nil))))
    .nil)⟩
theorem num_ok (call : Nat → List T → Out) (glob : PySem.Str → Option D) (sub : Nat → Nat → Bool) (d : D) (h : okd d) (lo hi : Int) : runFn call glob sub numF [.leaf d, .leaf (.int lo), .leaf (.int hi)] = .ret (.leaf (.bl (wit lo hi d))) [none, none, none] := by
  cases d
  case int x => by_cases h1 : lo ≤ x <;> by_cases h2 : x ≤ hi <;> simp [-R.bind, -R.thn, -S.thn, ↓bind_eq, ↓rthn_eq, ↓sthn_eq, runFn, Fn.start, outsOf, range0, range1, range2, range3, range4, exs, ex, exh, ev, evs, evA, evK, evB, evP, evI, evO, getL, setE, T.at1, T.fz, T.fzs, d2, dLt, dLen, dTy, dIsi, dIs, optR, leafR, blR, onBl, mulOk, takeAr, putAr, bindTg, wipe, back, dc, eqv_int, eqv_bl, eqv_str, D.ok, kN_int, kN_bl, kN_non, numF, wit, h1, h2]
  all_goals simp [okd] at h
  all_goals simp [-R.bind, -R.thn, -S.thn, ↓bind_eq, ↓rthn_eq, ↓sthn_eq, runFn, Fn.start, outsOf, range0, range1, range2, range3, range4, exs, ex, exh, ev, evs, evA, evK, evB, evP, evI, evO, getL, setE, T.at1, T.fz, T.fzs, d2, dLt, dLen, dTy, dIsi, dIs, optR, leafR, blR, onBl, mulOk, takeAr, putAr, bindTg, wipe, back, dc, eqv_int, eqv_bl, eqv_str, D.ok, kN_int, kN_bl, kN_non, numF, wit]
/-- a loop that tests -/
theorem forL_test {f : D → Env → S} {I : Env → Prop} (p : D → Bool) : ∀ (ds : List D) (e : Env), I e → (∀ d ∈ ds, ∀ e, I e → (p d = true → ∃ e', f d e = .nx e' ∧ I e') ∧ (p d = false → ∃ e', f d e = .rt (.leaf (.bl false)) e')) → (ds.all p = true → ∃ e', forL f ds e = .nx e' ∧ I e') ∧ (ds.all p = false → ∃ e', forL f ds e = .rt (.leaf (.bl false)) e')
  | [], e, h, _ => ⟨fun _ => ⟨e, rfl, h⟩, fun h => by cases h⟩
  | d :: ds, e, h, k => by
    obtain ⟨k1, k2⟩ := k d (by simp) e h
    rw [List.all_cons]
    cases b : p d with
    | false =>
      obtain ⟨e', h1⟩ := k2 b
      exact ⟨(fun h => nomatch h), fun _ => ⟨e', by rw [forL, h1]⟩⟩
    | true =>
      obtain ⟨e1, h1, h2⟩ := k1 b
      have := forL_test p ds e1 h2 fun d' hd => k d' (by simp [hd])
      rw [Bool.true_and, forL, h1]
      exact this
theorem zip_tail {α : Type} (d : α) (xs : List α) : xs.zip xs.tail = (List.range (xs.length - 1)).map fun k => (xs.getD k d, xs.getD (k + 1) d) := by
  apply List.ext_getElem
  · simp
  · intro i h1 h2
    simp at h1
    have a1 : i < xs.length := by omega
    have a2 : i + 1 < xs.length := by omega
    rw [List.getElem_zip, List.getElem_map, List.getElem_range, List.getElem_tail]
    simp [List.getD_eq_getElem?_getD, a1, a2]
theorem rngOf_pred (n : Nat) (h : n ≤ line) : rngOf [.int ((n : Int) - 1)] = some (.rng 0 (n - 1)) := by
  have h' : n ≤ 16777216 := h
  show (if ((n : Int) - 1).natAbs < 2 ^ 62 then some (D.rng 0 ((n : Int) - 1).toNat) else none) = _
  rw [if_pos (by omega)]
  congr 2
  omega
def lawM (k : Int) (N S E M : D) : Bool := wit 1 12 N && ((isTup S && (isTup E && isTup M)) && ((idxB (dToI N) S && idxB (dToI N) E) && movesB k (dToI N) M))
def ljF (i : Nat) : Fn := ⟨2, 7, [],
    (.cons (.ifs (.bop false (.not (.isi (.fz 1) [.tuple])) (.cons (.cmp .ne (.bi .len (.cons (.fz 1) .nil)) (.int 5)) (.cons (.cmp .ne (.idx (.fz 1) (.int 0)) (.fz 0)) (.cons (.not (.call i (.v (.idx (.fz 1) (.int 1)) (.v (.int 1) (.v (.int 12) .nil))) .nil [.v 0, .v 1, .v 2])) .nil)))) (.cons (.ret (.bl false))
    .nil) .nil)
    (.cons (.asg 2 (.idx (.fz 1) (.int 1)))
    (.cons (.fr (.nm 3) (.d (.slc (.fz 1) (.so (.int 2)) .no)) (.cons (.ifs (.not (.isi (.get 3) [.tuple])) (.cons (.ret (.bl false))
    .nil) .nil)
    .nil))
    (.cons (.fr (.nm 3) (.d (.slc (.fz 1) (.so (.int 2)) (.so (.int 4)))) (.cons (.ifs (.bop false (.not (.bi .all (.cons (.lc (.call i (.v (.get 6) (.v (.int 0) (.v (.bin .sub (.get 2) (.int 1)) .nil))) .nil [.v 0, .v 1, .v 2]) (.nm 6) (.d (.get 3)) .nil [6]) .nil))) (.cons (.not (.bi .all (.cons (.lc (.cmp .lt (.idx (.get 3) (.get 5)) (.idx (.get 3) (.bin .add (.get 5) (.int 1)))) (.nm 5) (.d (.rg (.cons (.bin .sub (.bi .len (.cons (.get 3) .nil)) (.int 1)) .nil))) .nil [5]) .nil))) .nil)) (.cons (.ret (.bl false))
    .nil) .nil)
    .nil))
    (.cons (.fr (.nm 4) (.d (.idx (.fz 1) (.int 4))) (.cons (.ifs (.bop false (.not (.isi (.get 4) [.tuple])) (.cons (.cmp .ne (.bi .len (.cons (.get 4) .nil)) (.int 4)) (.cons (.not (.call i (.v (.idx (.get 4) (.int 0)) (.v (.int 0) (.v (.bin .sub (.get 2) (.int 1)) .nil))) .nil [.v 0, .v 1, .v 2])) (.cons (.not (.call i (.v (.idx (.get 4) (.int 3)) (.v (.int 0) (.v (.bin .sub (.get 2) (.int 1)) .nil))) .nil [.v 0, .v 1, .v 2])) .nil)))) (.cons (.ret (.bl false))
    .nil) .nil)
    (.cons (.ifs (.bop false (.not (.call i (.v (.idx (.get 4) (.int 1)) (.v (.int 0) (.v (.bin .sub (.bi .len (.cons (.fz 0) .nil)) (.int 1)) .nil))) .nil [.v 0, .v 1, .v 2])) (.cons (.not (.call i (.v (.idx (.get 4) (.int 2)) (.v (.bin .sub (.int 0) (.int 1)) (.v (.int 50) .nil))) .nil [.v 0, .v 1, .v 2])) .nil)) (.cons (.ret (.bl false))
    .nil) .nil)
    .nil)))
    (.cons (.ret (.bi .all (.cons (.lc (.cmp .lt (.idx (.idx (.fz 1) (.int 4)) (.get 5)) (.idx (.idx (.fz 1) (.int 4)) (.bin .add (.get 5) (.int 1)))) (.nm 5) (.d (.rg (.cons (.bin .sub (.bi .len (.cons (.idx (.fz 1) (.int 4)) .nil)) (.int 1)) .nil))) .nil [5]) .nil)))
    .nil))))))⟩
section
variable (i : Nat) (call : Nat → List T → Out) (glob : PySem.Str → Option D) (sub : Nat → Nat → Bool)
  (hw : ∀ d, okd d → ∀ lo hi : Int, call i [.leaf d, .leaf (.int lo), .leaf (.int hi)] = .ret (.leaf (.bl (wit lo hi d))) [none, none, none])
include hw
theorem lj_no (L d : D) (h : okd d) (h5 : isTupN 5 5 d = false) : runFn call glob sub (ljF i) [.leaf L, .leaf d] = .ret (.leaf (.bl false)) [none, none] := by
  cases d with
  | tup xs =>
    have hl : xs.length ≠ 5 := by
      intro e
      have : (decide ((5 : Int) ≤ (xs.length : Int)) && decide ((xs.length : Int) ≤ 5)) = false := h5
      rw [e] at this
      cases this
    have hb : ((xs.length : Int) == 5) = false := by rw [beq_eq_false_iff_ne]; omega
    have dl : db .len [.tup xs] = some (.leaf (.int (xs.length : Int))) := rfl
    simp [-R.bind, -R.thn, -S.thn, ↓bind_eq, ↓rthn_eq, ↓sthn_eq, runFn, Fn.start, outsOf, range0, range1, range2, range3, range4, exs, ex, exh, ev, evs, evA, evK, evB, evP, evI, evO, getL, setE, T.at1, T.fz, T.fzs, d2, dLt, dLen, dTy, dIsi, dIs, optR, leafR, blR, onBl, mulOk, takeAr, putAr, bindTg, wipe, back, dc, eqv_int, eqv_bl, eqv_str, D.ok, kN_int, kN_bl, kN_non, ljF, dl, hb]
  | _ =>
    first
      | (simp [okd] at h; done)
      | simp [-R.bind, -R.thn, -S.thn, ↓bind_eq, ↓rthn_eq, ↓sthn_eq, runFn, Fn.start, outsOf, range0, range1, range2, range3, range4, exs, ex, exh, ev, evs, evA, evK, evB, evP, evI, evO, getL, setE, T.at1, T.fz, T.fzs, d2, dLt, dLen, dTy, dIsi, dIs, optR, leafR, blR, onBl, mulOk, takeAr, putAr, bindTg, wipe, back, dc, eqv_int, eqv_bl, eqv_str, D.ok, kN_int, kN_bl, kN_non, ljF]
theorem lj_noL (L L' N S E M : D) (o1 : D.okN 60 L = true) (o2 : D.okN 60 L' = true) (hne : D.eqv L' L = false) : runFn call glob sub (ljF i) [.leaf L, .leaf (.tup [L', N, S, E, M])] = .ret (.leaf (.bl false)) [none, none] := by
  have dl : db .len [.tup [L', N, S, E, M]] = some (.leaf (.int 5)) := rfl
  have i0 : dIx (.tup [L', N, S, E, M]) (.int 0) = some L' := by rw [dIx_tup]; simp [L2.atI, L2.ixN]
  simp [-R.bind, -R.thn, -S.thn, ↓bind_eq, ↓rthn_eq, ↓sthn_eq, runFn, Fn.start, outsOf, range0, range1, range2, range3, range4, exs, ex, exh, ev, evs, evA, evK, evB, evP, evI, evO, getL, setE, T.at1, T.fz, T.fzs, d2, dLt, dLen, dTy, dIsi, dIs, optR, leafR, blR, onBl, mulOk, takeAr, putAr, bindTg, wipe, back, dc, eqv_int, eqv_bl, eqv_str, D.ok, kN_int, kN_bl, kN_non, ljF, dl, i0, o1, o2, hne]
/-- the test of a row of ints -/
theorem lj_row (c : Cx) (hc : c.call = call) (hio : c.io = []) (d : D) (ht : isTup d = true) (n : Nat) (od : D.okN n d = true) (sz : d.items.length ≤ line) (v : Int) (e0 e1 : Option T) (w3 : Option T) : (idxB v d = true → ∃ e', frB c (.nm 3) ((ljF i).body.get 3).body d [e0, e1, some (.leaf (.int v)), w3, none, none, none] = .nx e' ∧ ∃ w3, e' = [e0, e1, some (.leaf (.int v)), w3, none, none, none]) ∧ (idxB v d = false → ∃ e', frB c (.nm 3) ((ljF i).body.get 3).body d [e0, e1, some (.leaf (.int v)), w3, none, none, none] = .rt (.leaf (.bl false)) e') := by
  obtain ⟨call', glob', io', sub'⟩ := c
  simp only at hc hio
  subst hc; subst hio
  obtain ⟨xs, rfl⟩ : ∃ xs, d = .tup xs := by cases d with | tup xs => exact ⟨xs, rfl⟩ | _ => cases ht
  have hx : ∀ x ∈ xs, okd x := by
    cases n with
    | zero => simp [D.okN] at od
    | succ n =>
      rw [kN_tup, List.all_eq_true] at od
      exact fun x hx => okd_of (od x hx)
  have sz' : xs.length ≤ line := sz
  have l1 : ev ⟨call', glob', [], sub'⟩ (.lc (.call i (.v (.get 6) (.v (.int 0) (.v (.bin .sub (.get 2) (.int 1)) .nil))) .nil [.v 0, .v 1, .v 2]) (.nm 6) (.d (.get 3)) .nil [6]) [e0, e1, some (.leaf (.int v)), some (.leaf (.tup xs)), none, none, none] = .ok (.lst (xs.map fun x => .leaf (.bl (wit 0 (v - 1) x)))) [e0, e1, some (.leaf (.int v)), some (.leaf (.tup xs)), none, none, none] := by
    rw [lc_map ⟨call', glob', [], sub'⟩ (e1 := [e0, e1, some (.leaf (.int v)), some (.leaf (.tup xs)), none, none, none]) xs id fun x => .leaf (.bl (wit 0 (v - 1) x))]
    · rfl
    · simp [-R.bind, -R.thn, -S.thn, ↓bind_eq, ↓rthn_eq, ↓sthn_eq, runFn, Fn.start, outsOf, range0, range1, range2, range3, range4, exs, ex, exh, ev, evs, evA, evK, evB, evP, evI, evO, getL, setE, T.at1, T.fz, T.fzs, d2, dLt, dLen, dTy, dIsi, dIs, optR, leafR, blR, onBl, mulOk, takeAr, putAr, bindTg, wipe, back, dc, eqv_int, eqv_bl, eqv_str, D.ok, kN_int, kN_bl, kN_non, dWalk]
    · intro x hxm
      have z := hw x (hx x hxm) 0 (v - 1)
      refine ⟨[e0, e1, some (.leaf (.int v)), some (.leaf (.tup xs)), none, none, some (.leaf x)], ?_, rfl⟩
      simp [-R.bind, -R.thn, -S.thn, ↓bind_eq, ↓rthn_eq, ↓sthn_eq, runFn, Fn.start, outsOf, range0, range1, range2, range3, range4, exs, ex, exh, ev, evs, evA, evK, evB, evP, evI, evO, getL, setE, T.at1, T.fz, T.fzs, d2, dLt, dLen, dTy, dIsi, dIs, optR, leafR, blR, onBl, mulOk, takeAr, putAr, bindTg, wipe, back, dc, eqv_int, eqv_bl, eqv_str, D.ok, kN_int, kN_bl, kN_non, lcB1, z]
  have a1 := db_all_map xs (wit 0 (v - 1))
  have ei : idxB v (.tup xs) = (xs.all (wit 0 (v - 1)) && ascB (xs.map dToI)) := rfl
  cases b1 : xs.all (wit 0 (v - 1)) with
  | false =>
    rw [b1] at a1
    rw [ei, b1, Bool.false_and]
    refine ⟨(fun h => nomatch h), fun _ => ⟨[e0, e1, some (.leaf (.int v)), some (.leaf (.tup xs)), none, none, none], ?_⟩⟩
    simp [-R.bind, -R.thn, -S.thn, ↓bind_eq, ↓rthn_eq, ↓sthn_eq, runFn, Fn.start, outsOf, range0, range1, range2, range3, range4, exs, ex, exh, ev, evs, evA, evK, evB, evP, evI, evO, getL, setE, T.at1, T.fz, T.fzs, d2, dLt, dLen, dTy, dIsi, dIs, optR, leafR, blR, onBl, mulOk, takeAr, putAr, bindTg, wipe, back, dc, eqv_int, eqv_bl, eqv_str, D.ok, kN_int, kN_bl, kN_non, frB, ljF, Sts.get, St.body, ↓l1, fzs_leaf, a1]
  | true =>
    rw [b1] at a1
    rw [ei, b1, Bool.true_and]
    have hns := wit_ints b1
    generalize hN : xs.map dToI = ns at hns
    have hlen : xs.length = ns.length := by rw [← hN, List.length_map]
    have p1 := rngOf_pred xs.length sz'
    have p2 := dWalk_rng (n := xs.length - 1) (by omega)
    have dl : db .len [.tup xs] = some (.leaf (.int (xs.length : Int))) := rfl
    have l2 : ev ⟨call', glob', [], sub'⟩ (.lc (.cmp .lt (.idx (.get 3) (.get 5)) (.idx (.get 3) (.bin .add (.get 5) (.int 1)))) (.nm 5) (.d (.rg (.cons (.bin .sub (.bi .len (.cons (.get 3) .nil)) (.int 1)) .nil))) .nil [5]) [e0, e1, some (.leaf (.int v)), some (.leaf (.tup xs)), none, none, none] = .ok (.lst ((List.range (xs.length - 1)).map fun k => .leaf (.bl (decide (ns.getD k 0 < ns.getD (k + 1) 0))))) [e0, e1, some (.leaf (.int v)), some (.leaf (.tup xs)), none, none, none] := by
      rw [lc_map ⟨call', glob', [], sub'⟩ (e1 := [e0, e1, some (.leaf (.int v)), some (.leaf (.tup xs)), none, none, none]) (List.range (xs.length - 1)) (fun k : Nat => .int (k : Int)) fun k => .leaf (.bl (decide (ns.getD k 0 < ns.getD (k + 1) 0)))]
      · rfl
      · simp [-R.bind, -R.thn, -S.thn, ↓bind_eq, ↓rthn_eq, ↓sthn_eq, runFn, Fn.start, outsOf, range0, range1, range2, range3, range4, exs, ex, exh, ev, evs, evA, evK, evB, evP, evI, evO, getL, setE, T.at1, T.fz, T.fzs, d2, dLt, dLen, dTy, dIsi, dIs, optR, leafR, blR, onBl, mulOk, takeAr, putAr, bindTg, wipe, back, dc, eqv_int, eqv_bl, eqv_str, D.ok, kN_int, kN_bl, kN_non, dl, p1, p2]
      · intro k hk
        have hk := List.mem_range.mp hk
        have h1 : k < ns.length := by omega
        have h2 : k + 1 < ns.length := by omega
        have q1 : dIx (.tup xs) (.int (k : Int)) = some (.int (ns.getD k 0)) := by
          rw [dIx_tup, atI_nat, hns, List.getElem?_map, List.getElem?_eq_getElem h1]; simp [List.getD_eq_getElem?_getD, h1]
        have q2 : dIx (.tup xs) (.int ((k : Int) + 1)) = some (.int (ns.getD (k + 1) 0)) := by
          have : ((k : Int) + 1) = ((k + 1 : Nat) : Int) := by omega
          rw [this, dIx_tup, atI_nat, hns, List.getElem?_map, List.getElem?_eq_getElem h2]; simp [List.getD_eq_getElem?_getD, h2]
        generalize ns.getD k 0 = y1 at q1
        generalize ns.getD (k + 1) 0 = y2 at q2
        refine ⟨[e0, e1, some (.leaf (.int v)), some (.leaf (.tup xs)), none, some (.leaf (.int (k : Int))), none], ?_, rfl⟩
        simp [-R.bind, -R.thn, -S.thn, ↓bind_eq, ↓rthn_eq, ↓sthn_eq, runFn, Fn.start, outsOf, range0, range1, range2, range3, range4, exs, ex, exh, ev, evs, evA, evK, evB, evP, evI, evO, getL, setE, T.at1, T.fz, T.fzs, d2, dLt, dLen, dTy, dIsi, dIs, optR, leafR, blR, onBl, mulOk, takeAr, putAr, bindTg, wipe, back, dc, eqv_int, eqv_bl, eqv_str, D.ok, kN_int, kN_bl, kN_non, lcB1, q1, q2]
    have a2 := db_all_map (List.range (xs.length - 1)) fun k => decide (ns.getD k 0 < ns.getD (k + 1) 0)
    have a3 : ((List.range (xs.length - 1)).all fun k => decide (ns.getD k 0 < ns.getD (k + 1) 0)) = ascB ns := by
      unfold ascB
      rw [zip_tail 0 ns, List.all_map, hlen]
      rfl
    rw [a3] at a2
    have a4 := fzs_leaf (List.range (xs.length - 1)) fun k => D.bl (decide (ns.getD k 0 < ns.getD (k + 1) 0))
    generalize ((List.range (xs.length - 1)).map fun k => T.leaf (D.bl (decide (ns.getD k 0 < ns.getD (k + 1) 0)))) = ts at l2 a4
    generalize ((List.range (xs.length - 1)).map fun k => D.bl (decide (ns.getD k 0 < ns.getD (k + 1) 0))) = ds at a2 a4
    cases b2 : ascB ns with
    | false =>
      rw [b2] at a2
      refine ⟨(fun h => nomatch h), fun _ => ⟨[e0, e1, some (.leaf (.int v)), some (.leaf (.tup xs)), none, none, none], ?_⟩⟩
      simp [-R.bind, -R.thn, -S.thn, ↓bind_eq, ↓rthn_eq, ↓sthn_eq, runFn, Fn.start, outsOf, range0, range1, range2, range3, range4, exs, ex, exh, ev, evs, evA, evK, evB, evP, evI, evO, getL, setE, T.at1, T.fz, T.fzs, d2, dLt, dLen, dTy, dIsi, dIs, optR, leafR, blR, onBl, mulOk, takeAr, putAr, bindTg, wipe, back, dc, eqv_int, eqv_bl, eqv_str, D.ok, kN_int, kN_bl, kN_non, frB, ljF, Sts.get, St.body, ↓l1, ↓l2, fzs_leaf, a4, a1, a2]
    | true =>
      rw [b2] at a2
      refine ⟨fun _ => ⟨[e0, e1, some (.leaf (.int v)), some (.leaf (.tup xs)), none, none, none], ?_, _, rfl⟩, fun h => by cases h⟩
      simp [-R.bind, -R.thn, -S.thn, ↓bind_eq, ↓rthn_eq, ↓sthn_eq, runFn, Fn.start, outsOf, range0, range1, range2, range3, range4, exs, ex, exh, ev, evs, evA, evK, evB, evP, evI, evO, getL, setE, T.at1, T.fz, T.fzs, d2, dLt, dLen, dTy, dIsi, dIs, optR, leafR, blR, onBl, mulOk, takeAr, putAr, bindTg, wipe, back, dc, eqv_int, eqv_bl, eqv_str, D.ok, kN_int, kN_bl, kN_non, frB, ljF, Sts.get, St.body, ↓l1, ↓l2, fzs_leaf, a4, a1, a2]
/-- the test of a move -/
theorem lj_move (c : Cx) (hc : c.call = call) (hio : c.io = []) (L d : D) (k : Nat) (hk : dLen L = some k) (n : Nat) (od : D.okN n d = true) (v : Int) (e1 w3 w4 : Option T) : (moveB k v d = true → ∃ e', frB c (.nm 4) ((ljF i).body.get 4).body d [some (.leaf L), e1, some (.leaf (.int v)), w3, w4, none, none] = .nx e' ∧ ∃ w4, e' = [some (.leaf L), e1, some (.leaf (.int v)), w3, w4, none, none]) ∧ (moveB k v d = false → ∃ e', frB c (.nm 4) ((ljF i).body.get 4).body d [some (.leaf L), e1, some (.leaf (.int v)), w3, w4, none, none] = .rt (.leaf (.bl false)) e') := by
  obtain ⟨call', glob', io', sub'⟩ := c
  simp only at hc hio
  subst hc; subst hio
  have hl := db_len L
  rw [hk] at hl
  have hkd := okd_of od
  cases b4 : isTupN 4 4 d with
  | false =>
    have e : moveB k v d = false := by unfold moveB; rw [b4]; rfl
    rw [e]
    refine ⟨(fun h => nomatch h), fun _ => ⟨[some (.leaf L), e1, some (.leaf (.int v)), w3, some (.leaf d), none, none], ?_⟩⟩
    cases d with
    | tup xs =>
      have hne : xs.length ≠ 4 := by
        intro e
        have : (decide ((4 : Int) ≤ (xs.length : Int)) && decide ((xs.length : Int) ≤ 4)) = false := b4
        rw [e] at this
        cases this
      have hb : ((xs.length : Int) == 4) = false := by rw [beq_eq_false_iff_ne]; omega
      have dl : db .len [.tup xs] = some (.leaf (.int (xs.length : Int))) := rfl
      simp [-R.bind, -R.thn, -S.thn, ↓bind_eq, ↓rthn_eq, ↓sthn_eq, runFn, Fn.start, outsOf, range0, range1, range2, range3, range4, exs, ex, exh, ev, evs, evA, evK, evB, evP, evI, evO, getL, setE, T.at1, T.fz, T.fzs, d2, dLt, dLen, dTy, dIsi, dIs, optR, leafR, blR, onBl, mulOk, takeAr, putAr, bindTg, wipe, back, dc, eqv_int, eqv_bl, eqv_str, D.ok, kN_int, kN_bl, kN_non, frB, ljF, Sts.get, St.body, dl, hb]
    | _ =>
      first
        | (simp [okd] at hkd; done)
        | simp [-R.bind, -R.thn, -S.thn, ↓bind_eq, ↓rthn_eq, ↓sthn_eq, runFn, Fn.start, outsOf, range0, range1, range2, range3, range4, exs, ex, exh, ev, evs, evA, evK, evB, evP, evI, evO, getL, setE, T.at1, T.fz, T.fzs, d2, dLt, dLen, dTy, dIsi, dIs, optR, leafR, blR, onBl, mulOk, takeAr, putAr, bindTg, wipe, back, dc, eqv_int, eqv_bl, eqv_str, D.ok, kN_int, kN_bl, kN_non, frB, ljF, Sts.get, St.body]
  | true =>
    obtain ⟨x0, x1, x2, x3, rfl⟩ := tup4 b4
    obtain ⟨o0, o1, o2, o3⟩ := okd4 od
    have i0 : dIx (.tup [x0, x1, x2, x3]) (.int 0) = some x0 := by rw [dIx_tup]; simp [L2.atI, L2.ixN]
    have i1 : dIx (.tup [x0, x1, x2, x3]) (.int 1) = some x1 := by rw [dIx_tup]; simp [L2.atI, L2.ixN]
    have i2 : dIx (.tup [x0, x1, x2, x3]) (.int 2) = some x2 := by rw [dIx_tup]; simp [L2.atI, L2.ixN]
    have i3 : dIx (.tup [x0, x1, x2, x3]) (.int 3) = some x3 := by rw [dIx_tup]; simp [L2.atI, L2.ixN]
    have q0 := hw x0 o0 0 (v - 1)
    have q3 := hw x3 o3 0 (v - 1)
    have q1 := hw x1 o1 0 ((k : Int) - 1)
    have q2 := hw x2 o2 (-1) 50
    have dl : db .len [.tup [x0, x1, x2, x3]] = some (.leaf (.int 4)) := rfl
    have e : moveB k v (.tup [x0, x1, x2, x3]) = ((wit 0 (v - 1) x0 && wit 0 (v - 1) x3) && (wit 0 ((k : Int) - 1) x1 && wit (-1) 50 x2)) := by
      unfold moveB; rw [b4, Bool.true_and]; rfl
    have iT : dIsi (.tup [x0, x1, x2, x3]) [.tuple] = some true := rfl
    rw [e]
    cases b0 : wit 0 (v - 1) x0 <;> rw [b0] at q0
    · refine ⟨(fun h => nomatch h), fun _ => ⟨[some (.leaf L), e1, some (.leaf (.int v)), w3, some (.leaf (.tup [x0, x1, x2, x3])), none, none], ?_⟩⟩
      simp [-R.bind, -R.thn, -S.thn, ↓bind_eq, ↓rthn_eq, ↓sthn_eq, runFn, Fn.start, outsOf, range0, range1, range2, range3, range4, exs, ex, exh, ev, evs, evA, evK, evB, evP, evI, evO, getL, setE, T.at1, T.fz, T.fzs, d2, dLt, dLen, dTy, dIsi, dIs, optR, leafR, blR, onBl, mulOk, takeAr, putAr, bindTg, wipe, back, dc, eqv_int, eqv_bl, eqv_str, D.ok, kN_int, kN_bl, kN_non, frB, ljF, Sts.get, St.body, dl, i0, q0]
    cases b3 : wit 0 (v - 1) x3 <;> rw [b3] at q3
    · refine ⟨(fun h => nomatch h), fun _ => ⟨[some (.leaf L), e1, some (.leaf (.int v)), w3, some (.leaf (.tup [x0, x1, x2, x3])), none, none], ?_⟩⟩
      simp [-R.bind, -R.thn, -S.thn, ↓bind_eq, ↓rthn_eq, ↓sthn_eq, runFn, Fn.start, outsOf, range0, range1, range2, range3, range4, exs, ex, exh, ev, evs, evA, evK, evB, evP, evI, evO, getL, setE, T.at1, T.fz, T.fzs, d2, dLt, dLen, dTy, dIsi, dIs, optR, leafR, blR, onBl, mulOk, takeAr, putAr, bindTg, wipe, back, dc, eqv_int, eqv_bl, eqv_str, D.ok, kN_int, kN_bl, kN_non, frB, ljF, Sts.get, St.body, dl, i0, i3, q0, q3]
    cases b1 : wit 0 ((k : Int) - 1) x1 <;> rw [b1] at q1
    · refine ⟨(fun h => nomatch h), fun _ => ⟨[some (.leaf L), e1, some (.leaf (.int v)), w3, some (.leaf (.tup [x0, x1, x2, x3])), none, none], ?_⟩⟩
      simp [-R.bind, -R.thn, -S.thn, ↓bind_eq, ↓rthn_eq, ↓sthn_eq, runFn, Fn.start, outsOf, range0, range1, range2, range3, range4, exs, ex, exh, ev, evs, evA, evK, evB, evP, evI, evO, getL, setE, T.at1, T.fz, T.fzs, d2, dLt, dLen, dTy, dIsi, dIs, optR, leafR, blR, onBl, mulOk, takeAr, putAr, bindTg, wipe, back, dc, eqv_int, eqv_bl, eqv_str, D.ok, kN_int, kN_bl, kN_non, frB, ljF, Sts.get, St.body, dl, i0, i3, i1, q0, q3, q1, hl]
    cases b2 : wit (-1) 50 x2 <;> rw [b2] at q2
    · refine ⟨(fun h => nomatch h), fun _ => ⟨[some (.leaf L), e1, some (.leaf (.int v)), w3, some (.leaf (.tup [x0, x1, x2, x3])), none, none], ?_⟩⟩
      simp [-R.bind, -R.thn, -S.thn, ↓bind_eq, ↓rthn_eq, ↓sthn_eq, runFn, Fn.start, outsOf, range0, range1, range2, range3, range4, exs, ex, exh, ev, evs, evA, evK, evB, evP, evI, evO, getL, setE, T.at1, T.fz, T.fzs, d2, dLt, dLen, dTy, dIsi, dIs, optR, leafR, blR, onBl, mulOk, takeAr, putAr, bindTg, wipe, back, dc, eqv_int, eqv_bl, eqv_str, D.ok, kN_int, kN_bl, kN_non, frB, ljF, Sts.get, St.body, dl, i0, i3, i1, i2, q0, q3, q1, q2, hl]
    · refine ⟨fun _ => ⟨[some (.leaf L), e1, some (.leaf (.int v)), w3, some (.leaf (.tup [x0, x1, x2, x3])), none, none], ?_, _, rfl⟩, fun h => by cases h⟩
      simp [-R.bind, -R.thn, -S.thn, ↓bind_eq, ↓rthn_eq, ↓sthn_eq, runFn, Fn.start, outsOf, range0, range1, range2, range3, range4, exs, ex, exh, ev, evs, evA, evK, evB, evP, evI, evO, getL, setE, T.at1, T.fz, T.fzs, d2, dLt, dLen, dTy, dIsi, dIs, optR, leafR, blR, onBl, mulOk, takeAr, putAr, bindTg, wipe, back, dc, eqv_int, eqv_bl, eqv_str, D.ok, kN_int, kN_bl, kN_non, frB, ljF, Sts.get, St.body, dl, i0, i3, i1, i2, q0, q3, q1, q2, hl]
theorem lj_ok (L N S E M : D) (k n : Nat) (oL : D.okN 60 L = true) (hk : dLen L = some k) (oN : okd N) (oS : D.okN n S = true) (oE : D.okN n E = true) (oM : D.okN n M = true) (szS : S.items.length ≤ line) (szE : E.items.length ≤ line) (szM : M.items.length ≤ line) : runFn call glob sub (ljF i) [.leaf L, .leaf (.tup [L, N, S, E, M])] = .ret (.leaf (.bl (lawM k N S E M))) [none, none] := by
  let c : Cx := ⟨call, glob, [], sub⟩
  have dl : db .len [.tup [L, N, S, E, M]] = some (.leaf (.int 5)) := rfl
  have i0 : dIx (.tup [L, N, S, E, M]) (.int 0) = some L := by rw [dIx_tup]; simp [L2.atI, L2.ixN]
  have i1 : dIx (.tup [L, N, S, E, M]) (.int 1) = some N := by rw [dIx_tup]; simp [L2.atI, L2.ixN]
  have i4 : dIx (.tup [L, N, S, E, M]) (.int 4) = some M := by rw [dIx_tup]; simp [L2.atI, L2.ixN]
  have c2 : dSl (.tup [L, N, S, E, M]) (some 2) none = some (.leaf (.tup [S, E, M])) := by
    have := sl_from (xs := [L, N, S, E, M]) (q := 1) (by simp)
    exact this
  have c24 : dSl (.tup [L, N, S, E, M]) (some 2) (some 4) = some (.leaf (.tup [S, E])) := rfl
  have eqr : D.eqv L L = true := eqv_refl 60 L oL
  have w1 := hw N oN 1 12
  have hl := db_len L
  rw [hk] at hl
  cases bN : wit 1 12 N with
  | false =>
    rw [bN] at w1
    have e : lawM k N S E M = false := by unfold lawM; rw [bN]; rfl
    rw [e]
    simp [-R.bind, -R.thn, -S.thn, ↓bind_eq, ↓rthn_eq, ↓sthn_eq, runFn, Fn.start, outsOf, range0, range1, range2, range3, range4, exs, ex, exh, ev, evs, evA, evK, evB, evP, evI, evO, getL, setE, T.at1, T.fz, T.fzs, d2, dLt, dLen, dTy, dIsi, dIs, optR, leafR, blR, onBl, mulOk, takeAr, putAr, bindTg, wipe, back, dc, eqv_int, eqv_bl, eqv_str, D.ok, kN_int, kN_bl, kN_non, ljF, dl, i0, i1, oL, eqr, w1]
  | true =>
    rw [bN] at w1
    obtain ⟨v, rfl⟩ : ∃ v, N = .int v := by cases N with | int v => exact ⟨v, rfl⟩ | _ => cases bN
    have e0 : ex c ((ljF i).body.get 0) [some (.leaf L), some (.leaf (.tup [L, .int v, S, E, M])), none, none, none, none, none] = .nx [some (.leaf L), some (.leaf (.tup [L, .int v, S, E, M])), none, none, none, none, none] := by
      simp [-R.bind, -R.thn, -S.thn, ↓bind_eq, ↓rthn_eq, ↓sthn_eq, runFn, Fn.start, outsOf, range0, range1, range2, range3, range4, exs, ex, exh, ev, evs, evA, evK, evB, evP, evI, evO, getL, setE, T.at1, T.fz, T.fzs, d2, dLt, dLen, dTy, dIsi, dIs, optR, leafR, blR, onBl, mulOk, takeAr, putAr, bindTg, wipe, back, dc, eqv_int, eqv_bl, eqv_str, D.ok, kN_int, kN_bl, kN_non, c, ljF, Sts.get, dl, i0, i1, oL, eqr, w1]
    have e1 : ex c ((ljF i).body.get 1) [some (.leaf L), some (.leaf (.tup [L, .int v, S, E, M])), none, none, none, none, none] = .nx [some (.leaf L), some (.leaf (.tup [L, .int v, S, E, M])), some (.leaf (.int v)), none, none, none, none] := by
      simp [-R.bind, -R.thn, -S.thn, ↓bind_eq, ↓rthn_eq, ↓sthn_eq, runFn, Fn.start, outsOf, range0, range1, range2, range3, range4, exs, ex, exh, ev, evs, evA, evK, evB, evP, evI, evO, getL, setE, T.at1, T.fz, T.fzs, d2, dLt, dLen, dTy, dIsi, dIs, optR, leafR, blR, onBl, mulOk, takeAr, putAr, bindTg, wipe, back, dc, eqv_int, eqv_bl, eqv_str, D.ok, kN_int, kN_bl, kN_non, c, ljF, Sts.get, i1]
    have e : lawM k (.int v) S E M = ((isTup S && (isTup E && isTup M)) && ((idxB v S && idxB v E) && movesB k v M)) := by
      unfold lawM; rw [bN]; rfl
    rw [e]
    let X : D := .tup [L, .int v, S, E, M]
    have fin : ∀ (e' : Env) (b : Bool), exs c ((ljF i).body.drop 2) [some (.leaf L), some (.leaf X), some (.leaf (.int v)), none, none, none, none] = .rt (.leaf (.bl b)) e' → runFn call glob sub (ljF i) [.leaf L, .leaf X] = .ret (.leaf (.bl b)) [none, none] := by
      intro e' b h
      have := run_rt (call := call) (glob := glob) (sub := sub) (F := ljF i) (ts := [.leaf L, .leaf X]) (t := .leaf (.bl b)) (e := e') rfl (by
        show exs c ((ljF i).body.drop 0) [some (.leaf L), some (.leaf X), none, none, none, none, none] = _
        rw [exs_at c _ 0 _ _ rfl e0, exs_at c _ 1 _ _ rfl e1, h])
      rw [this]; rfl
    show runFn call glob sub (ljF i) [.leaf L, .leaf X] = _
    -- the rows are tuples
    have I2 : evI c ((ljF i).body.get 2).it [some (.leaf L), some (.leaf X), some (.leaf (.int v)), none, none, none, none] = .ok [S, E, M] [some (.leaf L), some (.leaf X), some (.leaf (.int v)), none, none, none, none] := by
      simp [-R.bind, -R.thn, -S.thn, ↓bind_eq, ↓rthn_eq, ↓sthn_eq, runFn, Fn.start, outsOf, range0, range1, range2, range3, range4, exs, ex, exh, ev, evs, evA, evK, evB, evP, evI, evO, getL, setE, T.at1, T.fz, T.fzs, d2, dLt, dLen, dTy, dIsi, dIs, optR, leafR, blR, onBl, mulOk, takeAr, putAr, bindTg, wipe, back, dc, eqv_int, eqv_bl, eqv_str, D.ok, kN_int, kN_bl, kN_non, c, ljF, Sts.get, St.it, X, c2, dWalk]
    have kS := okd_of oS
    have kE := okd_of oE
    have kM := okd_of oM
    obtain ⟨t1, t2⟩ := forL_test (f := frB c (.nm 3) ((ljF i).body.get 2).body) (I := fun e => ∃ w3, e = [some (.leaf L), some (.leaf X), some (.leaf (.int v)), w3, none, none, none]) isTup [S, E, M] _ ⟨none, rfl⟩ (by
      rintro d hd _ ⟨w3, rfl⟩
      have kd : okd d := by
        simp only [List.mem_cons, List.not_mem_nil, or_false] at hd
        rcases hd with rfl | rfl | rfl
        · exact kS
        · exact kE
        · exact kM
      constructor
      · intro hb
        refine ⟨[some (.leaf L), some (.leaf X), some (.leaf (.int v)), some (.leaf d), none, none, none], ?_, _, rfl⟩
        clear_value X
        cases d <;> simp [isTup] at hb
        simp [-R.bind, -R.thn, -S.thn, ↓bind_eq, ↓rthn_eq, ↓sthn_eq, runFn, Fn.start, outsOf, range0, range1, range2, range3, range4, exs, ex, exh, ev, evs, evA, evK, evB, evP, evI, evO, getL, setE, T.at1, T.fz, T.fzs, d2, dLt, dLen, dTy, dIsi, dIs, optR, leafR, blR, onBl, mulOk, takeAr, putAr, bindTg, wipe, back, dc, eqv_int, eqv_bl, eqv_str, D.ok, kN_int, kN_bl, kN_non, c, frB, ljF, Sts.get, St.body]
      · intro hb
        refine ⟨[some (.leaf L), some (.leaf X), some (.leaf (.int v)), some (.leaf d), none, none, none], ?_⟩
        clear_value X
        cases d <;> simp [isTup] at hb <;> simp [okd] at kd <;> simp [-R.bind, -R.thn, -S.thn, ↓bind_eq, ↓rthn_eq, ↓sthn_eq, runFn, Fn.start, outsOf, range0, range1, range2, range3, range4, exs, ex, exh, ev, evs, evA, evK, evB, evP, evI, evO, getL, setE, T.at1, T.fz, T.fzs, d2, dLt, dLen, dTy, dIsi, dIs, optR, leafR, blR, onBl, mulOk, takeAr, putAr, bindTg, wipe, back, dc, eqv_int, eqv_bl, eqv_str, D.ok, kN_int, kN_bl, kN_non, c, frB, ljF, Sts.get, St.body])
    have f2 : ex c ((ljF i).body.get 2) [some (.leaf L), some (.leaf X), some (.leaf (.int v)), none, none, none, none] = forL (frB c (.nm 3) ((ljF i).body.get 2).body) [S, E, M] [some (.leaf L), some (.leaf X), some (.leaf (.int v)), none, none, none, none] := fr_eq c _ _ _ _ _ _ I2
    have eT : [S, E, M].all isTup = (isTup S && (isTup E && isTup M)) := by simp
    rw [eT] at t1 t2
    cases bT : (isTup S && (isTup E && isTup M)) with
    | false =>
      obtain ⟨e', h'⟩ := t2 bT
      rw [h'] at f2
      exact fin e' false (exs_rt c _ 2 _ _ _ rfl f2)
    | true =>
      obtain ⟨_, h', w3, rfl⟩ := t1 bT
      rw [h'] at f2
      simp only [Bool.and_eq_true] at bT
      rw [Bool.true_and]
      have I3 : evI c ((ljF i).body.get 3).it [some (.leaf L), some (.leaf X), some (.leaf (.int v)), w3, none, none, none] = .ok [S, E] [some (.leaf L), some (.leaf X), some (.leaf (.int v)), w3, none, none, none] := by
        simp [-R.bind, -R.thn, -S.thn, ↓bind_eq, ↓rthn_eq, ↓sthn_eq, runFn, Fn.start, outsOf, range0, range1, range2, range3, range4, exs, ex, exh, ev, evs, evA, evK, evB, evP, evI, evO, getL, setE, T.at1, T.fz, T.fzs, d2, dLt, dLen, dTy, dIsi, dIs, optR, leafR, blR, onBl, mulOk, takeAr, putAr, bindTg, wipe, back, dc, eqv_int, eqv_bl, eqv_str, D.ok, kN_int, kN_bl, kN_non, c, ljF, Sts.get, St.it, X, c24, dWalk]
      obtain ⟨t3, t4⟩ := forL_test (f := frB c (.nm 3) ((ljF i).body.get 3).body) (I := fun e => ∃ w3, e = [some (.leaf L), some (.leaf X), some (.leaf (.int v)), w3, none, none, none]) (idxB v) [S, E] _ ⟨w3, rfl⟩ (by
        rintro d hd _ ⟨w3, rfl⟩
        simp only [List.mem_cons, List.not_mem_nil, or_false] at hd
        rcases hd with rfl | rfl
        · exact lj_row i call hw c rfl rfl _ bT.1 n oS szS v _ _ w3
        · exact lj_row i call hw c rfl rfl _ bT.2.1 n oE szE v _ _ w3)
      have f3 : ex c ((ljF i).body.get 3) [some (.leaf L), some (.leaf X), some (.leaf (.int v)), w3, none, none, none] = forL (frB c (.nm 3) ((ljF i).body.get 3).body) [S, E] [some (.leaf L), some (.leaf X), some (.leaf (.int v)), w3, none, none, none] := fr_eq c _ _ _ _ _ _ I3
      have eI : [S, E].all (idxB v) = (idxB v S && idxB v E) := by simp
      rw [eI] at t3 t4
      cases bI : (idxB v S && idxB v E) with
      | false =>
        obtain ⟨e', h'⟩ := t4 bI
        rw [h'] at f3
        exact fin e' false (by rw [exs_at c _ 2 _ _ rfl f2, exs_rt c _ 3 _ _ _ rfl f3])
      | true =>
        obtain ⟨_, h', w3', rfl⟩ := t3 bI
        rw [h'] at f3
        rw [Bool.true_and]
        obtain ⟨ms, rfl⟩ : ∃ ms, M = .tup ms := by
          cases M with
          | tup ms => exact ⟨ms, rfl⟩
          | _ => exact absurd bT.2.2 (by simp [isTup])
        have hxs : ∀ x ∈ ms, ∃ m, D.okN m x = true := by
          cases n with
          | zero => simp [D.okN] at oM
          | succ n =>
            rw [kN_tup, List.all_eq_true] at oM
            exact fun x hx => ⟨n, oM x hx⟩
        have szM' : ms.length ≤ line := szM
        have I4 : evI c ((ljF i).body.get 4).it [some (.leaf L), some (.leaf X), some (.leaf (.int v)), w3', none, none, none] = .ok ms [some (.leaf L), some (.leaf X), some (.leaf (.int v)), w3', none, none, none] := by
          simp [-R.bind, -R.thn, -S.thn, ↓bind_eq, ↓rthn_eq, ↓sthn_eq, runFn, Fn.start, outsOf, range0, range1, range2, range3, range4, exs, ex, exh, ev, evs, evA, evK, evB, evP, evI, evO, getL, setE, T.at1, T.fz, T.fzs, d2, dLt, dLen, dTy, dIsi, dIs, optR, leafR, blR, onBl, mulOk, takeAr, putAr, bindTg, wipe, back, dc, eqv_int, eqv_bl, eqv_str, D.ok, kN_int, kN_bl, kN_non, c, ljF, Sts.get, St.it, X, i4, dWalk]
        obtain ⟨t5, t6⟩ := forL_test (f := frB c (.nm 4) ((ljF i).body.get 4).body) (I := fun e => ∃ w4, e = [some (.leaf L), some (.leaf X), some (.leaf (.int v)), w3', w4, none, none]) (moveB k v) ms _ ⟨none, rfl⟩ (by
          rintro d hd _ ⟨w4, rfl⟩
          obtain ⟨m, hm⟩ := hxs d hd
          exact lj_move i call hw c rfl rfl L d k hk m hm v _ w3' w4)
        have f4 : ex c ((ljF i).body.get 4) [some (.leaf L), some (.leaf X), some (.leaf (.int v)), w3', none, none, none] = forL (frB c (.nm 4) ((ljF i).body.get 4).body) ms [some (.leaf L), some (.leaf X), some (.leaf (.int v)), w3', none, none, none] := fr_eq c _ _ _ _ _ _ I4
        have eM : movesB k v (.tup ms) = (ms.all (moveB k v) && ascR (ms.map rowI)) := rfl
        rw [eM]
        cases bM : ms.all (moveB k v) with
        | false =>
          obtain ⟨e', h'⟩ := t6 bM
          rw [h'] at f4
          exact fin e' false (by rw [exs_at c _ 2 _ _ rfl f2, exs_at c _ 3 _ _ rfl f3, exs_rt c _ 4 _ _ _ rfl f4])
        | true =>
          obtain ⟨_, h', w4, rfl⟩ := t5 bM
          rw [h'] at f4
          rw [Bool.true_and]
          have hrs := moves_rows bM
          generalize hR : ms.map rowI = rs at hrs
          have hlen : ms.length = rs.length := by rw [← hR, List.length_map]
          have p1 := rngOf_pred ms.length szM'
          have p2 := dWalk_rng (n := ms.length - 1) (by omega)
          have dM : db .len [.tup ms] = some (.leaf (.int (ms.length : Int))) := rfl
          have l2 : ev c (.lc (.cmp .lt (.idx (.idx (.fz 1) (.int 4)) (.get 5)) (.idx (.idx (.fz 1) (.int 4)) (.bin .add (.get 5) (.int 1)))) (.nm 5) (.d (.rg (.cons (.bin .sub (.bi .len (.cons (.idx (.fz 1) (.int 4)) .nil)) (.int 1)) .nil))) .nil [5]) [some (.leaf L), some (.leaf X), some (.leaf (.int v)), w3', w4, none, none] = .ok (.lst ((List.range (ms.length - 1)).map fun k => .leaf (.bl (HT.lexLt (rs.getD k []) (rs.getD (k + 1) []))))) [some (.leaf L), some (.leaf X), some (.leaf (.int v)), w3', w4, none, none] := by
            rw [lc_map c (e1 := [some (.leaf L), some (.leaf X), some (.leaf (.int v)), w3', w4, none, none]) (List.range (ms.length - 1)) (fun k : Nat => .int (k : Int)) fun k => .leaf (.bl (HT.lexLt (rs.getD k []) (rs.getD (k + 1) [])))]
            · rfl
            · simp [-R.bind, -R.thn, -S.thn, ↓bind_eq, ↓rthn_eq, ↓sthn_eq, runFn, Fn.start, outsOf, range0, range1, range2, range3, range4, exs, ex, exh, ev, evs, evA, evK, evB, evP, evI, evO, getL, setE, T.at1, T.fz, T.fzs, d2, dLt, dLen, dTy, dIsi, dIs, optR, leafR, blR, onBl, mulOk, takeAr, putAr, bindTg, wipe, back, dc, eqv_int, eqv_bl, eqv_str, D.ok, kN_int, kN_bl, kN_non, c, X, i4, dM, p1, p2]
            · intro j hj
              have hj := List.mem_range.mp hj
              have h1 : j < rs.length := by omega
              have h2 : j + 1 < rs.length := by omega
              have q1 : dIx (.tup ms) (.int (j : Int)) = some (rowT (rs.getD j [])) := by
                rw [dIx_tup, atI_nat, hrs, List.getElem?_map, List.getElem?_eq_getElem h1]; simp [List.getD_eq_getElem?_getD, h1]
              have q2 : dIx (.tup ms) (.int ((j : Int) + 1)) = some (rowT (rs.getD (j + 1) [])) := by
                have : ((j : Int) + 1) = ((j + 1 : Nat) : Int) := by omega
                rw [this, dIx_tup, atI_nat, hrs, List.getElem?_map, List.getElem?_eq_getElem h2]; simp [List.getD_eq_getElem?_getD, h2]
              have q3 := dLt_row (rs.getD j []) (rs.getD (j + 1) [])
              generalize HT.lexLt (rs.getD j []) (rs.getD (j + 1) []) = B at q3
              generalize rowT (rs.getD j []) = y1 at q1 q3
              generalize rowT (rs.getD (j + 1) []) = y2 at q2 q3
              refine ⟨[some (.leaf L), some (.leaf X), some (.leaf (.int v)), w3', w4, some (.leaf (.int (j : Int))), none], ?_, rfl⟩
              have q4 : dc .lt y1 y2 = some B := q3
              have k1 : ev c (.idx (.idx (.fz 1) (.int 4)) (.get 5)) [some (.leaf L), some (.leaf X), some (.leaf (.int v)), w3', w4, some (.leaf (.int (j : Int))), none] = .ok (.leaf y1) [some (.leaf L), some (.leaf X), some (.leaf (.int v)), w3', w4, some (.leaf (.int (j : Int))), none] := by
                simp [-R.bind, -R.thn, -S.thn, ↓bind_eq, ↓rthn_eq, ↓sthn_eq, runFn, Fn.start, outsOf, range0, range1, range2, range3, range4, exs, ex, exh, ev, evs, evA, evK, evB, evP, evI, evO, getL, setE, T.at1, T.fz, T.fzs, d2, dLt, dLen, dTy, dIsi, dIs, optR, leafR, blR, onBl, mulOk, takeAr, putAr, bindTg, wipe, back, dc, eqv_int, eqv_bl, eqv_str, D.ok, kN_int, kN_bl, kN_non, X, i4, q1]
              have k2 : ev c (.idx (.idx (.fz 1) (.int 4)) (.bin .add (.get 5) (.int 1))) [some (.leaf L), some (.leaf X), some (.leaf (.int v)), w3', w4, some (.leaf (.int (j : Int))), none] = .ok (.leaf y2) [some (.leaf L), some (.leaf X), some (.leaf (.int v)), w3', w4, some (.leaf (.int (j : Int))), none] := by
                simp [-R.bind, -R.thn, -S.thn, ↓bind_eq, ↓rthn_eq, ↓sthn_eq, runFn, Fn.start, outsOf, range0, range1, range2, range3, range4, exs, ex, exh, ev, evs, evA, evK, evB, evP, evI, evO, getL, setE, T.at1, T.fz, T.fzs, d2, dLt, dLen, dTy, dIsi, dIs, optR, leafR, blR, onBl, mulOk, takeAr, putAr, bindTg, wipe, back, dc, eqv_int, eqv_bl, eqv_str, D.ok, kN_int, kN_bl, kN_non, X, i4, q2]
              show ev c (.cmp .lt (.idx (.idx (.fz 1) (.int 4)) (.get 5)) (.idx (.idx (.fz 1) (.int 4)) (.bin .add (.get 5) (.int 1)))) [some (.leaf L), some (.leaf X), some (.leaf (.int v)), w3', w4, some (.leaf (.int (j : Int))), none] = _
              rw [ev, k1, bind_eq]
              show (ev c _ _).bind _ = _
              rw [k2, bind_eq]
              show blR (dc .lt y1 y2) _ = _
              rw [q4]
              rfl
          have a2 := db_all_map (List.range (ms.length - 1)) fun k => HT.lexLt (rs.getD k []) (rs.getD (k + 1) [])
          have a3 : ((List.range (ms.length - 1)).all fun k => HT.lexLt (rs.getD k []) (rs.getD (k + 1) [])) = ascR rs := by
            unfold ascR
            rw [zip_tail [] rs, List.all_map, hlen]
            rfl
          rw [a3] at a2
          have a4 := fzs_leaf (List.range (ms.length - 1)) fun k => D.bl (HT.lexLt (rs.getD k []) (rs.getD (k + 1) []))
          generalize ((List.range (ms.length - 1)).map fun k => T.leaf (D.bl (HT.lexLt (rs.getD k []) (rs.getD (k + 1) [])))) = ts at l2 a4
          generalize ((List.range (ms.length - 1)).map fun k => D.bl (HT.lexLt (rs.getD k []) (rs.getD (k + 1) []))) = ds at a2 a4
          have f5 : ex c ((ljF i).body.get 5) [some (.leaf L), some (.leaf X), some (.leaf (.int v)), w3', w4, none, none] = .rt (.leaf (.bl (ascR rs))) [some (.leaf L), some (.leaf X), some (.leaf (.int v)), w3', w4, none, none] := by
            clear_value X c
            simp [-R.bind, -R.thn, -S.thn, ↓bind_eq, ↓rthn_eq, ↓sthn_eq, runFn, Fn.start, outsOf, range0, range1, range2, range3, range4, exs, ex, exh, ev, evs, evA, evK, evB, evP, evI, evO, getL, setE, T.at1, T.fz, T.fzs, d2, dLt, dLen, dTy, dIsi, dIs, optR, leafR, blR, onBl, mulOk, takeAr, putAr, bindTg, wipe, back, dc, eqv_int, eqv_bl, eqv_str, D.ok, kN_int, kN_bl, kN_non, ljF, Sts.get, ↓l2, a4, a2]
          exact fin _ _ (by rw [exs_at c _ 2 _ _ rfl f2, exs_at c _ 3 _ _ rfl f3, exs_at c _ 4 _ _ rfl f4, exs_rt c _ 5 _ _ _ rfl f5])
end
end Mi
end
section
set_option maxRecDepth 100000
set_option maxHeartbeats 0
/-! Mc4: machines drawn. -/
namespace Mi
theorem forL_rng' {f : D → Env → S} (J : Nat → Env → Prop) : ∀ (l s : Nat) (e : Env), J s e → (∀ i, s ≤ i → i < s + l → ∀ e, J i e → ∃ e', f (.int (i : Int)) e = .nx e' ∧ J (i + 1) e') → ∃ e', forL f ((List.range' s l).map fun i : Nat => .int (i : Int)) e = .nx e' ∧ J (s + l) e'
  | 0, s, e, h, _ => ⟨e, rfl, h⟩
  | l + 1, s, e, h, k => by
    obtain ⟨e1, h1, h2⟩ := k s (Nat.le_refl _) (by omega) e h
    obtain ⟨e2, h3, h4⟩ := forL_rng' J l (s + 1) e1 h2 fun i a b => k i (by omega) (by omega)
    refine ⟨e2, ?_, by rw [show s + (l + 1) = s + 1 + l by omega]; exact h4⟩
    rw [List.range'_succ, List.map_cons, forL, h1]
    exact h3
theorem forL_rng {f : D → Env → S} (J : Nat → Env → Prop) (n : Nat) (e : Env) (h : J 0 e) (k : ∀ i, i < n → ∀ e, J i e → ∃ e', f (.int (i : Int)) e = .nx e' ∧ J (i + 1) e') : ∃ e', forL f ((List.range n).map fun i : Nat => .int (i : Int)) e = .nx e' ∧ J n e' := by
  have := forL_rng' J n 0 e h fun i _ hi => k i (by omega)
  rw [← List.range_eq_range', Nat.zero_add] at this
  exact this
/-! ### sorted rows -/
theorem rows?_ok : ∀ {rs : List (List Int)}, (∀ r ∈ rs, r ≠ []) → rows? (rs.map rowT) = some rs
  | [], _ => rfl
  | [] :: _, h => absurd rfl (h [] (by simp))
  | (x :: r) :: rs, h => by
    have h1 : rows? (rs.map rowT) = some rs := rows?_ok fun z hz => h z (List.mem_cons_of_mem _ hz)
    have h2 : ints? (((x :: r).map .int) : List D) = some (x :: r) := ints?_map' (x :: r)
    show (match ints? (D.int x :: r.map .int), rows? (rs.map rowT) with
      | some ns, some rs => some (ns :: rs)
      | _, _ => none) = _
    rw [h1, show ints? (D.int x :: r.map .int) = some (x :: r) from h2]
theorem sorted_rows {rs : List (List Int)} (h : ∀ r ∈ rs, r ≠ []) : db .sorted [.lst (rs.map rowT)] = some (.lst (leafs ((rs.mergeSort fun a b => decide (a ≤ b)).map rowT))) := by
  cases rs with
  | nil =>
    have e1 : (([] : List (List Int)).mergeSort fun a b => decide (a ≤ b)) = [] := by simp
    have e2 : (([] : List Int).mergeSort fun a b => decide (a ≤ b)) = [] := by simp
    show some (T.lst ((([] : List Int).mergeSort (fun a b => decide (a ≤ b))).map fun i => .leaf (.int i))) = _
    rw [e1, e2]
    rfl
  | cons r q =>
    have e := rows?_ok h
    show (match ints? ((r :: q).map rowT) with
      | some ns => some (T.lst ((ns.mergeSort (fun a b => decide (a ≤ b))).map fun i => .leaf (.int i)))
      | none => (rows? ((r :: q).map rowT)).map fun (rs : List (List Int)) => T.lst (leafs ((rs.mergeSort fun a b => decide (a ≤ b)).map rowT))) = _
    rw [e, show ints? ((r :: q).map rowT) = none from rfl]
    rfl
theorem ascR_pw : ∀ {rs : List (List Int)}, rs.Pairwise (fun a b => a < b) → ascR rs = true
  | [], _ => rfl
  | [_], _ => rfl
  | a :: b :: r, h => by
    have e : ascR (a :: b :: r) = (HT.lexLt a b && ascR (b :: r)) := rfl
    rw [e, ascR_pw (List.Pairwise.of_cons h), Bool.and_true, lex_lt]
    exact decide_eq_true ((List.pairwise_cons.mp h).1 b (by simp))
theorem sorted_asc {rs : List (List Int)} (h : rs.Nodup) : ascR (rs.mergeSort fun a b => decide (a ≤ b)) = true := by
  apply ascR_pw
  have p1 : (rs.mergeSort fun a b => decide (a ≤ b)).Pairwise fun a b => decide (a ≤ b) = true := List.pairwise_mergeSort (fun a b c h1 h2 => by
    simp only [decide_eq_true_eq] at *
    exact List.le_trans h1 h2) (fun a b => by
    simp only [Bool.or_eq_true, decide_eq_true_eq]
    exact List.le_total a b) rs
  have p2 : (rs.mergeSort fun a b => decide (a ≤ b)).Nodup := (List.mergeSort_perm rs _).nodup_iff.mpr h
  exact (p1.and p2).imp fun ⟨h1, h2⟩ => by
    simp only [decide_eq_true_eq] at h1
    rcases List.le_iff_lt_or_eq.mp h1 with h3 | h3
    · exact h3
    · exact absurd h3 h2
/-! ### machines -/
def Mv (k m : Nat) (r : List Int) : Prop := ∃ (p a q : Nat) (c : Int), r = [(p : Int), (a : Int), c, (q : Int)] ∧ p < m ∧ a < k ∧ q < m ∧ -1 ≤ c ∧ c ≤ 50
theorem Mv.ne {k m : Nat} {r : List Int} (h : Mv k m r) : r ≠ [] := by
  obtain ⟨p, a, q, c, rfl, _⟩ := h
  simp
theorem Mv.ok {k m : Nat} {r : List Int} (h : Mv k m r) : moveB k m (rowT r) = true := by
  obtain ⟨p, a, q, c, rfl, h1, h2, h3, h4, h5⟩ := h
  show (true && ((wit 0 ((m : Int) - 1) (.int p) && wit 0 ((m : Int) - 1) (.int q)) && (wit 0 ((k : Int) - 1) (.int a) && wit (-1) 50 (.int c)))) = true
  rw [wit_nat h1, wit_nat h3, wit_nat h2]
  show (decide (-1 ≤ c) && decide (c ≤ 50)) = true
  rw [decide_eq_true h4, decide_eq_true h5]
  rfl
structure Mach (k m : Nat) (ss es : List Nat) (rs : List (List Int)) : Prop where
  pos : 0 < m
  most : m ≤ 12
  ss : ss.Sublist (List.range m)
  es : es.Sublist (List.range m)
  mv : ∀ r ∈ rs, Mv k m r
  asc : ascR rs = true
  len : rs.length ≤ 5000
def machD (L : D) (m : Nat) (ss es : List Nat) (rs : List (List Int)) : D := .tup [L, .int (m : Int), natsD ss, natsD es, .tup (rs.map rowT)]
theorem idx_sub {m : Nat} {es : List Nat} (h : es.Sublist (List.range m)) : idxB m (natsD es) = true := by
  have e1 : (natsD es).items.all (wit 0 ((m : Int) - 1)) = true := nats_all fun n hn => List.mem_range.mp (h.subset hn)
  show ((es.map fun n : Nat => D.int (n : Int)).all (wit 0 ((m : Int) - 1)) && ascB ((es.map fun n : Nat => D.int (n : Int)).map dToI)) = true
  rw [show (es.map fun n : Nat => D.int (n : Int)).all (wit 0 ((m : Int) - 1)) = true from e1, Bool.true_and, List.map_map]
  apply ascB_pw
  have p := (List.pairwise_lt_range (n := m)).sublist h
  rw [List.pairwise_map]
  exact p.imp fun hab => by show (_ : Int) < _; simp [dToI]; omega
theorem rowI_rowT (r : List Int) : rowI (rowT r) = r := by
  show (r.map D.int).map dToI = r
  rw [List.map_map]
  have : (dToI ∘ D.int) = id := rfl
  rw [this, List.map_id]
theorem Mach.moves {k m : Nat} {ss es : List Nat} {rs : List (List Int)} (h : Mach k m ss es rs) : movesB k m (.tup (rs.map rowT)) = true := by
  show ((rs.map rowT).all (moveB k m) && ascR ((rs.map rowT).map rowI)) = true
  have e1 : (rs.map rowT).all (moveB k m) = true := by
    rw [List.all_eq_true]
    intro d hd
    obtain ⟨r, hr, rfl⟩ := List.mem_map.mp hd
    exact (h.mv r hr).ok
  have e2 : (rs.map rowT).map rowI = rs := by
    rw [List.map_map]
    have : (rowI ∘ rowT) = id := by funext r; exact rowI_rowT r
    rw [this, List.map_id]
  rw [e1, e2, h.asc]
  rfl
def dmachF (i : Nat) : Fn := ⟨4, 12, [0],
    (.cons (.asg 4 (.bin .add (.int 1) (.call i (.io 0 (.v (.fz 2) .nil)) .nil [.io 0, .v 0])))
    (.cons (.asg 5 (.bin .add (.int 1) (.call i (.io 0 (.v (.int 3) .nil)) .nil [.io 0, .v 0])))
    (.cons (.asg 6 (.lst .nil))
    (.cons (.fr (.nm 7) (.d (.rg (.cons (.get 4) .nil))) (.cons (.fr (.nm 10) (.d (.rg (.cons (.bi .len (.cons (.fz 1) .nil)) .nil))) (.cons (.fr (.nm 11) (.d (.rg (.cons (.get 4) .nil))) (.cons (.ifs (.cmp .eq (.call i (.io 0 (.v (.bin .add (.get 5) (.int 1)) .nil)) .nil [.io 0, .v 0]) (.int 0)) (.cons (.ex (.mt 0 6 .nil (.cons (.tup (.cons (.get 7) (.cons (.get 10) (.cons (.idx (.lst (.cons (.int 0) (.cons (.int 1) (.cons (.int 1) (.cons (.int 2) (.cons (.int 5) (.cons (.bin .sub (.int 0) (.int 1)) .nil))))))) (.call i (.io 0 (.v (.ite (.fz 3) (.int 6) (.int 5)) .nil)) .nil [.io 0, .v 0])) (.cons (.get 11) .nil))))) .nil)))
    .nil) .nil)
    .nil))
    .nil))
    .nil))
    (.cons (.asgC 8 (.lc (.get 7) (.nm 7) (.d (.rg (.cons (.get 4) .nil))) (.cons (.cmp .eq (.call i (.io 0 (.v (.int 2) .nil)) .nil [.io 0, .v 0]) (.int 0)) .nil) [7]))
    (.cons (.asgC 9 (.lc (.get 7) (.nm 7) (.d (.rg (.cons (.get 4) .nil))) (.cons (.cmp .eq (.call i (.io 0 (.v (.int 2) .nil)) .nil [.io 0, .v 0]) (.int 0)) .nil) [7]))
    (.cons (.ret (.tup (.cons (.fz 1) (.cons (.get 4) (.cons (.ty .tuple (.cons (.fz 8) .nil)) (.cons (.ty .tuple (.cons (.fz 9) .nil)) (.cons (.ty .tuple (.cons (.vb .sorted 6 .nil) .nil)) .nil)))))))
    .nil)))))))⟩
/-- where a move stands among all places -/
def key (k m : Nat) : List Int → Nat
  | [p, a, _, q] => (p.toNat * k + a.toNat) * m + q.toNat
  | _ => 0
/-- the moves met so far -/
structure Got (k m N : Nat) (rs : List (List Int)) : Prop where
  mv : ∀ r ∈ rs, Mv k m r
  lt : ∀ r ∈ rs, key k m r < N
  pw : rs.Pairwise fun a b => key k m a < key k m b
  len : rs.length ≤ N
theorem Got.nodup {k m N : Nat} {rs : List (List Int)} (h : Got k m N rs) : rs.Nodup := h.pw.imp fun hab e => by rw [e] at hab; omega
theorem Got.next {k m N : Nat} {rs : List (List Int)} (h : Got k m N rs) : Got k m (N + 1) rs := ⟨h.mv, fun r hr => by have := h.lt r hr; omega, h.pw, by have := h.len; omega⟩
theorem Got.add {k m N : Nat} {rs : List (List Int)} {r : List Int} (h : Got k m N rs) (hr : Mv k m r) (e : key k m r = N) : Got k m (N + 1) (rs ++ [r]) where
  mv := fun x hx => by
    rcases List.mem_append.mp hx with hx | hx
    · exact h.mv x hx
    · rw [List.mem_singleton.mp hx]; exact hr
  lt := fun x hx => by
    rcases List.mem_append.mp hx with hx | hx
    · have := h.lt x hx; omega
    · rw [List.mem_singleton.mp hx, e]; omega
  pw := by
    rw [List.pairwise_append]
    exact ⟨h.pw, List.pairwise_singleton _ _, fun a ha b hb => by rw [List.mem_singleton.mp hb, e]; exact h.lt a ha⟩
  len := by rw [List.length_append, List.length_singleton]; have := h.len; omega
end Mi
end
section
set_option maxRecDepth 100000
set_option maxHeartbeats 0
/-! Mc5: machines drawn, the walk. -/
namespace Mi
def mE (t : T) (ls : List D) (mo : Nat) (b : Bool) (m r : Nat) (ms : List (List Int)) (v7 v8 v9 v10 v11 : Option T) : Env := [some t, some (.leaf (.tup ls)), some (.leaf (.int (mo : Int))), some (.leaf (.bl b)), some (.leaf (.int (m : Int))), some (.leaf (.int (r : Int))), some (.lst (leafs (ms.map rowT))), v7, v8, v9, v10, v11]
def costs : List D := [.int 0, .int 1, .int 1, .int 2, .int 5, .int (-1)]
theorem costs_ix {z : Nat} (h : z < 6) : ∃ c : Int, dIx (.lst costs) (.int (z : Int)) = some (.int c) ∧ -1 ≤ c ∧ c ≤ 50 := by
  obtain ⟨d, h1, h2⟩ := ix_mem costs z h
  simp only [costs, List.mem_cons, List.not_mem_nil, or_false] at h2
  rcases h2 with rfl | rfl | rfl | rfl | rfl | rfl <;> exact ⟨_, h1, by omega, by omega⟩
abbrev pB (i : Nat) : Sts := ((dmachF i).body.get 3).body
abbrev aB (i : Nat) : Sts := ((pB i).get 0).body
abbrev qB (i : Nat) : Sts := ((aB i).get 0).body
theorem leafs_app (ms : List (List Int)) (r : List Int) : leafs (ms.map rowT) ++ [.leaf (rowT r)] = leafs ((ms ++ [r]).map rowT) := by
  unfold leafs
  rw [List.map_append, List.map_append]
  rfl
section
variable (i : Nat) (call : Nat → List T → Out) (glob : PySem.Str → Option D) (sub : Nat → Nat → Bool) (hd : WDraws call i)
include hd
theorem q_turn (ls : List D) (k mo m r : Nat) (b : Bool) (hr : r ≤ 10) (p a q : Nat) (hp : p < m) (ha : a < k) (hq : q < m) (t : T) (ht : Well t) (ms : List (List Int)) (h : Got k m ((p * k + a) * m + q) ms) (hl : ms.length < line) (v8 v9 v11 : Option T) : ∃ t' ms', Well t' ∧ Got k m ((p * k + a) * m + (q + 1)) ms' ∧ frB ⟨call, glob, [0], sub⟩ (.nm 11) (qB i) (.int (q : Int)) (mE t ls mo b m r ms (some (.leaf (.int (p : Int)))) v8 v9 (some (.leaf (.int (a : Int)))) v11) = .nx (mE t' ls mo b m r ms' (some (.leaf (.int (p : Int)))) v8 v9 (some (.leaf (.int (a : Int)))) (some (.leaf (.int (q : Int))))) := by
  obtain ⟨z, t1, z1, z2, z3⟩ := hd.nat t (r + 1) ht (by omega) (by omega)
  have z1' : call i [t, .leaf (.int ((r : Int) + 1))] = .ret (.leaf (.int z)) [some t1, none] := z1
  by_cases hz : z = 0
  · subst hz
    obtain ⟨y, t2, y1, y2, y3⟩ := hd.nat t1 (if b then 6 else 5) z3 (by split <;> omega) (by split <;> omega)
    have y4 : y < 6 := by split at y2 <;> omega
    obtain ⟨c, hc, c1, c2⟩ := costs_ix y4
    refine ⟨t2, ms ++ [[(p : Int), (a : Int), c, (q : Int)]], y3, h.add ⟨p, a, q, c, rfl, hp, ha, hq, c1, c2⟩ (by simp [key]), ?_⟩
    have e1 := leafs_app ms [(p : Int), (a : Int), c, (q : Int)]
    have e2 : D.tup [.int (p : Int), .int (a : Int), .int c, .int (q : Int)] = rowT [(p : Int), (a : Int), c, (q : Int)] := rfl
    have e3 : (leafs (ms.map rowT)).length < line := by unfold leafs; rw [List.length_map, List.length_map]; exact hl
    unfold costs at hc
    unfold mE
    generalize leafs ((ms ++ [[(p : Int), (a : Int), c, (q : Int)]]).map rowT) = R at e1 ⊢
    generalize leafs (ms.map rowT) = R0 at e1 e3 ⊢
    generalize rowT [(p : Int), (a : Int), c, (q : Int)] = W at e1 e2
    cases b with
    | true =>
      have y1' : call i [t1, .leaf (.int 6)] = .ret (.leaf (.int y)) [some t2, none] := y1
      simp [-R.bind, -R.thn, -S.thn, ↓bind_eq, ↓rthn_eq, ↓sthn_eq, runFn, Fn.start, outsOf, range0, range1, range2, range3, range4, exs, ex, exh, ev, evs, evA, evK, evB, evP, evI, evO, getL, setE, T.at1, T.fz, T.fzs, d2, dLt, dLen, dTy, dIsi, dIs, optR, leafR, blR, onBl, mulOk, takeAr, putAr, bindTg, wipe, back, dc, eqv_int, eqv_bl, eqv_str, D.ok, kN_int, kN_bl, kN_non, frB, qB, aB, pB, dmachF, Sts.get, St.body, z1', y1', hc, e1, e2, e3, mtSem, T.mod]
    | false =>
      have y1' : call i [t1, .leaf (.int 5)] = .ret (.leaf (.int y)) [some t2, none] := y1
      simp [-R.bind, -R.thn, -S.thn, ↓bind_eq, ↓rthn_eq, ↓sthn_eq, runFn, Fn.start, outsOf, range0, range1, range2, range3, range4, exs, ex, exh, ev, evs, evA, evK, evB, evP, evI, evO, getL, setE, T.at1, T.fz, T.fzs, d2, dLt, dLen, dTy, dIsi, dIs, optR, leafR, blR, onBl, mulOk, takeAr, putAr, bindTg, wipe, back, dc, eqv_int, eqv_bl, eqv_str, D.ok, kN_int, kN_bl, kN_non, frB, qB, aB, pB, dmachF, Sts.get, St.body, z1', y1', hc, e1, e2, e3, mtSem, T.mod]
  · refine ⟨t1, ms, z3, h.next, ?_⟩
    have hb : ((z : Int) == 0) = false := by rw [beq_eq_false_iff_ne]; omega
    simp [-R.bind, -R.thn, -S.thn, ↓bind_eq, ↓rthn_eq, ↓sthn_eq, runFn, Fn.start, outsOf, range0, range1, range2, range3, range4, exs, ex, exh, ev, evs, evA, evK, evB, evP, evI, evO, getL, setE, T.at1, T.fz, T.fzs, d2, dLt, dLen, dTy, dIsi, dIs, optR, leafR, blR, onBl, mulOk, takeAr, putAr, bindTg, wipe, back, dc, eqv_int, eqv_bl, eqv_str, D.ok, kN_int, kN_bl, kN_non, frB, qB, aB, pB, dmachF, Sts.get, St.body, mE, z1', hb]
theorem a_turn (ls : List D) (k mo m r : Nat) (b : Bool) (hk : ls.length = k) (hk2 : k ≤ 10) (hm2 : m ≤ 12) (hr : r ≤ 10) (p a : Nat) (hp : p < m) (ha : a < k) (t : T) (ht : Well t) (ms : List (List Int)) (h : Got k m ((p * k + a) * m) ms) (v8 v9 v10 v11 : Option T) : ∃ t' ms' w11, Well t' ∧ Got k m ((p * k + (a + 1)) * m) ms' ∧ frB ⟨call, glob, [0], sub⟩ (.nm 10) (aB i) (.int (a : Int)) (mE t ls mo b m r ms (some (.leaf (.int (p : Int)))) v8 v9 v10 v11) = .nx (mE t' ls mo b m r ms' (some (.leaf (.int (p : Int)))) v8 v9 (some (.leaf (.int (a : Int)))) w11) := by
  have hI : evI ⟨call, glob, [0], sub⟩ ((aB i).get 0).it (mE t ls mo b m r ms (some (.leaf (.int (p : Int)))) v8 v9 (some (.leaf (.int (a : Int)))) v11) = .ok ((List.range m).map fun i : Nat => .int (i : Int)) (mE t ls mo b m r ms (some (.leaf (.int (p : Int)))) v8 v9 (some (.leaf (.int (a : Int)))) v11) := by
    have q1 := rngOf_nat (n := m) (by unfold line; omega)
    have q2 := dWalk_rng (n := m) (by unfold line; omega)
    simp [-R.bind, -R.thn, -S.thn, ↓bind_eq, ↓rthn_eq, ↓sthn_eq, runFn, Fn.start, outsOf, range0, range1, range2, range3, range4, exs, ex, exh, ev, evs, evA, evK, evB, evP, evI, evO, getL, setE, T.at1, T.fz, T.fzs, d2, dLt, dLen, dTy, dIsi, dIs, optR, leafR, blR, onBl, mulOk, takeAr, putAr, bindTg, wipe, back, dc, eqv_int, eqv_bl, eqv_str, D.ok, kN_int, kN_bl, kN_non, mE, aB, pB, dmachF, Sts.get, St.body, St.it, q1, q2]
  have bnd : (p * k + a) * m + m ≤ 12 * 10 * 12 + 10 * 12 + 12 := by
    have h1 : p * k ≤ 12 * 10 := Nat.mul_le_mul (by omega) hk2
    have h2 : (p * k + a) * m ≤ (12 * 10 + 10) * 12 := Nat.mul_le_mul (by omega) hm2
    omega
  obtain ⟨e', h1, t', ms', w11, g1, g2, rfl⟩ := forL_rng (f := frB ⟨call, glob, [0], sub⟩ (.nm 11) (qB i)) (fun q e => ∃ t' ms' w11, Well t' ∧ Got k m ((p * k + a) * m + q) ms' ∧ e = mE t' ls mo b m r ms' (some (.leaf (.int (p : Int)))) v8 v9 (some (.leaf (.int (a : Int)))) w11) m _ ⟨t, ms, v11, ht, h, rfl⟩ (by
    rintro q hq _ ⟨t', ms', w11, g1, g2, rfl⟩
    obtain ⟨t2, ms2, g3, g4, g5⟩ := q_turn i call glob sub hd ls k mo m r b hr p a q hp ha hq t' g1 ms' g2 (by have := g2.len; unfold line; omega) v8 v9 w11
    exact ⟨_, g5, t2, ms2, _, g3, g4, rfl⟩)
  refine ⟨t', ms', w11, g1, ?_, ?_⟩
  · have : (p * k + (a + 1)) * m = (p * k + a) * m + m := by rw [← Nat.add_assoc, Nat.add_mul, Nat.one_mul]
    rw [this]; exact g2
  · have e0 : ex ⟨call, glob, [0], sub⟩ ((aB i).get 0) (mE t ls mo b m r ms (some (.leaf (.int (p : Int)))) v8 v9 (some (.leaf (.int (a : Int)))) v11) = .nx (mE t' ls mo b m r ms' (some (.leaf (.int (p : Int)))) v8 v9 (some (.leaf (.int (a : Int)))) w11) := by
      show ex _ (.fr (.nm 11) ((aB i).get 0).it (qB i)) _ = _
      rw [fr_eq _ _ _ _ _ _ _ hI]
      exact h1
    show exs ⟨call, glob, [0], sub⟩ ((aB i).drop 0) (mE t ls mo b m r ms (some (.leaf (.int (p : Int)))) v8 v9 (some (.leaf (.int (a : Int)))) v11) = _
    rw [exs_at _ (aB i) 0 _ _ rfl e0]
    exact exs_end _ _
theorem p_turn (ls : List D) (k mo m r : Nat) (b : Bool) (hk : ls.length = k) (hk2 : k ≤ 10) (hm2 : m ≤ 12) (hr : r ≤ 10) (p : Nat) (hp : p < m) (t : T) (ht : Well t) (ms : List (List Int)) (h : Got k m (p * k * m) ms) (v7 v8 v9 v10 v11 : Option T) : ∃ t' ms' w10 w11, Well t' ∧ Got k m ((p + 1) * k * m) ms' ∧ frB ⟨call, glob, [0], sub⟩ (.nm 7) (pB i) (.int (p : Int)) (mE t ls mo b m r ms v7 v8 v9 v10 v11) = .nx (mE t' ls mo b m r ms' (some (.leaf (.int (p : Int)))) v8 v9 w10 w11) := by
  have hI : evI ⟨call, glob, [0], sub⟩ ((pB i).get 0).it (mE t ls mo b m r ms (some (.leaf (.int (p : Int)))) v8 v9 v10 v11) = .ok ((List.range k).map fun i : Nat => .int (i : Int)) (mE t ls mo b m r ms (some (.leaf (.int (p : Int)))) v8 v9 v10 v11) := by
    have q1 := rngOf_nat (n := k) (by unfold line; omega)
    have q2 := dWalk_rng (n := k) (by unfold line; omega)
    have q3 : db .len [.tup ls] = some (.leaf (.int (k : Int))) := by rw [db_len]; show some (T.leaf (.int (ls.length : Int))) = _; rw [hk]
    simp [-R.bind, -R.thn, -S.thn, ↓bind_eq, ↓rthn_eq, ↓sthn_eq, runFn, Fn.start, outsOf, range0, range1, range2, range3, range4, exs, ex, exh, ev, evs, evA, evK, evB, evP, evI, evO, getL, setE, T.at1, T.fz, T.fzs, d2, dLt, dLen, dTy, dIsi, dIs, optR, leafR, blR, onBl, mulOk, takeAr, putAr, bindTg, wipe, back, dc, eqv_int, eqv_bl, eqv_str, D.ok, kN_int, kN_bl, kN_non, mE, pB, dmachF, Sts.get, St.body, St.it, q1, q2, q3]
  obtain ⟨e', h1, t', ms', w10, w11, g1, g2, rfl⟩ := forL_rng (f := frB ⟨call, glob, [0], sub⟩ (.nm 10) (aB i)) (fun a e => ∃ t' ms' w10 w11, Well t' ∧ Got k m ((p * k + a) * m) ms' ∧ e = mE t' ls mo b m r ms' (some (.leaf (.int (p : Int)))) v8 v9 w10 w11) k _ ⟨t, ms, v10, v11, ht, h, rfl⟩ (by
    rintro a ha _ ⟨t', ms', w10, w11, g1, g2, rfl⟩
    obtain ⟨t2, ms2, z11, g3, g4, g5⟩ := a_turn i call glob sub hd ls k mo m r b hk hk2 hm2 hr p a hp ha t' g1 ms' g2 v8 v9 w10 w11
    exact ⟨_, g5, t2, ms2, _, z11, g3, g4, rfl⟩)
  refine ⟨t', ms', w10, w11, g1, ?_, ?_⟩
  · have : (p + 1) * k * m = (p * k + k) * m := by rw [Nat.succ_mul]
    rw [this]; exact g2
  · have e0 : ex ⟨call, glob, [0], sub⟩ ((pB i).get 0) (mE t ls mo b m r ms (some (.leaf (.int (p : Int)))) v8 v9 v10 v11) = .nx (mE t' ls mo b m r ms' (some (.leaf (.int (p : Int)))) v8 v9 w10 w11) := by
      show ex _ (.fr (.nm 10) ((pB i).get 0).it (aB i)) _ = _
      rw [fr_eq _ _ _ _ _ _ _ hI]
      exact h1
    show exs ⟨call, glob, [0], sub⟩ ((pB i).drop 0) (mE t ls mo b m r ms (some (.leaf (.int (p : Int)))) v8 v9 v10 v11) = _
    rw [exs_at _ (pB i) 0 _ _ rfl e0]
    exact exs_end _ _
/-- states drawn -/
theorem sel_ok (ls : List D) (mo m r : Nat) (b : Bool) (hm2 : m ≤ 12) (t : T) (ht : Well t) (ms : List (List Int)) (v7 v8 v9 v10 v11 : Option T) : ∃ (t' : T) (es : List Nat), Well t' ∧ es.Sublist (List.range m) ∧ ev ⟨call, glob, [0], sub⟩ (.lc (.get 7) (.nm 7) (.d (.rg (.cons (.get 4) .nil))) (.cons (.cmp .eq (.call i (.io 0 (.v (.int 2) .nil)) .nil [.io 0, .v 0]) (.int 0)) .nil) [7]) (mE t ls mo b m r ms v7 v8 v9 v10 v11) = .ok (.lst (es.map fun q : Nat => .leaf (.int (q : Int)))) (mE t' ls mo b m r ms v7 v8 v9 v10 v11) := by
  have q1 := rngOf_nat (n := m) (by unfold line; omega)
  have q2 := dWalk_rng (n := m) (by unfold line; omega)
  unfold mE
  generalize (T.lst (leafs (ms.map rowT))) = MS
  obtain ⟨es, e3, f1, f2, t3, f3, rfl⟩ := lc_sel ⟨call, glob, [0], sub⟩ (elt := .get 7) (tg := .nm 7) (it := .d (.rg (.cons (.get 4) .nil))) (cs := .cons (.cmp .eq (.call i (.io 0 (.v (.int 2) .nil)) .nil [.io 0, .v 0]) (.int 0)) .nil) (own := [7]) (e := [some t, some (.leaf (.tup ls)), some (.leaf (.int (mo : Int))), some (.leaf (.bl b)), some (.leaf (.int (m : Int))), some (.leaf (.int (r : Int))), some MS, v7, v8, v9, v10, v11]) (e1 := [some t, some (.leaf (.tup ls)), some (.leaf (.int (mo : Int))), some (.leaf (.bl b)), some (.leaf (.int (m : Int))), some (.leaf (.int (r : Int))), some MS, v7, v8, v9, v10, v11]) (List.range m) (fun q : Nat => .int (q : Int)) (fun q : Nat => .leaf (.int (q : Int))) (fun e => ∃ t', Well t' ∧ e = [some t', some (.leaf (.tup ls)), some (.leaf (.int (mo : Int))), some (.leaf (.bl b)), some (.leaf (.int (m : Int))), some (.leaf (.int (r : Int))), some MS, none, v8, v9, v10, v11]) (by simp [-R.bind, -R.thn, -S.thn, ↓bind_eq, ↓rthn_eq, ↓sthn_eq, runFn, Fn.start, outsOf, range0, range1, range2, range3, range4, exs, ex, exh, ev, evs, evA, evK, evB, evP, evI, evO, getL, setE, T.at1, T.fz, T.fzs, d2, dLt, dLen, dTy, dIsi, dIs, optR, leafR, blR, onBl, mulOk, takeAr, putAr, bindTg, wipe, back, dc, eqv_int, eqv_bl, eqv_str, D.ok, kN_int, kN_bl, kN_non, q1, q2]) ⟨t, ht, rfl⟩ (by
    rintro q _ _ ⟨t', ht', rfl⟩
    obtain ⟨z, t4, z1, z2, z3⟩ := hd.nat t' 2 ht' (by omega) (by omega)
    have z1' : call i [t', .leaf (.int 2)] = .ret (.leaf (.int z)) [some t4, none] := z1
    cases hb : ((z : Int) == 0) with
    | true =>
      refine ⟨_, [some t4, some (.leaf (.tup ls)), some (.leaf (.int (mo : Int))), some (.leaf (.bl b)), some (.leaf (.int (m : Int))), some (.leaf (.int (r : Int))), some MS, some (.leaf (.int q)), v8, v9, v10, v11], ?_, .inr rfl, t4, z3, rfl⟩
      simp [-R.bind, -R.thn, -S.thn, ↓bind_eq, ↓rthn_eq, ↓sthn_eq, runFn, Fn.start, outsOf, range0, range1, range2, range3, range4, exs, ex, exh, ev, evs, evA, evK, evB, evP, evI, evO, getL, setE, T.at1, T.fz, T.fzs, d2, dLt, dLen, dTy, dIsi, dIs, optR, leafR, blR, onBl, mulOk, takeAr, putAr, bindTg, wipe, back, dc, eqv_int, eqv_bl, eqv_str, D.ok, kN_int, kN_bl, kN_non, lcB, z1', hb]
    | false =>
      refine ⟨_, [some t4, some (.leaf (.tup ls)), some (.leaf (.int (mo : Int))), some (.leaf (.bl b)), some (.leaf (.int (m : Int))), some (.leaf (.int (r : Int))), some MS, some (.leaf (.int q)), v8, v9, v10, v11], ?_, .inl rfl, t4, z3, rfl⟩
      simp [-R.bind, -R.thn, -S.thn, ↓bind_eq, ↓rthn_eq, ↓sthn_eq, runFn, Fn.start, outsOf, range0, range1, range2, range3, range4, exs, ex, exh, ev, evs, evA, evK, evB, evP, evI, evO, getL, setE, T.at1, T.fz, T.fzs, d2, dLt, dLen, dTy, dIsi, dIs, optR, leafR, blR, onBl, mulOk, takeAr, putAr, bindTg, wipe, back, dc, eqv_int, eqv_bl, eqv_str, D.ok, kN_int, kN_bl, kN_non, lcB, z1', hb])
  exact ⟨t3, es, f3, f2, f1⟩
theorem dmach_ok (ls : List D) (k mo : Nat) (b : Bool) (hk : ls.length = k) (hk2 : k ≤ 10) (hmo : 0 < mo) (hmo2 : mo ≤ 12) (t : T) (ht : Well t) : ∃ m ss es rs t', (Mach k m ss es rs ∧ rs.length ≤ 1440) ∧ Well t' ∧ runFn call glob sub (dmachF i) [t, .leaf (.tup ls), .leaf (.int (mo : Int)), .leaf (.bl b)] = .ret (.leaf (machD (.tup ls) m ss es rs)) [some t', none, none, none] := by
  obtain ⟨x, t1, x1, x2, x3⟩ := hd.nat t mo ht hmo (by omega)
  obtain ⟨y, t2, y1, y2, y3⟩ := hd.nat t1 3 x3 (by omega) (by omega)
  have y1' : call i [t1, .leaf (.int 3)] = .ret (.leaf (.int y)) [some t2, none] := y1
  let m : Nat := 1 + x
  let r : Nat := 1 + y
  have hmi : (m : Int) = 1 + (x : Int) := by show ((1 + x : Nat) : Int) = _; omega
  have hri : (r : Int) = 1 + (y : Int) := by show ((1 + y : Nat) : Int) = _; omega
  have m0 : 0 < m := by show 0 < 1 + x; omega
  have m9 : m ≤ 12 := by show 1 + x ≤ 12; omega
  have r9 : r ≤ 10 := by show 1 + y ≤ 10; omega
  have e0 : ex ⟨call, glob, [0], sub⟩ ((dmachF i).body.get 0) [some t, some (.leaf (.tup ls)), some (.leaf (.int (mo : Int))), some (.leaf (.bl b)), none, none, none, none, none, none, none, none] = .nx [some t1, some (.leaf (.tup ls)), some (.leaf (.int (mo : Int))), some (.leaf (.bl b)), some (.leaf (.int (m : Int))), none, none, none, none, none, none, none] := by
    simp [-R.bind, -R.thn, -S.thn, ↓bind_eq, ↓rthn_eq, ↓sthn_eq, runFn, Fn.start, outsOf, range0, range1, range2, range3, range4, exs, ex, exh, ev, evs, evA, evK, evB, evP, evI, evO, getL, setE, T.at1, T.fz, T.fzs, d2, dLt, dLen, dTy, dIsi, dIs, optR, leafR, blR, onBl, mulOk, takeAr, putAr, bindTg, wipe, back, dc, eqv_int, eqv_bl, eqv_str, D.ok, kN_int, kN_bl, kN_non, dmachF, Sts.get, x1, hmi]
  have e1 : ex ⟨call, glob, [0], sub⟩ ((dmachF i).body.get 1) [some t1, some (.leaf (.tup ls)), some (.leaf (.int (mo : Int))), some (.leaf (.bl b)), some (.leaf (.int (m : Int))), none, none, none, none, none, none, none] = .nx [some t2, some (.leaf (.tup ls)), some (.leaf (.int (mo : Int))), some (.leaf (.bl b)), some (.leaf (.int (m : Int))), some (.leaf (.int (r : Int))), none, none, none, none, none, none] := by
    clear_value m
    simp [-R.bind, -R.thn, -S.thn, ↓bind_eq, ↓rthn_eq, ↓sthn_eq, runFn, Fn.start, outsOf, range0, range1, range2, range3, range4, exs, ex, exh, ev, evs, evA, evK, evB, evP, evI, evO, getL, setE, T.at1, T.fz, T.fzs, d2, dLt, dLen, dTy, dIsi, dIs, optR, leafR, blR, onBl, mulOk, takeAr, putAr, bindTg, wipe, back, dc, eqv_int, eqv_bl, eqv_str, D.ok, kN_int, kN_bl, kN_non, dmachF, Sts.get, y1', hri]
  clear_value m r
  have e2 : ex ⟨call, glob, [0], sub⟩ ((dmachF i).body.get 2) [some t2, some (.leaf (.tup ls)), some (.leaf (.int (mo : Int))), some (.leaf (.bl b)), some (.leaf (.int (m : Int))), some (.leaf (.int (r : Int))), none, none, none, none, none, none] = .nx (mE t2 ls mo b m r [] none none none none none) := by
    simp [-R.bind, -R.thn, -S.thn, ↓bind_eq, ↓rthn_eq, ↓sthn_eq, runFn, Fn.start, outsOf, range0, range1, range2, range3, range4, exs, ex, exh, ev, evs, evA, evK, evB, evP, evI, evO, getL, setE, T.at1, T.fz, T.fzs, d2, dLt, dLen, dTy, dIsi, dIs, optR, leafR, blR, onBl, mulOk, takeAr, putAr, bindTg, wipe, back, dc, eqv_int, eqv_bl, eqv_str, D.ok, kN_int, kN_bl, kN_non, dmachF, Sts.get, mE, leafs]
  have hI : evI ⟨call, glob, [0], sub⟩ ((dmachF i).body.get 3).it (mE t2 ls mo b m r [] none none none none none) = .ok ((List.range m).map fun i : Nat => .int (i : Int)) (mE t2 ls mo b m r [] none none none none none) := by
    have q1 := rngOf_nat (n := m) (by unfold line; omega)
    have q2 := dWalk_rng (n := m) (by unfold line; omega)
    simp [-R.bind, -R.thn, -S.thn, ↓bind_eq, ↓rthn_eq, ↓sthn_eq, runFn, Fn.start, outsOf, range0, range1, range2, range3, range4, exs, ex, exh, ev, evs, evA, evK, evB, evP, evI, evO, getL, setE, T.at1, T.fz, T.fzs, d2, dLt, dLen, dTy, dIsi, dIs, optR, leafR, blR, onBl, mulOk, takeAr, putAr, bindTg, wipe, back, dc, eqv_int, eqv_bl, eqv_str, D.ok, kN_int, kN_bl, kN_non, mE, dmachF, Sts.get, St.it, q1, q2]
  obtain ⟨e', h1, t3, ms, w7, w10, w11, g1, g2, rfl⟩ := forL_rng (f := frB ⟨call, glob, [0], sub⟩ (.nm 7) (pB i)) (fun p e => ∃ t' ms' w7 w10 w11, Well t' ∧ Got k m (p * k * m) ms' ∧ e = mE t' ls mo b m r ms' w7 none none w10 w11) m _ ⟨t2, [], none, none, none, y3, ⟨by simp, by simp, List.Pairwise.nil, by simp⟩, rfl⟩ (by
    rintro p hp _ ⟨t', ms', w7, w10, w11, g1, g2, rfl⟩
    obtain ⟨t4, ms4, z10, z11, g3, g4, g5⟩ := p_turn i call glob sub hd ls k mo m r b hk hk2 m9 r9 p hp t' g1 ms' g2 w7 none none w10 w11
    exact ⟨_, g5, t4, ms4, _, z10, z11, g3, g4, rfl⟩)
  have e3 : ex ⟨call, glob, [0], sub⟩ ((dmachF i).body.get 3) (mE t2 ls mo b m r [] none none none none none) = .nx (mE t3 ls mo b m r ms w7 none none w10 w11) := by
    show ex _ (.fr (.nm 7) ((dmachF i).body.get 3).it (pB i)) _ = _
    rw [fr_eq _ _ _ _ _ _ _ hI]
    exact h1
  obtain ⟨t4, ss, g3, g4, s1⟩ := sel_ok i call glob sub hd ls mo m r b m9 t3 g1 ms w7 none none w10 w11
  have e4 : ex ⟨call, glob, [0], sub⟩ ((dmachF i).body.get 4) (mE t3 ls mo b m r ms w7 none none w10 w11) = .nx (mE t4 ls mo b m r ms w7 (some (.lst (ss.map fun q : Nat => .leaf (.int (q : Int))))) none w10 w11) := by
    show ex _ (.asgC 8 (.lc (.get 7) (.nm 7) (.d (.rg (.cons (.get 4) .nil))) (.cons (.cmp .eq (.call i (.io 0 (.v (.int 2) .nil)) .nil [.io 0, .v 0]) (.int 0)) .nil) [7])) _ = _
    rw [ex, s1]
    rfl
  obtain ⟨t5, es, g5, g6, s2⟩ := sel_ok i call glob sub hd ls mo m r b m9 t4 g3 ms w7 (some (.lst (ss.map fun q : Nat => .leaf (.int (q : Int))))) none w10 w11
  have e5 : ex ⟨call, glob, [0], sub⟩ ((dmachF i).body.get 5) (mE t4 ls mo b m r ms w7 (some (.lst (ss.map fun q : Nat => .leaf (.int (q : Int))))) none w10 w11) = .nx (mE t5 ls mo b m r ms w7 (some (.lst (ss.map fun q : Nat => .leaf (.int (q : Int))))) (some (.lst (es.map fun q : Nat => .leaf (.int (q : Int))))) w10 w11) := by
    show ex _ (.asgC 9 (.lc (.get 7) (.nm 7) (.d (.rg (.cons (.get 4) .nil))) (.cons (.cmp .eq (.call i (.io 0 (.v (.int 2) .nil)) .nil [.io 0, .v 0]) (.int 0)) .nil) [7])) _ = _
    rw [ex, s2]
    rfl
  let rs := ms.mergeSort fun a b => decide (a ≤ b)
  have hperm : rs.Perm ms := List.mergeSort_perm _ _
  have hsort : db .sorted [.lst (ms.map rowT)] = some (.lst (leafs (rs.map rowT))) := sorted_rows fun r hr => (g2.mv r hr).ne
  have hlen : rs.length ≤ 1440 := by
    rw [hperm.length_eq]
    have := g2.len
    have h2 : m * k ≤ 12 * 10 := Nat.mul_le_mul m9 hk2
    have h3 : m * k * m ≤ 12 * 10 * 12 := Nat.mul_le_mul h2 m9
    omega
  have hM : Mach k m ss es rs := ⟨m0, m9, g4, g6, fun r hr => g2.mv r (hperm.mem_iff.mp hr), sorted_asc g2.nodup, by omega⟩
  clear_value rs
  have z1 := fzs_leaf ss fun q : Nat => D.int (q : Int)
  have z2 := fzs_leaf es fun q : Nat => D.int (q : Int)
  have z3 : D.tup (ss.map fun q : Nat => D.int (q : Int)) = natsD ss := rfl
  have z4 : D.tup (es.map fun q : Nat => D.int (q : Int)) = natsD es := rfl
  have z5 := fzs_leafs (ms.map rowT)
  have z6 := fzs_leafs (rs.map rowT)
  have e6 : ∃ e', ex ⟨call, glob, [0], sub⟩ ((dmachF i).body.get 6) (mE t5 ls mo b m r ms w7 (some (.lst (ss.map fun q : Nat => .leaf (.int (q : Int))))) (some (.lst (es.map fun q : Nat => .leaf (.int (q : Int))))) w10 w11) = .rt (.leaf (machD (.tup ls) m ss es rs)) (some t5 :: e') := by
    refine ⟨[some (.leaf (.tup ls)), some (.leaf (.int (mo : Int))), some (.leaf (.bl b)), some (.leaf (.int (m : Int))), some (.leaf (.int (r : Int))), some (.lst (leafs (ms.map rowT))), w7, some (.leaf (.lst (ss.map fun q : Nat => .int (q : Int)))), some (.leaf (.lst (es.map fun q : Nat => .int (q : Int)))), w10, w11], ?_⟩
    unfold mE machD
    generalize leafs (ms.map rowT) = M1 at z5
    generalize ms.map rowT = M2 at z5 hsort
    generalize leafs (rs.map rowT) = M3 at z6 hsort
    generalize rs.map rowT = M4 at z6
    generalize (ss.map fun q : Nat => T.leaf (.int (q : Int))) = S1 at z1
    generalize (ss.map fun q : Nat => D.int (q : Int)) = S2 at z1 z3
    generalize (es.map fun q : Nat => T.leaf (.int (q : Int))) = S3 at z2
    generalize (es.map fun q : Nat => D.int (q : Int)) = S4 at z2 z4
    simp [-R.bind, -R.thn, -S.thn, ↓bind_eq, ↓rthn_eq, ↓sthn_eq, runFn, Fn.start, outsOf, range0, range1, range2, range3, range4, exs, ex, exh, ev, evs, evA, evK, evB, evP, evI, evO, getL, setE, T.at1, T.fz, T.fzs, d2, dLt, dLen, dTy, dIsi, dIs, optR, leafR, blR, onBl, mulOk, takeAr, putAr, bindTg, wipe, back, dc, eqv_int, eqv_bl, eqv_str, D.ok, kN_int, kN_bl, kN_non, dmachF, Sts.get, z1, z2, z3, z4, z5, z6, hsort]
  obtain ⟨e', e6⟩ := e6
  refine ⟨m, ss, es, rs, t5, ⟨hM, hlen⟩, g5, ?_⟩
  have := run_rt (call := call) (glob := glob) (sub := sub) (F := dmachF i) (ts := [t, .leaf (.tup ls), .leaf (.int (mo : Int)), .leaf (.bl b)]) rfl (by
    show exs ⟨call, glob, [0], sub⟩ ((dmachF i).body.drop 0) [some t, some (.leaf (.tup ls)), some (.leaf (.int (mo : Int))), some (.leaf (.bl b)), none, none, none, none, none, none, none, none] = _
    rw [exs_at _ _ 0 _ _ rfl e0, exs_at _ _ 1 _ _ rfl e1, exs_at _ _ 2 _ _ rfl e2, exs_at _ _ 3 _ _ rfl e3, exs_at _ _ 4 _ _ rfl e4, exs_at _ _ 5 _ _ rfl e5, exs_rt _ _ 6 _ _ _ rfl e6])
  rw [this]; rfl
end
end Mi
end
set_option maxRecDepth 100000
namespace L_k02
open PySem L2 Mi PySem.Spec PyProof.Rows
def top (i : Nat) : Stmt := PySem.Challenge.pw_costslimited_k02_machines_judged.main.body.getD i (.Pass ⟨0, 0, 0, 0⟩)
def names : List Str := ["is_int", "within", "is_row", "is_low_name", "is_ascending", "are_indexes", "are_letters", "is_move", "is_any_machine", "is_machine", "need_machine", "has_reset", "is_plain", "_law_well", "_law_draw", "_law_letters", "_law_machine", "_law_is", "_law_number", "_law_is_machine", "_law_bent", "_law_told", "_law_many", "law"]
def fnm (i : Nat) : Str := names.getD i ""
def classes : List Str := ["CostError", "BadMachine"]
def clm (i : Nat) : Str := classes.getD i ""
/-! is_int -/
def N0 : List Str := ["thing"]
def f0 : Fn := ⟨1, 1, [],
    (.cons (.ret (.bop true (.isi (.fz 0) [.int]) (.cons (.not (.isi (.fz 0) [.bool])) .nil)))
    .nil)⟩
/-! within -/
def N1 : List Str := ["thing", "low", "high"]
def f1 : Fn := ⟨3, 3, [],
    (.cons (.ret (.bop true (.call 0 (.v (.fz 0) .nil) .nil [.v 0]) (.cons (.chn .le .le (.fz 1) (.fz 0) (.fz 2)) .nil)))
    .nil)⟩
/-! is_row -/
def N2 : List Str := ["thing", "low", "high"]
def f2 : Fn := ⟨3, 3, [],
    (.cons (.ret (.bop true (.isi (.fz 0) [.tuple]) (.cons (.chn .le .le (.fz 1) (.bi .len (.cons (.fz 0) .nil)) (.fz 2)) .nil)))
    .nil)⟩
/-! is_low_name -/
def N3 : List Str := ["thing", "sign"]
def f3 : Fn := ⟨1, 2, [],
    (.cons (.ifs (.bop false (.not (.isi (.fz 0) [.str])) (.cons (.not (.chn .le .le (.int 1) (.bi .len (.cons (.fz 0) .nil)) (.gl "LONGEST_NAME"))) (.cons (.cmp .notin (.idx (.fz 0) (.int 0)) (.gl "SMALL_LETTERS")) .nil))) (.cons (.ret (.bl false))
    .nil) .nil)
    (.cons (.ret (.bi .all (.cons (.lc (.bop false (.cmp .inn (.get 1) (.gl "SMALL_LETTERS")) (.cons (.cmp .inn (.get 1) (.gl "DIGITS")) .nil)) (.nm 1) (.d (.fz 0)) .nil [1]) .nil)))
    .nil))⟩
/-! is_ascending -/
def N4 : List Str := ["thing", "one", "other"]
def f4 : Fn := ⟨1, 3, [],
    (.cons (.ret (.bi .all (.cons (.lc (.cmp .lt (.get 1) (.get 2)) (.tp [1, 2]) (.zp (.fz 0) (.slc (.fz 0) (.so (.int 1)) .no)) .nil [1, 2]) .nil)))
    .nil)⟩
/-! are_indexes -/
def N5 : List Str := ["thing", "many", "entry"]
def f5 : Fn := ⟨2, 3, [],
    (.cons (.ret (.bop true (.isi (.fz 0) [.tuple]) (.cons (.bi .all (.cons (.lc (.call 1 (.v (.get 2) (.v (.int 0) (.v (.bin .sub (.fz 1) (.int 1)) .nil))) .nil [.v 0, .v 1, .v 2]) (.nm 2) (.d (.fz 0)) .nil [2]) .nil)) (.cons (.call 4 (.v (.fz 0) .nil) .nil [.v 0]) .nil))))
    .nil)⟩
/-! are_letters -/
def N6 : List Str := ["thing", "name"]
def f6 : Fn := ⟨1, 2, [],
    (.cons (.ifs (.bop false (.not (.call 2 (.v (.fz 0) (.v (.int 1) (.v (.gl "MOST_LETTERS") .nil))) .nil [.v 0, .v 1, .v 2])) (.cons (.not (.bi .all (.cons (.lc (.call 3 (.v (.get 1) .nil) .nil [.v 0]) (.nm 1) (.d (.fz 0)) .nil [1]) .nil))) .nil)) (.cons (.ret (.bl false))
    .nil) .nil)
    (.cons (.ret (.cmp .eq (.lset (.fz 0)) (.bi .len (.cons (.fz 0) .nil))))
    .nil))⟩
/-! is_move -/
def N7 : List Str := ["many_letters", "states", "thing", "state"]
def f7 : Fn := ⟨3, 4, [],
    (.cons (.ifs (.bop false (.not (.call 2 (.v (.fz 2) (.v (.int 4) (.v (.int 4) .nil))) .nil [.v 0, .v 1, .v 2])) (.cons (.not (.bi .all (.cons (.lc (.call 1 (.v (.get 3) (.v (.int 0) (.v (.bin .sub (.fz 1) (.int 1)) .nil))) .nil [.v 0, .v 1, .v 2]) (.nm 3) (.d (.tup (.cons (.idx (.fz 2) (.int 0)) (.cons (.idx (.fz 2) (.int 3)) .nil)))) .nil [3]) .nil))) .nil)) (.cons (.ret (.bl false))
    .nil) .nil)
    (.cons (.ret (.bop true (.call 1 (.v (.idx (.fz 2) (.int 1)) (.v (.int 0) (.v (.bin .sub (.fz 0) (.int 1)) .nil))) .nil [.v 0, .v 1, .v 2]) (.cons (.call 1 (.v (.idx (.fz 2) (.int 2)) (.v (.gl "RESET_COST") (.v (.gl "MOST_COST") .nil))) .nil [.v 0, .v 1, .v 2]) .nil)))
    .nil))⟩
/-! is_any_machine -/
def N8 : List Str := ["thing", "letters", "states", "starts", "ends", "moves", "move"]
def f8 : Fn := ⟨1, 7, [],
    (.cons (.ifs (.bop false (.not (.call 2 (.v (.fz 0) (.v (.int 5) (.v (.int 5) .nil))) .nil [.v 0, .v 1, .v 2])) (.cons (.not (.call 6 (.v (.idx (.fz 0) (.int 0)) .nil) .nil [.v 0])) (.cons (.not (.call 0 (.v (.idx (.fz 0) (.int 1)) .nil) .nil [.v 0])) (.cons (.cmp .lt (.idx (.fz 0) (.int 1)) (.int 1)) .nil)))) (.cons (.ret (.bl false))
    .nil) .nil)
    (.cons (.asgT [1, 2, 3, 4, 5] (.fz 0))
    (.cons (.ifs (.bop false (.not (.call 5 (.v (.get 3) (.v (.get 2) .nil)) .nil [.v 0, .v 1])) (.cons (.not (.call 5 (.v (.get 4) (.v (.get 2) .nil)) .nil [.v 0, .v 1])) (.cons (.not (.isi (.get 5) [.tuple])) .nil))) (.cons (.ret (.bl false))
    .nil) .nil)
    (.cons (.ret (.bop true (.bi .all (.cons (.lc (.call 7 (.v (.bi .len (.cons (.get 1) .nil)) (.v (.get 2) (.v (.get 6) .nil))) .nil [.v 0, .v 1, .v 2]) (.nm 6) (.d (.get 5)) .nil [6]) .nil)) (.cons (.call 4 (.v (.get 5) .nil) .nil [.v 0]) .nil)))
    .nil))))⟩
/-! is_machine -/
def N9 : List Str := ["thing"]
def f9 : Fn := ⟨1, 1, [],
    (.cons (.ifs (.bop false (.not (.call 2 (.v (.fz 0) (.v (.int 5) (.v (.int 5) .nil))) .nil [.v 0, .v 1, .v 2])) (.cons (.not (.call 1 (.v (.idx (.fz 0) (.int 1)) (.v (.int 1) (.v (.gl "MOST_STATES") .nil))) .nil [.v 0, .v 1, .v 2])) (.cons (.not (.call 2 (.v (.idx (.fz 0) (.int 4)) (.v (.int 0) (.v (.gl "MOST_MOVES") .nil))) .nil [.v 0, .v 1, .v 2])) .nil))) (.cons (.ret (.bl false))
    .nil) .nil)
    (.cons (.ret (.call 8 (.v (.fz 0) .nil) .nil [.v 0]))
    .nil))⟩
/-! need_machine -/
def N10 : List Str := ["machine"]
def f10 : Fn := ⟨1, 1, [],
    (.cons (.ifs (.not (.call 9 (.v (.fz 0) .nil) .nil [.v 0])) (.cons (.rse 1 "this is no small machine")
    .nil) .nil)
    .nil)⟩
/-! has_reset -/
def N11 : List Str := ["machine", "move"]
def f11 : Fn := ⟨1, 2, [],
    (.cons (.ret (.bi .any (.cons (.lc (.cmp .eq (.idx (.get 1) (.int 2)) (.gl "RESET_COST")) (.nm 1) (.d (.idx (.fz 0) (.int 4))) .nil [1]) .nil)))
    .nil)⟩
/-! is_plain -/
def N12 : List Str := ["machine"]
def f12 : Fn := ⟨1, 1, [],
    (.cons (.ex (.call 10 (.v (.fz 0) .nil) .nil [.v 0]))
    (.cons (.ret (.not (.call 11 (.v (.fz 0) .nil) .nil [.v 0])))
    .nil))⟩
/-! _law_well -/
def N13 : List Str := ["script", "cell"]
def f13 : Fn := ⟨1, 2, [],
    (.cons (.ret (.lst (.cons (.lc (.ty .int (.cons (.get 1) .nil)) (.nm 1) (.d (.slc (.fz 0) .no (.so (.int 63)))) .nil [1]) (.cons (.int 0) (.cons (.int 40507) .nil)))))
    .nil)⟩
/-! _law_draw -/
def N14 : List Str := ["well", "many", "cell", "weight", "found"]
def f14 : Fn := ⟨2, 5, [0],
    (.cons (.ifs (.bop true (.vcmp .lt 0 (.cons (.int 1) .nil) (.bin .pow (.int 10) (.int 9))) (.cons (.vcmp .ne 0 (.cons (.int 0) .nil) (.lst .nil)) .nil)) (.cons (.asg 2 (.pk 0 (.cons (.int 0) (.cons (.int 0) .nil))))
    (.cons (.put 0 .nil (.int 0) (.psl 0 (.cons (.int 0) .nil) 1))
    (.cons (.asg 3 (.bin .add (.bin .mul (.int 2) (.bi .abs (.cons (.get 2) .nil))) (.ty .int (.cons (.cmp .lt (.get 2) (.int 0)) .nil))))
    (.cons (.ifs (.cmp .ge (.get 3) (.bin .pow (.int 10) (.int 18))) (.cons (.put 0 .nil (.int 1) (.get 3))
    .nil) (.cons (.put 0 .nil (.int 2) (.bin .mod (.ty .int (.cons (.bin .add (.bin .add (.bin .mul (.pk 0 (.cons (.int 2) .nil)) (.int 48271)) (.bin .mul (.get 3) (.int 69621))) (.int 17)) .nil)) (.int 2147483647)))
    .nil))
    .nil)))) .nil)
    (.cons (.ifs (.vcmp .ge 0 (.cons (.int 1) .nil) (.bin .pow (.int 10) (.int 9))) (.cons (.asg 4 (.bin .mod (.ty .int (.cons (.pk 0 (.cons (.int 1) .nil)) .nil)) (.fz 1)))
    (.cons (.put 0 .nil (.int 1) (.bin .fdiv (.pk 0 (.cons (.int 1) .nil)) (.fz 1)))
    (.cons (.ret (.get 4))
    .nil))) .nil)
    (.cons (.put 0 .nil (.int 2) (.bin .mod (.ty .int (.cons (.bin .add (.bin .mul (.pk 0 (.cons (.int 2) .nil)) (.int 39373)) (.int 101)) .nil)) (.int 2147483647)))
    (.cons (.ret (.bin .mod (.ty .int (.cons (.bin .fdiv (.pk 0 (.cons (.int 2) .nil)) (.int 89)) .nil)) (.fz 1)))
    .nil))))⟩
/-! _law_letters -/
def N15 : List Str := ["well", "most", "names", "turn"]
def f15 : Fn := ⟨2, 4, [0],
    (.cons (.asg 2 (.lst (.cons (.str "a") (.cons (.str "b") (.cons (.str "x1") (.cons (.str "zz9") (.cons (.str "c0c0c0c0c0") (.cons (.str "d") .nil))))))))
    (.cons (.asg 3 (.call 14 (.io 0 (.v (.int 6) .nil)) .nil [.io 0, .v 0]))
    (.cons (.asg 2 (.bin .add (.slc (.fz 2) (.so (.fz 3)) .no) (.slc (.fz 2) .no (.so (.fz 3)))))
    (.cons (.ret (.ty .tuple (.cons (.slc (.fz 2) .no (.so (.bin .add (.int 1) (.call 14 (.io 0 (.v (.fz 1) .nil)) .nil [.io 0, .v 0])))) .nil)))
    .nil))))⟩
/-! _law_machine -/
def N16 : List Str := ["well", "letters", "most", "resets", "many", "rare", "moves", "p", "starts", "ends", "a", "q"]
def f16 : Fn := ⟨4, 12, [0],
    (.cons (.asg 4 (.bin .add (.int 1) (.call 14 (.io 0 (.v (.fz 2) .nil)) .nil [.io 0, .v 0])))
    (.cons (.asg 5 (.bin .add (.int 1) (.call 14 (.io 0 (.v (.int 3) .nil)) .nil [.io 0, .v 0])))
    (.cons (.asg 6 (.lst .nil))
    (.cons (.fr (.nm 7) (.d (.rg (.cons (.get 4) .nil))) (.cons (.fr (.nm 10) (.d (.rg (.cons (.bi .len (.cons (.fz 1) .nil)) .nil))) (.cons (.fr (.nm 11) (.d (.rg (.cons (.get 4) .nil))) (.cons (.ifs (.cmp .eq (.call 14 (.io 0 (.v (.bin .add (.get 5) (.int 1)) .nil)) .nil [.io 0, .v 0]) (.int 0)) (.cons (.ex (.mt 0 6 .nil (.cons (.tup (.cons (.get 7) (.cons (.get 10) (.cons (.idx (.lst (.cons (.int 0) (.cons (.int 1) (.cons (.int 1) (.cons (.int 2) (.cons (.int 5) (.cons (.bin .sub (.int 0) (.int 1)) .nil))))))) (.call 14 (.io 0 (.v (.ite (.fz 3) (.int 6) (.int 5)) .nil)) .nil [.io 0, .v 0])) (.cons (.get 11) .nil))))) .nil)))
    .nil) .nil)
    .nil))
    .nil))
    .nil))
    (.cons (.asgC 8 (.lc (.get 7) (.nm 7) (.d (.rg (.cons (.get 4) .nil))) (.cons (.cmp .eq (.call 14 (.io 0 (.v (.int 2) .nil)) .nil [.io 0, .v 0]) (.int 0)) .nil) [7]))
    (.cons (.asgC 9 (.lc (.get 7) (.nm 7) (.d (.rg (.cons (.get 4) .nil))) (.cons (.cmp .eq (.call 14 (.io 0 (.v (.int 2) .nil)) .nil [.io 0, .v 0]) (.int 0)) .nil) [7]))
    (.cons (.ret (.tup (.cons (.fz 1) (.cons (.get 4) (.cons (.ty .tuple (.cons (.fz 8) .nil)) (.cons (.ty .tuple (.cons (.fz 9) .nil)) (.cons (.ty .tuple (.cons (.vb .sorted 6 .nil) .nil)) .nil)))))))
    .nil)))))))⟩
/-! _law_is -/
def N17 : List Str := ["told", "due"]
def f17 : Fn := ⟨2, 2, [],
    (.cons (.ret (.ite (.fz 1) (.cmp .is (.fz 0) (.bl true)) (.cmp .is (.fz 0) (.bl false))))
    .nil)⟩
/-! _law_number -/
def N18 : List Str := ["thing", "low", "high"]
def f18 : Fn := ⟨3, 3, [],
    (.cons (.ret (.bop true (.isi (.fz 0) [.int]) (.cons (.not (.isi (.fz 0) [.bool])) (.cons (.chn .le .le (.fz 1) (.fz 0) (.fz 2)) .nil))))
    .nil)⟩
/-! _law_is_machine -/
def N19 : List Str := ["letters", "thing", "many", "row", "move", "k", "p"]
def f19 : Fn := ⟨2, 7, [],
    (.cons (.ifs (.bop false (.not (.isi (.fz 1) [.tuple])) (.cons (.cmp .ne (.bi .len (.cons (.fz 1) .nil)) (.int 5)) (.cons (.cmp .ne (.idx (.fz 1) (.int 0)) (.fz 0)) (.cons (.not (.call 18 (.v (.idx (.fz 1) (.int 1)) (.v (.int 1) (.v (.int 12) .nil))) .nil [.v 0, .v 1, .v 2])) .nil)))) (.cons (.ret (.bl false))
    .nil) .nil)
    (.cons (.asg 2 (.idx (.fz 1) (.int 1)))
    (.cons (.fr (.nm 3) (.d (.slc (.fz 1) (.so (.int 2)) .no)) (.cons (.ifs (.not (.isi (.get 3) [.tuple])) (.cons (.ret (.bl false))
    .nil) .nil)
    .nil))
    (.cons (.fr (.nm 3) (.d (.slc (.fz 1) (.so (.int 2)) (.so (.int 4)))) (.cons (.ifs (.bop false (.not (.bi .all (.cons (.lc (.call 18 (.v (.get 6) (.v (.int 0) (.v (.bin .sub (.get 2) (.int 1)) .nil))) .nil [.v 0, .v 1, .v 2]) (.nm 6) (.d (.get 3)) .nil [6]) .nil))) (.cons (.not (.bi .all (.cons (.lc (.cmp .lt (.idx (.get 3) (.get 5)) (.idx (.get 3) (.bin .add (.get 5) (.int 1)))) (.nm 5) (.d (.rg (.cons (.bin .sub (.bi .len (.cons (.get 3) .nil)) (.int 1)) .nil))) .nil [5]) .nil))) .nil)) (.cons (.ret (.bl false))
    .nil) .nil)
    .nil))
    (.cons (.fr (.nm 4) (.d (.idx (.fz 1) (.int 4))) (.cons (.ifs (.bop false (.not (.isi (.get 4) [.tuple])) (.cons (.cmp .ne (.bi .len (.cons (.get 4) .nil)) (.int 4)) (.cons (.not (.call 18 (.v (.idx (.get 4) (.int 0)) (.v (.int 0) (.v (.bin .sub (.get 2) (.int 1)) .nil))) .nil [.v 0, .v 1, .v 2])) (.cons (.not (.call 18 (.v (.idx (.get 4) (.int 3)) (.v (.int 0) (.v (.bin .sub (.get 2) (.int 1)) .nil))) .nil [.v 0, .v 1, .v 2])) .nil)))) (.cons (.ret (.bl false))
    .nil) .nil)
    (.cons (.ifs (.bop false (.not (.call 18 (.v (.idx (.get 4) (.int 1)) (.v (.int 0) (.v (.bin .sub (.bi .len (.cons (.fz 0) .nil)) (.int 1)) .nil))) .nil [.v 0, .v 1, .v 2])) (.cons (.not (.call 18 (.v (.idx (.get 4) (.int 2)) (.v (.bin .sub (.int 0) (.int 1)) (.v (.int 50) .nil))) .nil [.v 0, .v 1, .v 2])) .nil)) (.cons (.ret (.bl false))
    .nil) .nil)
    .nil)))
    (.cons (.ret (.bi .all (.cons (.lc (.cmp .lt (.idx (.idx (.fz 1) (.int 4)) (.get 5)) (.idx (.idx (.fz 1) (.int 4)) (.bin .add (.get 5) (.int 1)))) (.nm 5) (.d (.rg (.cons (.bin .sub (.bi .len (.cons (.idx (.fz 1) (.int 4)) .nil)) (.int 1)) .nil))) .nil [5]) .nil)))
    .nil))))))⟩
/-! _law_bent -/
def N20 : List Str := ["well", "machine", "rows", "at", "odd", "letters", "many", "starts", "ends", "moves"]
def f20 : Fn := ⟨2, 10, [0],
    (.cons (.asgT [5, 6, 7, 8, 9] (.fz 1))
    (.cons (.asg 2 (.lst (.cons (.tup (.cons (.get 5) (.cons (.bin .add (.get 6) (.int 1)) (.cons (.get 7) (.cons (.get 8) (.cons (.get 9) .nil)))))) (.cons (.tup (.cons (.get 5) (.cons (.bin .sub (.get 6) (.int 1)) (.cons (.get 7) (.cons (.get 8) (.cons (.get 9) .nil)))))) (.cons (.tup (.cons (.get 5) (.cons (.bl true) (.cons (.get 7) (.cons (.get 8) (.cons (.get 9) .nil)))))) (.cons (.ty .list (.cons (.fz 1) .nil)) (.cons (.slc (.fz 1) .no (.so (.int 4))) .nil)))))))
    (.cons (.asg 2 (.bin .add (.fz 2) (.lst (.cons (.bin .add (.fz 1) (.tup (.cons (.tup .nil) .nil))) (.cons .non (.cons (.tup (.cons (.ty .list (.cons (.get 5) .nil)) (.cons (.get 6) (.cons (.get 7) (.cons (.get 8) (.cons (.get 9) .nil)))))) (.cons (.tup (.cons (.tup .nil) (.cons (.get 6) (.cons (.get 7) (.cons (.get 8) (.cons (.get 9) .nil)))))) (.cons (.tup (.cons (.get 5) (.cons (.get 6) (.cons (.bin .add (.get 7) (.tup (.cons (.get 6) .nil))) (.cons (.get 8) (.cons (.get 9) .nil)))))) .nil))))))))
    (.cons (.asg 2 (.bin .add (.fz 2) (.lst (.cons (.tup (.cons (.get 5) (.cons (.get 6) (.cons (.ty .list (.cons (.get 7) .nil)) (.cons (.get 8) (.cons (.get 9) .nil)))))) (.cons (.tup (.cons (.get 5) (.cons (.get 6) (.cons (.get 7) (.cons (.bin .add (.get 8) (.tup (.cons (.int 0) .nil))) (.cons (.get 9) .nil)))))) (.cons (.tup (.cons (.get 5) (.cons (.get 6) (.cons (.get 7) (.cons (.get 8) (.cons (.bin .add (.get 9) (.slc (.get 9) (.so (.neg (.int 1))) .no)) .nil)))))) .nil))))))
    (.cons (.asg 2 (.bin .add (.fz 2) (.lst (.cons (.tup (.cons (.get 5) (.cons (.get 6) (.cons (.get 7) (.cons (.get 8) (.cons (.rev (.get 9)) .nil)))))) (.cons (.tup (.cons (.get 5) (.cons (.get 6) (.cons (.get 7) (.cons (.get 8) (.cons (.ty .list (.cons (.get 9) .nil)) .nil)))))) (.cons (.tup (.cons (.get 5) (.cons (.int 13) (.cons (.get 7) (.cons (.get 8) (.cons (.get 9) .nil)))))) (.cons (.tup (.cons (.get 5) (.cons (.get 6) (.cons (.rev (.get 7)) (.cons (.get 8) (.cons (.get 9) .nil)))))) .nil)))))))
    (.cons (.asg 3 (.call 14 (.io 0 (.v (.bin .add (.bi .len (.cons (.get 9) .nil)) (.int 1)) .nil)) .nil [.io 0, .v 0]))
    (.cons (.asg 4 (.lst (.cons (.tup (.cons (.int 0) (.cons (.int 0) (.cons (.int 51) (.cons (.int 0) .nil))))) (.cons (.tup (.cons (.int 0) (.cons (.int 0) (.cons (.bin .sub (.int 0) (.int 2)) (.cons (.int 0) .nil))))) (.cons (.tup (.cons (.int 0) (.cons (.bi .len (.cons (.get 5) .nil)) (.cons (.int 0) (.cons (.int 0) .nil))))) (.cons (.tup (.cons (.get 6) (.cons (.int 0) (.cons (.int 0) (.cons (.int 0) .nil))))) (.cons (.tup (.cons (.int 0) (.cons (.int 0) (.cons (.int 0) (.cons (.get 6) .nil))))) (.cons (.tup (.cons (.int 0) (.cons (.int 0) (.cons (.bl true) (.cons (.int 0) .nil))))) (.cons (.tup (.cons (.int 0) (.cons (.int 0) (.cons (.int 0) .nil)))) (.cons (.lst (.cons (.int 0) (.cons (.int 0) (.cons (.int 0) (.cons (.int 0) .nil))))) (.cons .non (.cons (.tup (.cons (.int 0) (.cons (.int 0) (.cons .non (.cons (.int 0) .nil))))) .nil))))))))))))
    (.cons (.asg 2 (.bin .add (.fz 2) (.bin .mul (.lst (.cons (.tup (.cons (.get 5) (.cons (.get 6) (.cons (.get 7) (.cons (.get 8) (.cons (.bin .add (.bin .add (.slc (.get 9) .no (.so (.fz 3))) (.tup (.cons (.idx (.fz 4) (.call 14 (.io 0 (.v (.bi .len (.cons (.fz 4) .nil)) .nil)) .nil [.io 0, .v 0])) .nil))) (.slc (.get 9) (.so (.fz 3)) .no)) .nil)))))) .nil)) (.int 6))))
    (.cons (.ret (.idx (.fz 2) (.call 14 (.io 0 (.v (.bi .len (.cons (.fz 2) .nil)) .nil)) .nil [.io 0, .v 0])))
    .nil)))))))))⟩
/-! _law_told -/
def N21 : List Str := ["machine", "found"]
def f21 : Fn := ⟨1, 2, [],
    (.cons (.asg 1 (.str "none"))
    (.cons (.tr (.cons (.asg 1 (.call 12 (.v (.fz 0) .nil) .nil [.v 0]))
    .nil) (.cons 1 (.cons (.asg 1 (.str "machine"))
    .nil) (.cons 0 (.cons (.asg 1 (.str "else"))
    .nil) .nil)))
    (.cons (.ret (.mv 1))
    .nil)))⟩
/-! _law_many -/
def N22 : List Str := ["number", "moves", "k"]
def f22 : Fn := ⟨1, 3, [],
    (.cons (.asg 1 (.lst .nil))
    (.cons (.fr (.nm 2) (.d (.rg (.cons (.fz 0) .nil))) (.cons (.ex (.mt 0 1 .nil (.cons (.tup (.cons (.bin .fdiv (.get 2) (.int 504)) (.cons (.bin .mod (.ty .int (.cons (.bin .fdiv (.get 2) (.int 84)) .nil)) (.int 6)) (.cons (.bin .mod (.ty .int (.cons (.bin .fdiv (.get 2) (.int 12)) .nil)) (.int 7)) (.cons (.bin .mod (.ty .int (.cons (.get 2) .nil)) (.int 12)) .nil))))) .nil)))
    .nil))
    (.cons (.ret (.tup (.cons (.tup (.cons (.str "a") (.cons (.str "b") (.cons (.str "c") (.cons (.str "d") (.cons (.str "e") (.cons (.str "f") .nil))))))) (.cons (.int 12) (.cons (.tup (.cons (.int 0) .nil)) (.cons (.tup (.cons (.int 0) .nil)) (.cons (.ty .tuple (.cons (.fz 1) .nil)) .nil)))))))
    .nil)))⟩
/-! law -/
def N23 : List Str := ["script", "well", "turn", "letters", "machine", "more", "bent", "due", "move"]
def f23 : Fn := ⟨1, 9, [],
    (.cons (.asg 1 (.call 13 (.v (.fz 0) .nil) .nil [.v 0]))
    (.cons (.fr (.nm 2) (.d (.rg (.cons (.bin .add (.int 1) (.bi .min (.cons (.bi .len (.cons (.fz 0) .nil)) (.cons (.int 6) .nil)))) .nil))) (.cons (.asg 3 (.call 15 (.io 1 (.v (.int 3) .nil)) .nil [.io 1, .v 0]))
    (.cons (.asg 4 (.call 16 (.io 1 (.v (.fz 3) (.v (.idx (.lst (.cons (.int 4) (.cons (.int 12) .nil))) (.call 14 (.io 1 (.v (.int 2) .nil)) .nil [.io 1, .v 0])) (.v (.cmp .eq (.call 14 (.io 1 (.v (.int 2) .nil)) .nil [.io 1, .v 0]) (.int 0)) .nil)))) .nil [.io 1, .v 0, .v 1, .v 2]))
    (.cons (.ifs (.bop false (.cmp .isnot (.call 9 (.v (.fz 4) .nil) .nil [.v 0]) (.bl true)) (.cons (.not (.call 17 (.v (.call 12 .nil (.v "machine" (.fz 4) .nil) [.v 0]) (.v (.cmp .eq (.lc (.get 8) (.nm 8) (.d (.idx (.fz 4) (.int 4))) (.cons (.cmp .lt (.idx (.get 8) (.int 2)) (.int 0)) .nil) [8]) (.lst .nil)) .nil)) .nil [.v 0, .v 1])) .nil)) (.cons (.ret (.bl false))
    .nil) .nil)
    (.cons (.fr (.nm 5) (.d (.rg (.cons (.int 5) .nil))) (.cons (.asg 6 (.call 20 (.io 1 (.v (.fz 4) .nil)) .nil [.io 1, .v 0]))
    (.cons (.asg 7 (.call 19 (.v (.fz 3) (.v (.fz 6) .nil)) .nil [.v 0, .v 1]))
    (.cons (.ifs (.bop false (.not (.call 17 (.v (.call 9 .nil (.v "thing" (.fz 6) .nil) [.v 0]) (.v (.fz 7) .nil)) .nil [.v 0, .v 1])) (.cons (.bop true (.not (.fz 7)) (.cons (.cmp .ne (.call 21 (.v (.fz 6) .nil) .nil [.v 0]) (.str "machine")) .nil)) .nil)) (.cons (.ret (.bl false))
    .nil) .nil)
    .nil))))
    .nil)))))
    (.cons (.ret (.bop true (.cmp .is (.call 9 (.v (.call 22 (.v (.int 5000) .nil) .nil [.v 0]) .nil) .nil [.v 0]) (.bl true)) (.cons (.cmp .is (.call 9 (.v (.call 22 (.v (.int 5001) .nil) .nil [.v 0]) .nil) .nil [.v 0]) (.bl false)) .nil)))
    .nil)))⟩
def fnOf : Nat → Option Fn
  | 0 => some f0
  | 1 => some f1
  | 2 => some f2
  | 3 => some f3
  | 4 => some f4
  | 5 => some f5
  | 6 => some f6
  | 7 => some f7
  | 8 => some f8
  | 9 => some f9
  | 10 => some f10
  | 11 => some f11
  | 12 => some f12
  | 13 => some f13
  | 14 => some f14
  | 15 => some f15
  | 16 => some f16
  | 17 => some f17
  | 18 => some f18
  | 19 => some f19
  | 20 => some f20
  | 21 => some f21
  | 22 => some f22
  | 23 => some f23
  | _ => none
def gls : List (Str × D) := [("DIGITS", .str "0123456789"), ("LONGEST_NAME", .int 10), ("MOST_COST", .int 50), ("MOST_LETTERS", .int 6), ("MOST_MOVES", .int 5000), ("MOST_STATES", .int 12), ("RESET_COST", .int (-1)), ("SMALL_LETTERS", .str "abcdefghijklmnopqrstuvwxyz")]
def glob (x : Str) : Option D := gls.lookup x
def nrm : Nat → Nat
  | 0 => 0
  | 1 => 1
  | _ => 0
theorem nrm_or (i : Nat) : nrm i = 0 ∨ nrm i = 1 := by
  unfold nrm
  split <;> simp
/-- which class is below which -/
def sub (i k : Nat) : Bool := match nrm i, nrm k with
  | 0, 0 => true
  | 1, 0 => true
  | 1, 1 => true
  | _, _ => false
def pg : Pg := ⟨fnOf, glob, sub⟩
def shs : List Sh := [⟨0, 1, [], [0]⟩, ⟨1, 3, [], [0, 1, 2]⟩, ⟨4, 1, [], [0]⟩, ⟨2, 3, [], [0, 1, 2]⟩, ⟨3, 1, [], [0]⟩, ⟨6, 1, [], [0]⟩, ⟨5, 2, [], [0, 1]⟩, ⟨7, 3, [], [0, 1, 2]⟩, ⟨8, 1, [], [0]⟩, ⟨9, 1, [], [0]⟩, ⟨10, 1, [], [0]⟩, ⟨11, 1, [], [0]⟩, ⟨14, 2, [], [0, 1]⟩, ⟨18, 3, [], [0, 1, 2]⟩, ⟨12, 1, [], [0]⟩, ⟨13, 1, [], [0]⟩, ⟨15, 2, [], [0, 1]⟩, ⟨16, 4, [], [0, 1, 2, 3]⟩, ⟨12, 0, ["machine"], [0]⟩, ⟨17, 2, [], [0, 1]⟩, ⟨20, 2, [], [0, 1]⟩, ⟨19, 2, [], [0, 1]⟩, ⟨9, 0, ["thing"], [0]⟩, ⟨21, 1, [], [0]⟩, ⟨22, 1, [], [0]⟩]
def bls : List Str := ["abs", "all", "any", "bool", "int", "isinstance", "len", "list", "min", "range", "set", "sorted", "str", "tuple", "zip"]
def rss : List Nat := [1]
abbrev s0 : Stmt := top 7
theorem tx0 : (toSs ⟨N0, fnm, clm⟩ f0.body (anSs (defBody s0))).1 = defBody s0 := by rfl
theorem ck0 : chkSs ⟨N0, fnm, clm⟩ shs bls rss 2 ⟨defScope s0, true, true, defScope s0⟩ f0.body (anSs (defBody s0)) = true := by decide +kernel
theorem sc0 : FnScope N0 ["thing"] (defScope s0) := ⟨rfl, rfl, rfl, by decide +kernel, rfl, by decide +kernel, by decide +kernel⟩
abbrev s1 : Stmt := top 8
theorem tx1 : (toSs ⟨N1, fnm, clm⟩ f1.body (anSs (defBody s1))).1 = defBody s1 := by rfl
theorem ck1 : chkSs ⟨N1, fnm, clm⟩ shs bls rss 2 ⟨defScope s1, true, true, defScope s1⟩ f1.body (anSs (defBody s1)) = true := by decide +kernel
theorem sc1 : FnScope N1 ["thing", "low", "high"] (defScope s1) := ⟨rfl, rfl, rfl, by decide +kernel, rfl, by decide +kernel, by decide +kernel⟩
abbrev s2 : Stmt := top 9
theorem tx2 : (toSs ⟨N2, fnm, clm⟩ f2.body (anSs (defBody s2))).1 = defBody s2 := by rfl
theorem ck2 : chkSs ⟨N2, fnm, clm⟩ shs bls rss 2 ⟨defScope s2, true, true, defScope s2⟩ f2.body (anSs (defBody s2)) = true := by decide +kernel
theorem sc2 : FnScope N2 ["thing", "low", "high"] (defScope s2) := ⟨rfl, rfl, rfl, by decide +kernel, rfl, by decide +kernel, by decide +kernel⟩
abbrev s3 : Stmt := top 10
theorem tx3 : (toSs ⟨N3, fnm, clm⟩ f3.body (anSs (defBody s3))).1 = defBody s3 := by rfl
theorem ck3 : chkSs ⟨N3, fnm, clm⟩ shs bls rss 2 ⟨defScope s3, true, true, defScope s3⟩ f3.body (anSs (defBody s3)) = true := by decide +kernel
theorem sc3 : FnScope N3 ["thing"] (defScope s3) := ⟨rfl, rfl, rfl, by decide +kernel, rfl, by decide +kernel, by decide +kernel⟩
abbrev s4 : Stmt := top 11
theorem tx4 : (toSs ⟨N4, fnm, clm⟩ f4.body (anSs (defBody s4))).1 = defBody s4 := by rfl
theorem ck4 : chkSs ⟨N4, fnm, clm⟩ shs bls rss 2 ⟨defScope s4, true, true, defScope s4⟩ f4.body (anSs (defBody s4)) = true := by decide +kernel
theorem sc4 : FnScope N4 ["thing"] (defScope s4) := ⟨rfl, rfl, rfl, by decide +kernel, rfl, by decide +kernel, by decide +kernel⟩
abbrev s5 : Stmt := top 12
theorem tx5 : (toSs ⟨N5, fnm, clm⟩ f5.body (anSs (defBody s5))).1 = defBody s5 := by rfl
theorem ck5 : chkSs ⟨N5, fnm, clm⟩ shs bls rss 2 ⟨defScope s5, true, true, defScope s5⟩ f5.body (anSs (defBody s5)) = true := by decide +kernel
theorem sc5 : FnScope N5 ["thing", "many"] (defScope s5) := ⟨rfl, rfl, rfl, by decide +kernel, rfl, by decide +kernel, by decide +kernel⟩
abbrev s6 : Stmt := top 15
theorem tx6 : (toSs ⟨N6, fnm, clm⟩ f6.body (anSs (defBody s6))).1 = defBody s6 := by rfl
theorem ck6 : chkSs ⟨N6, fnm, clm⟩ shs bls rss 2 ⟨defScope s6, true, true, defScope s6⟩ f6.body (anSs (defBody s6)) = true := by decide +kernel
theorem sc6 : FnScope N6 ["thing"] (defScope s6) := ⟨rfl, rfl, rfl, by decide +kernel, rfl, by decide +kernel, by decide +kernel⟩
abbrev s7 : Stmt := top 21
theorem tx7 : (toSs ⟨N7, fnm, clm⟩ f7.body (anSs (defBody s7))).1 = defBody s7 := by rfl
theorem ck7 : chkSs ⟨N7, fnm, clm⟩ shs bls rss 2 ⟨defScope s7, true, true, defScope s7⟩ f7.body (anSs (defBody s7)) = true := by decide +kernel
theorem sc7 : FnScope N7 ["many_letters", "states", "thing"] (defScope s7) := ⟨rfl, rfl, rfl, by decide +kernel, rfl, by decide +kernel, by decide +kernel⟩
abbrev s8 : Stmt := top 22
theorem tx8 : (toSs ⟨N8, fnm, clm⟩ f8.body (anSs (defBody s8))).1 = defBody s8 := by rfl
theorem ck8 : chkSs ⟨N8, fnm, clm⟩ shs bls rss 2 ⟨defScope s8, true, true, defScope s8⟩ f8.body (anSs (defBody s8)) = true := by decide +kernel
theorem sc8 : FnScope N8 ["thing"] (defScope s8) := ⟨rfl, rfl, rfl, by decide +kernel, rfl, by decide +kernel, by decide +kernel⟩
abbrev s9 : Stmt := top 23
theorem tx9 : (toSs ⟨N9, fnm, clm⟩ f9.body (anSs (defBody s9))).1 = defBody s9 := by rfl
theorem ck9 : chkSs ⟨N9, fnm, clm⟩ shs bls rss 2 ⟨defScope s9, true, true, defScope s9⟩ f9.body (anSs (defBody s9)) = true := by decide +kernel
theorem sc9 : FnScope N9 ["thing"] (defScope s9) := ⟨rfl, rfl, rfl, by decide +kernel, rfl, by decide +kernel, by decide +kernel⟩
abbrev s10 : Stmt := top 24
theorem tx10 : (toSs ⟨N10, fnm, clm⟩ f10.body (anSs (defBody s10))).1 = defBody s10 := by rfl
theorem ck10 : chkSs ⟨N10, fnm, clm⟩ shs bls rss 2 ⟨defScope s10, true, true, defScope s10⟩ f10.body (anSs (defBody s10)) = true := by decide +kernel
theorem sc10 : FnScope N10 ["machine"] (defScope s10) := ⟨rfl, rfl, rfl, by decide +kernel, rfl, by decide +kernel, by decide +kernel⟩
abbrev s11 : Stmt := top 25
theorem tx11 : (toSs ⟨N11, fnm, clm⟩ f11.body (anSs (defBody s11))).1 = defBody s11 := by rfl
theorem ck11 : chkSs ⟨N11, fnm, clm⟩ shs bls rss 2 ⟨defScope s11, true, true, defScope s11⟩ f11.body (anSs (defBody s11)) = true := by decide +kernel
theorem sc11 : FnScope N11 ["machine"] (defScope s11) := ⟨rfl, rfl, rfl, by decide +kernel, rfl, by decide +kernel, by decide +kernel⟩
abbrev s12 : Stmt := top 26
theorem tx12 : (toSs ⟨N12, fnm, clm⟩ f12.body (anSs (defBody s12))).1 = defBody s12 := by rfl
theorem ck12 : chkSs ⟨N12, fnm, clm⟩ shs bls rss 2 ⟨defScope s12, true, true, defScope s12⟩ f12.body (anSs (defBody s12)) = true := by decide +kernel
theorem sc12 : FnScope N12 ["machine"] (defScope s12) := ⟨rfl, rfl, rfl, by decide +kernel, rfl, by decide +kernel, by decide +kernel⟩
abbrev s13 : Stmt := top 28
theorem tx13 : (toSs ⟨N13, fnm, clm⟩ f13.body (anSs (defBody s13))).1 = defBody s13 := by rfl
theorem ck13 : chkSs ⟨N13, fnm, clm⟩ shs bls rss 2 ⟨defScope s13, true, true, defScope s13⟩ f13.body (anSs (defBody s13)) = true := by decide +kernel
theorem sc13 : FnScope N13 ["script"] (defScope s13) := ⟨rfl, rfl, rfl, by decide +kernel, rfl, by decide +kernel, by decide +kernel⟩
abbrev s14 : Stmt := top 29
theorem tx14 : (toSs ⟨N14, fnm, clm⟩ f14.body (anSs (defBody s14))).1 = defBody s14 := by rfl
theorem ck14 : chkSs ⟨N14, fnm, clm⟩ shs bls rss 2 ⟨defScope s14, true, true, defScope s14⟩ f14.body (anSs (defBody s14)) = true := by decide +kernel
theorem sc14 : FnScope N14 ["well", "many"] (defScope s14) := ⟨rfl, rfl, rfl, by decide +kernel, rfl, by decide +kernel, by decide +kernel⟩
abbrev s15 : Stmt := top 30
theorem tx15 : (toSs ⟨N15, fnm, clm⟩ f15.body (anSs (defBody s15))).1 = defBody s15 := by rfl
theorem ck15 : chkSs ⟨N15, fnm, clm⟩ shs bls rss 2 ⟨defScope s15, true, true, defScope s15⟩ f15.body (anSs (defBody s15)) = true := by decide +kernel
theorem sc15 : FnScope N15 ["well", "most"] (defScope s15) := ⟨rfl, rfl, rfl, by decide +kernel, rfl, by decide +kernel, by decide +kernel⟩
abbrev s16 : Stmt := top 31
theorem tx16 : (toSs ⟨N16, fnm, clm⟩ f16.body (anSs (defBody s16))).1 = defBody s16 := by rfl
theorem ck16 : chkSs ⟨N16, fnm, clm⟩ shs bls rss 2 ⟨defScope s16, true, true, defScope s16⟩ f16.body (anSs (defBody s16)) = true := by decide +kernel
theorem sc16 : FnScope N16 ["well", "letters", "most", "resets"] (defScope s16) := ⟨rfl, rfl, rfl, by decide +kernel, rfl, by decide +kernel, by decide +kernel⟩
abbrev s17 : Stmt := top 32
theorem tx17 : (toSs ⟨N17, fnm, clm⟩ f17.body (anSs (defBody s17))).1 = defBody s17 := by rfl
theorem ck17 : chkSs ⟨N17, fnm, clm⟩ shs bls rss 2 ⟨defScope s17, true, true, defScope s17⟩ f17.body (anSs (defBody s17)) = true := by decide +kernel
theorem sc17 : FnScope N17 ["told", "due"] (defScope s17) := ⟨rfl, rfl, rfl, by decide +kernel, rfl, by decide +kernel, by decide +kernel⟩
abbrev s18 : Stmt := top 33
theorem tx18 : (toSs ⟨N18, fnm, clm⟩ f18.body (anSs (defBody s18))).1 = defBody s18 := by rfl
theorem ck18 : chkSs ⟨N18, fnm, clm⟩ shs bls rss 2 ⟨defScope s18, true, true, defScope s18⟩ f18.body (anSs (defBody s18)) = true := by decide +kernel
theorem sc18 : FnScope N18 ["thing", "low", "high"] (defScope s18) := ⟨rfl, rfl, rfl, by decide +kernel, rfl, by decide +kernel, by decide +kernel⟩
abbrev s19 : Stmt := top 34
theorem tx19 : (toSs ⟨N19, fnm, clm⟩ f19.body (anSs (defBody s19))).1 = defBody s19 := by rfl
theorem ck19 : chkSs ⟨N19, fnm, clm⟩ shs bls rss 2 ⟨defScope s19, true, true, defScope s19⟩ f19.body (anSs (defBody s19)) = true := by decide +kernel
theorem sc19 : FnScope N19 ["letters", "thing"] (defScope s19) := ⟨rfl, rfl, rfl, by decide +kernel, rfl, by decide +kernel, by decide +kernel⟩
abbrev s20 : Stmt := top 35
theorem tx20 : (toSs ⟨N20, fnm, clm⟩ f20.body (anSs (defBody s20))).1 = defBody s20 := by rfl
theorem ck20 : chkSs ⟨N20, fnm, clm⟩ shs bls rss 2 ⟨defScope s20, true, true, defScope s20⟩ f20.body (anSs (defBody s20)) = true := by decide +kernel
theorem sc20 : FnScope N20 ["well", "machine"] (defScope s20) := ⟨rfl, rfl, rfl, by decide +kernel, rfl, by decide +kernel, by decide +kernel⟩
abbrev s21 : Stmt := top 36
theorem tx21 : (toSs ⟨N21, fnm, clm⟩ f21.body (anSs (defBody s21))).1 = defBody s21 := by rfl
theorem ck21 : chkSs ⟨N21, fnm, clm⟩ shs bls rss 2 ⟨defScope s21, true, true, defScope s21⟩ f21.body (anSs (defBody s21)) = true := by decide +kernel
theorem sc21 : FnScope N21 ["machine"] (defScope s21) := ⟨rfl, rfl, rfl, by decide +kernel, rfl, by decide +kernel, by decide +kernel⟩
abbrev s22 : Stmt := top 37
theorem tx22 : (toSs ⟨N22, fnm, clm⟩ f22.body (anSs (defBody s22))).1 = defBody s22 := by rfl
theorem ck22 : chkSs ⟨N22, fnm, clm⟩ shs bls rss 2 ⟨defScope s22, true, true, defScope s22⟩ f22.body (anSs (defBody s22)) = true := by decide +kernel
theorem sc22 : FnScope N22 ["number"] (defScope s22) := ⟨rfl, rfl, rfl, by decide +kernel, rfl, by decide +kernel, by decide +kernel⟩
abbrev s23 : Stmt := top 38
theorem tx23 : (toSs ⟨N23, fnm, clm⟩ f23.body (anSs (defBody s23))).1 = defBody s23 := by rfl
theorem ck23 : chkSs ⟨N23, fnm, clm⟩ shs bls rss 2 ⟨defScope s23, true, true, defScope s23⟩ f23.body (anSs (defBody s23)) = true := by decide +kernel
theorem sc23 : FnScope N23 ["script"] (defScope s23) := ⟨rfl, rfl, rfl, by decide +kernel, rfl, by decide +kernel, by decide +kernel⟩
/-! the facts -/
theorem exm_pair {K : PySem.W.Frag} {A B : Addr} {r : Bool} (h1 : PySem.W.subIn K (.ref B) (.type "BaseException") = some true) (h2 : PySem.W.isClsIn K B = true) (h3 : PySem.W.typeIn K (.ref B) = some (.type "type")) (h4 : PySem.W.subIn K (.ref A) (.ref B) = some r) : PySem.W.exmOne K (.ref A) (.ref B) = some r := by
  have e1 : (PySem.W.subIn K (.ref B) (.type "BaseException") == some true) = true := by rw [h1] <;> rfl
  have e2 : ((PySem.W.clsIn K B).isSome && PySem.W.typeIn K (.ref B) == some (.type "type")) = true := by
    have h2' : (PySem.W.clsIn K B).isSome = true := h2
    rw [h2', h3] <;> rfl
  show (if (PySem.W.subIn K (.ref B) (.type "BaseException") == some true) = true then (if ((PySem.W.clsIn K B).isSome && PySem.W.typeIn K (.ref B) == some (.type "type")) = true then PySem.W.subIn K (.ref A) (.ref B) else none) else none) = some r
  rw [if_pos e1, if_pos e2]
  exact h4
theorem gl_mem {l : List (Str × D)} {x : Str} {d : D} (h : l.lookup x = some d) : (x, d) ∈ l := by
  induction l with
  | nil => cases h
  | cons p r ih =>
    obtain ⟨y, e⟩ := p
    rw [List.lookup_cons] at h
    split at h
    · rename_i q
      cases h
      rw [eq_of_beq q]
      exact List.mem_cons_self ..
    · exact List.mem_cons_of_mem _ (ih h)
set_option maxHeartbeats 0 in
theorem all_mk {w : World} {K : PySem.W.Frag} {h : Heap} {mg : Str → Option Value} {fa : Addr} (X : K.In h) (G : h.Ns mainGlobals mg) (hfa : mg "law" = some (.ref fa))
    {a0 : Addr} {od0 an0 : Option Addr} {sl0 : Array (Option Value)} {oc0 kV0 dc0 pm0 cd0 ct0 : Value}
    {a1 : Addr} {od1 an1 : Option Addr} {sl1 : Array (Option Value)} {oc1 kV1 dc1 pm1 cd1 ct1 : Value}
    {a2 : Addr} {od2 an2 : Option Addr} {sl2 : Array (Option Value)} {oc2 kV2 dc2 pm2 cd2 ct2 : Value}
    {a3 : Addr} {od3 an3 : Option Addr} {sl3 : Array (Option Value)} {oc3 kV3 dc3 pm3 cd3 ct3 : Value}
    {a4 : Addr} {od4 an4 : Option Addr} {sl4 : Array (Option Value)} {oc4 kV4 dc4 pm4 cd4 ct4 : Value}
    {a5 : Addr} {od5 an5 : Option Addr} {sl5 : Array (Option Value)} {oc5 kV5 dc5 pm5 cd5 ct5 : Value}
    {a6 : Addr} {od6 an6 : Option Addr} {sl6 : Array (Option Value)} {oc6 kV6 dc6 pm6 cd6 ct6 : Value}
    {a7 : Addr} {od7 an7 : Option Addr} {sl7 : Array (Option Value)} {oc7 kV7 dc7 pm7 cd7 ct7 : Value}
    {a8 : Addr} {od8 an8 : Option Addr} {sl8 : Array (Option Value)} {oc8 kV8 dc8 pm8 cd8 ct8 : Value}
    {a9 : Addr} {od9 an9 : Option Addr} {sl9 : Array (Option Value)} {oc9 kV9 dc9 pm9 cd9 ct9 : Value}
    {a10 : Addr} {od10 an10 : Option Addr} {sl10 : Array (Option Value)} {oc10 kV10 dc10 pm10 cd10 ct10 : Value}
    {a11 : Addr} {od11 an11 : Option Addr} {sl11 : Array (Option Value)} {oc11 kV11 dc11 pm11 cd11 ct11 : Value}
    {a12 : Addr} {od12 an12 : Option Addr} {sl12 : Array (Option Value)} {oc12 kV12 dc12 pm12 cd12 ct12 : Value}
    {a13 : Addr} {od13 an13 : Option Addr} {sl13 : Array (Option Value)} {oc13 kV13 dc13 pm13 cd13 ct13 : Value}
    {a14 : Addr} {od14 an14 : Option Addr} {sl14 : Array (Option Value)} {oc14 kV14 dc14 pm14 cd14 ct14 : Value}
    {a15 : Addr} {od15 an15 : Option Addr} {sl15 : Array (Option Value)} {oc15 kV15 dc15 pm15 cd15 ct15 : Value}
    {a16 : Addr} {od16 an16 : Option Addr} {sl16 : Array (Option Value)} {oc16 kV16 dc16 pm16 cd16 ct16 : Value}
    {a17 : Addr} {od17 an17 : Option Addr} {sl17 : Array (Option Value)} {oc17 kV17 dc17 pm17 cd17 ct17 : Value}
    {a18 : Addr} {od18 an18 : Option Addr} {sl18 : Array (Option Value)} {oc18 kV18 dc18 pm18 cd18 ct18 : Value}
    {a19 : Addr} {od19 an19 : Option Addr} {sl19 : Array (Option Value)} {oc19 kV19 dc19 pm19 cd19 ct19 : Value}
    {a20 : Addr} {od20 an20 : Option Addr} {sl20 : Array (Option Value)} {oc20 kV20 dc20 pm20 cd20 ct20 : Value}
    {a21 : Addr} {od21 an21 : Option Addr} {sl21 : Array (Option Value)} {oc21 kV21 dc21 pm21 cd21 ct21 : Value}
    {a22 : Addr} {od22 an22 : Option Addr} {sl22 : Array (Option Value)} {oc22 kV22 dc22 pm22 cd22 ct22 : Value}
    {a23 : Addr} {od23 an23 : Option Addr} {sl23 : Array (Option Value)} {oc23 kV23 dc23 pm23 cd23 ct23 : Value}
    {C0 : Addr}
    {C1 : Addr}
    {tk0 : Tok}
    {tk1 : Tok}
    {tk2 : Tok}
    {tk3 : Tok}
    {tk4 : Tok}
    {tk5 : Tok}
    {tk6 : Tok}
    {tk7 : Tok}
    (ha0 : PySem.W.nsIn K mainGlobals "is_int" = some (some (.ref a0)))
    (hl0 : K.lookup a0 = some ⟨oc0, od0, .func (PySem.W.fnOf "is_int" "is_int" (defArgs s0) (defBody s0) (defScope s0) .none kV0 dc0 pm0 an0 cd0 ct0), sl0⟩)
    (hc0 : PySem.W.codeIn K cd0 "is_int" = true)
    (hk0 : PySem.W.keepIn K (.ref a0) = true)
    (ha1 : PySem.W.nsIn K mainGlobals "within" = some (some (.ref a1)))
    (hl1 : K.lookup a1 = some ⟨oc1, od1, .func (PySem.W.fnOf "within" "within" (defArgs s1) (defBody s1) (defScope s1) .none kV1 dc1 pm1 an1 cd1 ct1), sl1⟩)
    (hc1 : PySem.W.codeIn K cd1 "within" = true)
    (hk1 : PySem.W.keepIn K (.ref a1) = true)
    (ha2 : PySem.W.nsIn K mainGlobals "is_row" = some (some (.ref a2)))
    (hl2 : K.lookup a2 = some ⟨oc2, od2, .func (PySem.W.fnOf "is_row" "is_row" (defArgs s2) (defBody s2) (defScope s2) .none kV2 dc2 pm2 an2 cd2 ct2), sl2⟩)
    (hc2 : PySem.W.codeIn K cd2 "is_row" = true)
    (hk2 : PySem.W.keepIn K (.ref a2) = true)
    (ha3 : PySem.W.nsIn K mainGlobals "is_low_name" = some (some (.ref a3)))
    (hl3 : K.lookup a3 = some ⟨oc3, od3, .func (PySem.W.fnOf "is_low_name" "is_low_name" (defArgs s3) (defBody s3) (defScope s3) .none kV3 dc3 pm3 an3 cd3 ct3), sl3⟩)
    (hc3 : PySem.W.codeIn K cd3 "is_low_name" = true)
    (hk3 : PySem.W.keepIn K (.ref a3) = true)
    (ha4 : PySem.W.nsIn K mainGlobals "is_ascending" = some (some (.ref a4)))
    (hl4 : K.lookup a4 = some ⟨oc4, od4, .func (PySem.W.fnOf "is_ascending" "is_ascending" (defArgs s4) (defBody s4) (defScope s4) .none kV4 dc4 pm4 an4 cd4 ct4), sl4⟩)
    (hc4 : PySem.W.codeIn K cd4 "is_ascending" = true)
    (hk4 : PySem.W.keepIn K (.ref a4) = true)
    (ha5 : PySem.W.nsIn K mainGlobals "are_indexes" = some (some (.ref a5)))
    (hl5 : K.lookup a5 = some ⟨oc5, od5, .func (PySem.W.fnOf "are_indexes" "are_indexes" (defArgs s5) (defBody s5) (defScope s5) .none kV5 dc5 pm5 an5 cd5 ct5), sl5⟩)
    (hc5 : PySem.W.codeIn K cd5 "are_indexes" = true)
    (hk5 : PySem.W.keepIn K (.ref a5) = true)
    (ha6 : PySem.W.nsIn K mainGlobals "are_letters" = some (some (.ref a6)))
    (hl6 : K.lookup a6 = some ⟨oc6, od6, .func (PySem.W.fnOf "are_letters" "are_letters" (defArgs s6) (defBody s6) (defScope s6) .none kV6 dc6 pm6 an6 cd6 ct6), sl6⟩)
    (hc6 : PySem.W.codeIn K cd6 "are_letters" = true)
    (hk6 : PySem.W.keepIn K (.ref a6) = true)
    (ha7 : PySem.W.nsIn K mainGlobals "is_move" = some (some (.ref a7)))
    (hl7 : K.lookup a7 = some ⟨oc7, od7, .func (PySem.W.fnOf "is_move" "is_move" (defArgs s7) (defBody s7) (defScope s7) .none kV7 dc7 pm7 an7 cd7 ct7), sl7⟩)
    (hc7 : PySem.W.codeIn K cd7 "is_move" = true)
    (hk7 : PySem.W.keepIn K (.ref a7) = true)
    (ha8 : PySem.W.nsIn K mainGlobals "is_any_machine" = some (some (.ref a8)))
    (hl8 : K.lookup a8 = some ⟨oc8, od8, .func (PySem.W.fnOf "is_any_machine" "is_any_machine" (defArgs s8) (defBody s8) (defScope s8) .none kV8 dc8 pm8 an8 cd8 ct8), sl8⟩)
    (hc8 : PySem.W.codeIn K cd8 "is_any_machine" = true)
    (hk8 : PySem.W.keepIn K (.ref a8) = true)
    (ha9 : PySem.W.nsIn K mainGlobals "is_machine" = some (some (.ref a9)))
    (hl9 : K.lookup a9 = some ⟨oc9, od9, .func (PySem.W.fnOf "is_machine" "is_machine" (defArgs s9) (defBody s9) (defScope s9) .none kV9 dc9 pm9 an9 cd9 ct9), sl9⟩)
    (hc9 : PySem.W.codeIn K cd9 "is_machine" = true)
    (hk9 : PySem.W.keepIn K (.ref a9) = true)
    (ha10 : PySem.W.nsIn K mainGlobals "need_machine" = some (some (.ref a10)))
    (hl10 : K.lookup a10 = some ⟨oc10, od10, .func (PySem.W.fnOf "need_machine" "need_machine" (defArgs s10) (defBody s10) (defScope s10) .none kV10 dc10 pm10 an10 cd10 ct10), sl10⟩)
    (hc10 : PySem.W.codeIn K cd10 "need_machine" = true)
    (hk10 : PySem.W.keepIn K (.ref a10) = true)
    (ha11 : PySem.W.nsIn K mainGlobals "has_reset" = some (some (.ref a11)))
    (hl11 : K.lookup a11 = some ⟨oc11, od11, .func (PySem.W.fnOf "has_reset" "has_reset" (defArgs s11) (defBody s11) (defScope s11) .none kV11 dc11 pm11 an11 cd11 ct11), sl11⟩)
    (hc11 : PySem.W.codeIn K cd11 "has_reset" = true)
    (hk11 : PySem.W.keepIn K (.ref a11) = true)
    (ha12 : PySem.W.nsIn K mainGlobals "is_plain" = some (some (.ref a12)))
    (hl12 : K.lookup a12 = some ⟨oc12, od12, .func (PySem.W.fnOf "is_plain" "is_plain" (defArgs s12) (defBody s12) (defScope s12) .none kV12 dc12 pm12 an12 cd12 ct12), sl12⟩)
    (hc12 : PySem.W.codeIn K cd12 "is_plain" = true)
    (hk12 : PySem.W.keepIn K (.ref a12) = true)
    (ha13 : PySem.W.nsIn K mainGlobals "_law_well" = some (some (.ref a13)))
    (hl13 : K.lookup a13 = some ⟨oc13, od13, .func (PySem.W.fnOf "_law_well" "_law_well" (defArgs s13) (defBody s13) (defScope s13) .none kV13 dc13 pm13 an13 cd13 ct13), sl13⟩)
    (hc13 : PySem.W.codeIn K cd13 "_law_well" = true)
    (hk13 : PySem.W.keepIn K (.ref a13) = true)
    (ha14 : PySem.W.nsIn K mainGlobals "_law_draw" = some (some (.ref a14)))
    (hl14 : K.lookup a14 = some ⟨oc14, od14, .func (PySem.W.fnOf "_law_draw" "_law_draw" (defArgs s14) (defBody s14) (defScope s14) .none kV14 dc14 pm14 an14 cd14 ct14), sl14⟩)
    (hc14 : PySem.W.codeIn K cd14 "_law_draw" = true)
    (hk14 : PySem.W.keepIn K (.ref a14) = true)
    (ha15 : PySem.W.nsIn K mainGlobals "_law_letters" = some (some (.ref a15)))
    (hl15 : K.lookup a15 = some ⟨oc15, od15, .func (PySem.W.fnOf "_law_letters" "_law_letters" (defArgs s15) (defBody s15) (defScope s15) .none kV15 dc15 pm15 an15 cd15 ct15), sl15⟩)
    (hc15 : PySem.W.codeIn K cd15 "_law_letters" = true)
    (hk15 : PySem.W.keepIn K (.ref a15) = true)
    (ha16 : PySem.W.nsIn K mainGlobals "_law_machine" = some (some (.ref a16)))
    (hl16 : K.lookup a16 = some ⟨oc16, od16, .func (PySem.W.fnOf "_law_machine" "_law_machine" (defArgs s16) (defBody s16) (defScope s16) .none kV16 dc16 pm16 an16 cd16 ct16), sl16⟩)
    (hc16 : PySem.W.codeIn K cd16 "_law_machine" = true)
    (hk16 : PySem.W.keepIn K (.ref a16) = true)
    (ha17 : PySem.W.nsIn K mainGlobals "_law_is" = some (some (.ref a17)))
    (hl17 : K.lookup a17 = some ⟨oc17, od17, .func (PySem.W.fnOf "_law_is" "_law_is" (defArgs s17) (defBody s17) (defScope s17) .none kV17 dc17 pm17 an17 cd17 ct17), sl17⟩)
    (hc17 : PySem.W.codeIn K cd17 "_law_is" = true)
    (hk17 : PySem.W.keepIn K (.ref a17) = true)
    (ha18 : PySem.W.nsIn K mainGlobals "_law_number" = some (some (.ref a18)))
    (hl18 : K.lookup a18 = some ⟨oc18, od18, .func (PySem.W.fnOf "_law_number" "_law_number" (defArgs s18) (defBody s18) (defScope s18) .none kV18 dc18 pm18 an18 cd18 ct18), sl18⟩)
    (hc18 : PySem.W.codeIn K cd18 "_law_number" = true)
    (hk18 : PySem.W.keepIn K (.ref a18) = true)
    (ha19 : PySem.W.nsIn K mainGlobals "_law_is_machine" = some (some (.ref a19)))
    (hl19 : K.lookup a19 = some ⟨oc19, od19, .func (PySem.W.fnOf "_law_is_machine" "_law_is_machine" (defArgs s19) (defBody s19) (defScope s19) .none kV19 dc19 pm19 an19 cd19 ct19), sl19⟩)
    (hc19 : PySem.W.codeIn K cd19 "_law_is_machine" = true)
    (hk19 : PySem.W.keepIn K (.ref a19) = true)
    (ha20 : PySem.W.nsIn K mainGlobals "_law_bent" = some (some (.ref a20)))
    (hl20 : K.lookup a20 = some ⟨oc20, od20, .func (PySem.W.fnOf "_law_bent" "_law_bent" (defArgs s20) (defBody s20) (defScope s20) .none kV20 dc20 pm20 an20 cd20 ct20), sl20⟩)
    (hc20 : PySem.W.codeIn K cd20 "_law_bent" = true)
    (hk20 : PySem.W.keepIn K (.ref a20) = true)
    (ha21 : PySem.W.nsIn K mainGlobals "_law_told" = some (some (.ref a21)))
    (hl21 : K.lookup a21 = some ⟨oc21, od21, .func (PySem.W.fnOf "_law_told" "_law_told" (defArgs s21) (defBody s21) (defScope s21) .none kV21 dc21 pm21 an21 cd21 ct21), sl21⟩)
    (hc21 : PySem.W.codeIn K cd21 "_law_told" = true)
    (hk21 : PySem.W.keepIn K (.ref a21) = true)
    (ha22 : PySem.W.nsIn K mainGlobals "_law_many" = some (some (.ref a22)))
    (hl22 : K.lookup a22 = some ⟨oc22, od22, .func (PySem.W.fnOf "_law_many" "_law_many" (defArgs s22) (defBody s22) (defScope s22) .none kV22 dc22 pm22 an22 cd22 ct22), sl22⟩)
    (hc22 : PySem.W.codeIn K cd22 "_law_many" = true)
    (hk22 : PySem.W.keepIn K (.ref a22) = true)
    (ha23 : PySem.W.nsIn K mainGlobals "law" = some (some (.ref a23)))
    (hl23 : K.lookup a23 = some ⟨oc23, od23, .func (PySem.W.fnOf "law" "law" (defArgs s23) (defBody s23) (defScope s23) .none kV23 dc23 pm23 an23 cd23 ct23), sl23⟩)
    (hc23 : PySem.W.codeIn K cd23 "law" = true)
    (hk23 : PySem.W.keepIn K (.ref a23) = true)
    (qa0 : PySem.W.nsIn K mainGlobals "CostError" = some (some (.ref C0)))
    (qk0 : PySem.W.keepIn K (.ref C0) = true)
    (qb0 : PySem.W.subIn K (.ref C0) (.type "BaseException") = some true)
    (qt0 : PySem.W.typeIn K (.ref C0) = some (.type "type"))
    (qi0 : PySem.W.isClsIn K C0 = true)
    (qa1 : PySem.W.nsIn K mainGlobals "BadMachine" = some (some (.ref C1)))
    (qx1 : PySem.W.excIn K C1 [.type "ValueError", .type "Exception", .type "BaseException", .type "object"] "ValueError.__new__" = true)
    (qk1 : PySem.W.keepIn K (.ref C1) = true)
    (qb1 : PySem.W.subIn K (.ref C1) (.type "BaseException") = some true)
    (qt1 : PySem.W.typeIn K (.ref C1) = some (.type "type"))
    (qi1 : PySem.W.isClsIn K C1 = true)
    (qs0_0 : PySem.W.subIn K (.ref C0) (.ref C0) = some true)
    (qs0_1 : PySem.W.subIn K (.ref C0) (.ref C1) = some false)
    (qs1_0 : PySem.W.subIn K (.ref C1) (.ref C0) = some true)
    (qs1_1 : PySem.W.subIn K (.ref C1) (.ref C1) = some true)
    (gg0 : PySem.W.nsIn K mainGlobals "DIGITS" = some (some (.str "0123456789" tk0)))
    (gg1 : PySem.W.nsIn K mainGlobals "LONGEST_NAME" = some (some (.int 10 tk1)))
    (gg2 : PySem.W.nsIn K mainGlobals "MOST_COST" = some (some (.int 50 tk2)))
    (gg3 : PySem.W.nsIn K mainGlobals "MOST_LETTERS" = some (some (.int 6 tk3)))
    (gg4 : PySem.W.nsIn K mainGlobals "MOST_MOVES" = some (some (.int 5000 tk4)))
    (gg5 : PySem.W.nsIn K mainGlobals "MOST_STATES" = some (some (.int 12 tk5)))
    (gg6 : PySem.W.nsIn K mainGlobals "RESET_COST" = some (some (.int (-1) tk6)))
    (gg7 : PySem.W.nsIn K mainGlobals "SMALL_LETTERS" = some (some (.str "abcdefghijklmnopqrstuvwxyz" tk7)))
    (zz0 : PySem.W.nsIn K mainGlobals "abs" = some none)
    (zz1 : PySem.W.nsIn K mainGlobals "all" = some none)
    (zz2 : PySem.W.nsIn K mainGlobals "any" = some none)
    (zz3 : PySem.W.nsIn K mainGlobals "bool" = some none)
    (zz4 : PySem.W.nsIn K mainGlobals "int" = some none)
    (zz5 : PySem.W.nsIn K mainGlobals "isinstance" = some none)
    (zz6 : PySem.W.nsIn K mainGlobals "len" = some none)
    (zz7 : PySem.W.nsIn K mainGlobals "list" = some none)
    (zz8 : PySem.W.nsIn K mainGlobals "min" = some none)
    (zz9 : PySem.W.nsIn K mainGlobals "range" = some none)
    (zz10 : PySem.W.nsIn K mainGlobals "set" = some none)
    (zz11 : PySem.W.nsIn K mainGlobals "sorted" = some none)
    (zz12 : PySem.W.nsIn K mainGlobals "str" = some none)
    (zz13 : PySem.W.nsIn K mainGlobals "tuple" = some none)
    (zz14 : PySem.W.nsIn K mainGlobals "zip" = some none)
    : ∃ (fd : FuncData) (ca : Nat → Addr) (fi : Nat → FI), (∀ (s : Shared) (u : Value), BindsTo s fd ⟨[u], []⟩ [("script", u)]) ∧
        ∀ base : Heap, K.In base → base.Ns mainGlobals mg → FnOk PySem.Challenge.rw_costslimited_k02_machines_judged.prog w K mg base (L2.CX PySem.Challenge.rw_costslimited_k02_machines_judged.prog w) 40 fa fd ["script"] (spOf ⟨PySem.Challenge.rw_costslimited_k02_machines_judged.prog, w, K, mg, base, ca, fi⟩ (pg.run 40 23)) := by
  have e := hfa.symm.trans (PySem.W.mg_of X G ha23)
  cases e
  let fi : Nat → FI := fun j => ([⟨a0, (PySem.W.fnOf "is_int" "is_int" (defArgs s0) (defBody s0) (defScope s0) .none kV0 dc0 pm0 an0 cd0 ct0), ["thing"], []⟩, ⟨a1, (PySem.W.fnOf "within" "within" (defArgs s1) (defBody s1) (defScope s1) .none kV1 dc1 pm1 an1 cd1 ct1), ["thing", "low", "high"], []⟩, ⟨a2, (PySem.W.fnOf "is_row" "is_row" (defArgs s2) (defBody s2) (defScope s2) .none kV2 dc2 pm2 an2 cd2 ct2), ["thing", "low", "high"], []⟩, ⟨a3, (PySem.W.fnOf "is_low_name" "is_low_name" (defArgs s3) (defBody s3) (defScope s3) .none kV3 dc3 pm3 an3 cd3 ct3), ["thing"], []⟩, ⟨a4, (PySem.W.fnOf "is_ascending" "is_ascending" (defArgs s4) (defBody s4) (defScope s4) .none kV4 dc4 pm4 an4 cd4 ct4), ["thing"], []⟩, ⟨a5, (PySem.W.fnOf "are_indexes" "are_indexes" (defArgs s5) (defBody s5) (defScope s5) .none kV5 dc5 pm5 an5 cd5 ct5), ["thing", "many"], []⟩, ⟨a6, (PySem.W.fnOf "are_letters" "are_letters" (defArgs s6) (defBody s6) (defScope s6) .none kV6 dc6 pm6 an6 cd6 ct6), ["thing"], []⟩, ⟨a7, (PySem.W.fnOf "is_move" "is_move" (defArgs s7) (defBody s7) (defScope s7) .none kV7 dc7 pm7 an7 cd7 ct7), ["many_letters", "states", "thing"], []⟩, ⟨a8, (PySem.W.fnOf "is_any_machine" "is_any_machine" (defArgs s8) (defBody s8) (defScope s8) .none kV8 dc8 pm8 an8 cd8 ct8), ["thing"], []⟩, ⟨a9, (PySem.W.fnOf "is_machine" "is_machine" (defArgs s9) (defBody s9) (defScope s9) .none kV9 dc9 pm9 an9 cd9 ct9), ["thing"], []⟩, ⟨a10, (PySem.W.fnOf "need_machine" "need_machine" (defArgs s10) (defBody s10) (defScope s10) .none kV10 dc10 pm10 an10 cd10 ct10), ["machine"], []⟩, ⟨a11, (PySem.W.fnOf "has_reset" "has_reset" (defArgs s11) (defBody s11) (defScope s11) .none kV11 dc11 pm11 an11 cd11 ct11), ["machine"], []⟩, ⟨a12, (PySem.W.fnOf "is_plain" "is_plain" (defArgs s12) (defBody s12) (defScope s12) .none kV12 dc12 pm12 an12 cd12 ct12), ["machine"], []⟩, ⟨a13, (PySem.W.fnOf "_law_well" "_law_well" (defArgs s13) (defBody s13) (defScope s13) .none kV13 dc13 pm13 an13 cd13 ct13), ["script"], []⟩, ⟨a14, (PySem.W.fnOf "_law_draw" "_law_draw" (defArgs s14) (defBody s14) (defScope s14) .none kV14 dc14 pm14 an14 cd14 ct14), ["well", "many"], []⟩, ⟨a15, (PySem.W.fnOf "_law_letters" "_law_letters" (defArgs s15) (defBody s15) (defScope s15) .none kV15 dc15 pm15 an15 cd15 ct15), ["well", "most"], []⟩, ⟨a16, (PySem.W.fnOf "_law_machine" "_law_machine" (defArgs s16) (defBody s16) (defScope s16) .none kV16 dc16 pm16 an16 cd16 ct16), ["well", "letters", "most", "resets"], []⟩, ⟨a17, (PySem.W.fnOf "_law_is" "_law_is" (defArgs s17) (defBody s17) (defScope s17) .none kV17 dc17 pm17 an17 cd17 ct17), ["told", "due"], []⟩, ⟨a18, (PySem.W.fnOf "_law_number" "_law_number" (defArgs s18) (defBody s18) (defScope s18) .none kV18 dc18 pm18 an18 cd18 ct18), ["thing", "low", "high"], []⟩, ⟨a19, (PySem.W.fnOf "_law_is_machine" "_law_is_machine" (defArgs s19) (defBody s19) (defScope s19) .none kV19 dc19 pm19 an19 cd19 ct19), ["letters", "thing"], []⟩, ⟨a20, (PySem.W.fnOf "_law_bent" "_law_bent" (defArgs s20) (defBody s20) (defScope s20) .none kV20 dc20 pm20 an20 cd20 ct20), ["well", "machine"], []⟩, ⟨a21, (PySem.W.fnOf "_law_told" "_law_told" (defArgs s21) (defBody s21) (defScope s21) .none kV21 dc21 pm21 an21 cd21 ct21), ["machine"], []⟩, ⟨a22, (PySem.W.fnOf "_law_many" "_law_many" (defArgs s22) (defBody s22) (defScope s22) .none kV22 dc22 pm22 an22 cd22 ct22), ["number"], []⟩, ⟨fa, (PySem.W.fnOf "law" "law" (defArgs s23) (defBody s23) (defScope s23) .none kV23 dc23 pm23 an23 cd23 ct23), ["script"], []⟩] : List FI).getD j ⟨fa, (PySem.W.fnOf "law" "law" (defArgs s23) (defBody s23) (defScope s23) .none kV23 dc23 pm23 an23 cd23 ct23), [], []⟩
  let ca : Nat → Addr := fun j => match nrm j with
    | 0 => C0
    | 1 => C1
    | _ => C0
  refine ⟨(PySem.W.fnOf "law" "law" (defArgs s23) (defBody s23) (defScope s23) .none kV23 dc23 pm23 an23 cd23 ct23), ca, fi, fun s u => .of_eq rfl, fun base _ _ => ?_⟩
  have A : PgF ⟨PySem.Challenge.rw_costslimited_k02_machines_judged.prog, w, K, mg, base, ca, fi⟩ pg shs bls rss 2 fnm clm := {
    defs := fun f F hF => by
      match f, hF with
      | 0, hF => cases hF; exact ⟨⟨_, _, s0, N0, fun_mk hl0 hc0 hk0, sc0, rfl, rfl, tx0, ck0⟩⟩
      | 1, hF => cases hF; exact ⟨⟨_, _, s1, N1, fun_mk hl1 hc1 hk1, sc1, rfl, rfl, tx1, ck1⟩⟩
      | 2, hF => cases hF; exact ⟨⟨_, _, s2, N2, fun_mk hl2 hc2 hk2, sc2, rfl, rfl, tx2, ck2⟩⟩
      | 3, hF => cases hF; exact ⟨⟨_, _, s3, N3, fun_mk hl3 hc3 hk3, sc3, rfl, rfl, tx3, ck3⟩⟩
      | 4, hF => cases hF; exact ⟨⟨_, _, s4, N4, fun_mk hl4 hc4 hk4, sc4, rfl, rfl, tx4, ck4⟩⟩
      | 5, hF => cases hF; exact ⟨⟨_, _, s5, N5, fun_mk hl5 hc5 hk5, sc5, rfl, rfl, tx5, ck5⟩⟩
      | 6, hF => cases hF; exact ⟨⟨_, _, s6, N6, fun_mk hl6 hc6 hk6, sc6, rfl, rfl, tx6, ck6⟩⟩
      | 7, hF => cases hF; exact ⟨⟨_, _, s7, N7, fun_mk hl7 hc7 hk7, sc7, rfl, rfl, tx7, ck7⟩⟩
      | 8, hF => cases hF; exact ⟨⟨_, _, s8, N8, fun_mk hl8 hc8 hk8, sc8, rfl, rfl, tx8, ck8⟩⟩
      | 9, hF => cases hF; exact ⟨⟨_, _, s9, N9, fun_mk hl9 hc9 hk9, sc9, rfl, rfl, tx9, ck9⟩⟩
      | 10, hF => cases hF; exact ⟨⟨_, _, s10, N10, fun_mk hl10 hc10 hk10, sc10, rfl, rfl, tx10, ck10⟩⟩
      | 11, hF => cases hF; exact ⟨⟨_, _, s11, N11, fun_mk hl11 hc11 hk11, sc11, rfl, rfl, tx11, ck11⟩⟩
      | 12, hF => cases hF; exact ⟨⟨_, _, s12, N12, fun_mk hl12 hc12 hk12, sc12, rfl, rfl, tx12, ck12⟩⟩
      | 13, hF => cases hF; exact ⟨⟨_, _, s13, N13, fun_mk hl13 hc13 hk13, sc13, rfl, rfl, tx13, ck13⟩⟩
      | 14, hF => cases hF; exact ⟨⟨_, _, s14, N14, fun_mk hl14 hc14 hk14, sc14, rfl, rfl, tx14, ck14⟩⟩
      | 15, hF => cases hF; exact ⟨⟨_, _, s15, N15, fun_mk hl15 hc15 hk15, sc15, rfl, rfl, tx15, ck15⟩⟩
      | 16, hF => cases hF; exact ⟨⟨_, _, s16, N16, fun_mk hl16 hc16 hk16, sc16, rfl, rfl, tx16, ck16⟩⟩
      | 17, hF => cases hF; exact ⟨⟨_, _, s17, N17, fun_mk hl17 hc17 hk17, sc17, rfl, rfl, tx17, ck17⟩⟩
      | 18, hF => cases hF; exact ⟨⟨_, _, s18, N18, fun_mk hl18 hc18 hk18, sc18, rfl, rfl, tx18, ck18⟩⟩
      | 19, hF => cases hF; exact ⟨⟨_, _, s19, N19, fun_mk hl19 hc19 hk19, sc19, rfl, rfl, tx19, ck19⟩⟩
      | 20, hF => cases hF; exact ⟨⟨_, _, s20, N20, fun_mk hl20 hc20 hk20, sc20, rfl, rfl, tx20, ck20⟩⟩
      | 21, hF => cases hF; exact ⟨⟨_, _, s21, N21, fun_mk hl21 hc21 hk21, sc21, rfl, rfl, tx21, ck21⟩⟩
      | 22, hF => cases hF; exact ⟨⟨_, _, s22, N22, fun_mk hl22 hc22 hk22, sc22, rfl, rfl, tx22, ck22⟩⟩
      | 23, hF => cases hF; exact ⟨⟨_, _, s23, N23, fun_mk hl23 hc23 hk23, sc23, rfl, rfl, tx23, ck23⟩⟩
      | n + 24, hF => cases hF
    bl := (List.forall_mem_cons.mpr ⟨PySem.W.mg_none_of X G zz0, (List.forall_mem_cons.mpr ⟨PySem.W.mg_none_of X G zz1, (List.forall_mem_cons.mpr ⟨PySem.W.mg_none_of X G zz2, (List.forall_mem_cons.mpr ⟨PySem.W.mg_none_of X G zz3, (List.forall_mem_cons.mpr ⟨PySem.W.mg_none_of X G zz4, (List.forall_mem_cons.mpr ⟨PySem.W.mg_none_of X G zz5, (List.forall_mem_cons.mpr ⟨PySem.W.mg_none_of X G zz6, (List.forall_mem_cons.mpr ⟨PySem.W.mg_none_of X G zz7, (List.forall_mem_cons.mpr ⟨PySem.W.mg_none_of X G zz8, (List.forall_mem_cons.mpr ⟨PySem.W.mg_none_of X G zz9, (List.forall_mem_cons.mpr ⟨PySem.W.mg_none_of X G zz10, (List.forall_mem_cons.mpr ⟨PySem.W.mg_none_of X G zz11, (List.forall_mem_cons.mpr ⟨PySem.W.mg_none_of X G zz12, (List.forall_mem_cons.mpr ⟨PySem.W.mg_none_of X G zz13, (List.forall_mem_cons.mpr ⟨PySem.W.mg_none_of X G zz14, (fun _ h => nomatch h)⟩)⟩)⟩)⟩)⟩)⟩)⟩)⟩)⟩)⟩)⟩)⟩)⟩)⟩)⟩)
    gl := fun x d hd => (show ∀ p ∈ gls, ∃ u v, mg p.1 = some u ∧ RelV v u ∧ ∀ H, RD K H p.2 v from (List.forall_mem_cons.mpr ⟨⟨_, (.str "0123456789"), PySem.W.mg_of X G gg0, ⟨_, rfl⟩, fun _ => rfl⟩, (List.forall_mem_cons.mpr ⟨⟨_, (.int 10), PySem.W.mg_of X G gg1, ⟨_, rfl⟩, fun _ => rfl⟩, (List.forall_mem_cons.mpr ⟨⟨_, (.int 50), PySem.W.mg_of X G gg2, ⟨_, rfl⟩, fun _ => rfl⟩, (List.forall_mem_cons.mpr ⟨⟨_, (.int 6), PySem.W.mg_of X G gg3, ⟨_, rfl⟩, fun _ => rfl⟩, (List.forall_mem_cons.mpr ⟨⟨_, (.int 5000), PySem.W.mg_of X G gg4, ⟨_, rfl⟩, fun _ => rfl⟩, (List.forall_mem_cons.mpr ⟨⟨_, (.int 12), PySem.W.mg_of X G gg5, ⟨_, rfl⟩, fun _ => rfl⟩, (List.forall_mem_cons.mpr ⟨⟨_, (.int (-1)), PySem.W.mg_of X G gg6, ⟨_, rfl⟩, fun _ => rfl⟩, (List.forall_mem_cons.mpr ⟨⟨_, (.str "abcdefghijklmnopqrstuvwxyz"), PySem.W.mg_of X G gg7, ⟨_, rfl⟩, fun _ => rfl⟩, (fun _ h => nomatch h)⟩)⟩)⟩)⟩)⟩)⟩)⟩)⟩)) (x, d) (gl_mem hd)
    sh := (List.forall_mem_cons.mpr ⟨⟨PySem.W.mg_of X G ha0, hk0, ⟨_, rfl⟩, fun st us ws h1 h2 => match us, h1, ws, h2 with | [_], _, [], _ => .of_eq rfl⟩, (List.forall_mem_cons.mpr ⟨⟨PySem.W.mg_of X G ha1, hk1, ⟨_, rfl⟩, fun st us ws h1 h2 => match us, h1, ws, h2 with | [_, _, _], _, [], _ => .of_eq rfl⟩, (List.forall_mem_cons.mpr ⟨⟨PySem.W.mg_of X G ha4, hk4, ⟨_, rfl⟩, fun st us ws h1 h2 => match us, h1, ws, h2 with | [_], _, [], _ => .of_eq rfl⟩, (List.forall_mem_cons.mpr ⟨⟨PySem.W.mg_of X G ha2, hk2, ⟨_, rfl⟩, fun st us ws h1 h2 => match us, h1, ws, h2 with | [_, _, _], _, [], _ => .of_eq rfl⟩, (List.forall_mem_cons.mpr ⟨⟨PySem.W.mg_of X G ha3, hk3, ⟨_, rfl⟩, fun st us ws h1 h2 => match us, h1, ws, h2 with | [_], _, [], _ => .of_eq rfl⟩, (List.forall_mem_cons.mpr ⟨⟨PySem.W.mg_of X G ha6, hk6, ⟨_, rfl⟩, fun st us ws h1 h2 => match us, h1, ws, h2 with | [_], _, [], _ => .of_eq rfl⟩, (List.forall_mem_cons.mpr ⟨⟨PySem.W.mg_of X G ha5, hk5, ⟨_, rfl⟩, fun st us ws h1 h2 => match us, h1, ws, h2 with | [_, _], _, [], _ => .of_eq rfl⟩, (List.forall_mem_cons.mpr ⟨⟨PySem.W.mg_of X G ha7, hk7, ⟨_, rfl⟩, fun st us ws h1 h2 => match us, h1, ws, h2 with | [_, _, _], _, [], _ => .of_eq rfl⟩, (List.forall_mem_cons.mpr ⟨⟨PySem.W.mg_of X G ha8, hk8, ⟨_, rfl⟩, fun st us ws h1 h2 => match us, h1, ws, h2 with | [_], _, [], _ => .of_eq rfl⟩, (List.forall_mem_cons.mpr ⟨⟨PySem.W.mg_of X G ha9, hk9, ⟨_, rfl⟩, fun st us ws h1 h2 => match us, h1, ws, h2 with | [_], _, [], _ => .of_eq rfl⟩, (List.forall_mem_cons.mpr ⟨⟨PySem.W.mg_of X G ha10, hk10, ⟨_, rfl⟩, fun st us ws h1 h2 => match us, h1, ws, h2 with | [_], _, [], _ => .of_eq rfl⟩, (List.forall_mem_cons.mpr ⟨⟨PySem.W.mg_of X G ha11, hk11, ⟨_, rfl⟩, fun st us ws h1 h2 => match us, h1, ws, h2 with | [_], _, [], _ => .of_eq rfl⟩, (List.forall_mem_cons.mpr ⟨⟨PySem.W.mg_of X G ha14, hk14, ⟨_, rfl⟩, fun st us ws h1 h2 => match us, h1, ws, h2 with | [_, _], _, [], _ => .of_eq rfl⟩, (List.forall_mem_cons.mpr ⟨⟨PySem.W.mg_of X G ha18, hk18, ⟨_, rfl⟩, fun st us ws h1 h2 => match us, h1, ws, h2 with | [_, _, _], _, [], _ => .of_eq rfl⟩, (List.forall_mem_cons.mpr ⟨⟨PySem.W.mg_of X G ha12, hk12, ⟨_, rfl⟩, fun st us ws h1 h2 => match us, h1, ws, h2 with | [_], _, [], _ => .of_eq rfl⟩, (List.forall_mem_cons.mpr ⟨⟨PySem.W.mg_of X G ha13, hk13, ⟨_, rfl⟩, fun st us ws h1 h2 => match us, h1, ws, h2 with | [_], _, [], _ => .of_eq rfl⟩, (List.forall_mem_cons.mpr ⟨⟨PySem.W.mg_of X G ha15, hk15, ⟨_, rfl⟩, fun st us ws h1 h2 => match us, h1, ws, h2 with | [_, _], _, [], _ => .of_eq rfl⟩, (List.forall_mem_cons.mpr ⟨⟨PySem.W.mg_of X G ha16, hk16, ⟨_, rfl⟩, fun st us ws h1 h2 => match us, h1, ws, h2 with | [_, _, _, _], _, [], _ => .of_eq rfl⟩, (List.forall_mem_cons.mpr ⟨⟨PySem.W.mg_of X G ha12, hk12, ⟨_, rfl⟩, fun st us ws h1 h2 => match us, h1, ws, h2 with | [], _, [_], _ => .of_eq rfl⟩, (List.forall_mem_cons.mpr ⟨⟨PySem.W.mg_of X G ha17, hk17, ⟨_, rfl⟩, fun st us ws h1 h2 => match us, h1, ws, h2 with | [_, _], _, [], _ => .of_eq rfl⟩, (List.forall_mem_cons.mpr ⟨⟨PySem.W.mg_of X G ha20, hk20, ⟨_, rfl⟩, fun st us ws h1 h2 => match us, h1, ws, h2 with | [_, _], _, [], _ => .of_eq rfl⟩, (List.forall_mem_cons.mpr ⟨⟨PySem.W.mg_of X G ha19, hk19, ⟨_, rfl⟩, fun st us ws h1 h2 => match us, h1, ws, h2 with | [_, _], _, [], _ => .of_eq rfl⟩, (List.forall_mem_cons.mpr ⟨⟨PySem.W.mg_of X G ha9, hk9, ⟨_, rfl⟩, fun st us ws h1 h2 => match us, h1, ws, h2 with | [], _, [_], _ => .of_eq rfl⟩, (List.forall_mem_cons.mpr ⟨⟨PySem.W.mg_of X G ha21, hk21, ⟨_, rfl⟩, fun st us ws h1 h2 => match us, h1, ws, h2 with | [_], _, [], _ => .of_eq rfl⟩, (List.forall_mem_cons.mpr ⟨⟨PySem.W.mg_of X G ha22, hk22, ⟨_, rfl⟩, fun st us ws h1 h2 => match us, h1, ws, h2 with | [_], _, [], _ => .of_eq rfl⟩, (fun _ h => nomatch h)⟩)⟩)⟩)⟩)⟩)⟩)⟩)⟩)⟩)⟩)⟩)⟩)⟩)⟩)⟩)⟩)⟩)⟩)⟩)⟩)⟩)⟩)⟩)⟩)⟩)
    ex := fun i k => by
      show PySem.W.exmOne K (.ref (ca i)) (.ref (ca k)) = some (sub i k)
      dsimp only [ca]
      unfold sub
      rcases nrm_or i with e1 | e1 <;> rcases nrm_or k with e2 | e2 <;> rw [e1, e2]
      · exact exm_pair qb0 qi0 qt0 qs0_0
      · exact exm_pair qb1 qi1 qt1 qs0_1
      · exact exm_pair qb0 qi0 qt0 qs1_0
      · exact exm_pair qb1 qi1 qt1 qs1_1
    nm := fun k hk => by
      match k, hk with
      | 0, _ => exact PySem.W.mg_of X G qa0
      | 1, _ => exact PySem.W.mg_of X G qa1
      | n + 2, hk => exact absurd hk (by omega)
    rs := (List.forall_mem_cons.mpr ⟨fun X1 hK hM hg m p1 p2 p3 => pmk_own PySem.F.excBase_ValueError (by rw [hK]; exact qx1) (by rw [hM]; exact PySem.W.mg_of X G qa1) (by rw [hK]; exact qk1) (raises_own (by rw [hK]; exact qb1) (by rw [hK]; exact qt1)) hg (by decide +kernel), (fun _ h => nomatch h)⟩) }
  exact prog_ok A 40 23
end L_k02
section
set_option maxRecDepth 100000
set_option maxHeartbeats 0
namespace L_k02
open Mi
theorem g1 : pg.glob "LONGEST_NAME" = some (.int 10) := rfl
theorem g2 : pg.glob "SMALL_LETTERS" = some (.str "abcdefghijklmnopqrstuvwxyz") := rfl
theorem g3 : pg.glob "DIGITS" = some (.str "0123456789") := rfl
theorem g4 : pg.glob "MOST_LETTERS" = some (.int 6) := rfl
theorem g5 : pg.glob "RESET_COST" = some (.int (-1)) := rfl
theorem g6 : pg.glob "MOST_COST" = some (.int 50) := rfl
theorem g7 : pg.glob "MOST_STATES" = some (.int 12) := rfl
theorem g8 : pg.glob "MOST_MOVES" = some (.int 5000) := rfl
theorem r0 (k : Nat) (d : D) (h : okd d) : pg.run (k + 1) 0 [.leaf d] = .ret (.leaf (.bl (isInt d))) [none] := by
  rw [run_eq (F := f0) rfl]; exact isInt_ok _ _ _ d h
theorem r1 (k : Nat) (d : D) (h : okd d) (lo hi : Int) : pg.run (k + 2) 1 [.leaf d, .leaf (.int lo), .leaf (.int hi)] = .ret (.leaf (.bl (wit lo hi d))) [none, none, none] := by
  rw [run_eq (F := f1) rfl]; exact within_ok 0 _ _ _ (r0 k) d h lo hi
theorem r2 (k : Nat) (d : D) (h : okd d) (lo hi : Int) : pg.run (k + 1) 2 [.leaf d, .leaf (.int lo), .leaf (.int hi)] = .ret (.leaf (.bl (isTupN lo hi d))) [none, none, none] := by
  rw [run_eq (F := f2) rfl]; exact isRow_ok _ _ _ d h lo hi
def small : PySem.Str := "abcdefghijklmnopqrstuvwxyz"
def digits : PySem.Str := "0123456789"
theorem g2' : pg.glob "SMALL_LETTERS" = some (.str small) := rfl
theorem g3' : pg.glob "DIGITS" = some (.str digits) := rfl
theorem low_gen (k : Nat) (s : PySem.Str) (n : Nat) (c : Nat) (r : List Nat) (hn : s.length = n) (h1 : 1 ≤ n) (h10 : n ≤ 10) (hc : s.cps.toList = c :: r) (h0 : strIn ⟨#[c]⟩ small = true) (hall : ((c :: r).all fun c => strIn ⟨#[c]⟩ small || strIn ⟨#[c]⟩ digits) = true) : pg.run (k + 1) 3 [.leaf (.str s)] = .ret (.leaf (.bl true)) [none] := by
  rw [run_eq (F := f3) rfl]
  have e1 : db .len [.str s] = some (.leaf (.int (n : Int))) := by
    rw [db_len]
    show (if s.length ≤ line then some s.length else none).map _ = _
    rw [if_pos (by rw [hn]; unfold line; omega), hn]; rfl
  have e2 : dIx (.str s) (.int 0) = some (.str ⟨#[c]⟩) := by
    show (if s.length ≤ line then (L2.atI s.cps.toList 0).map fun c => D.str ⟨#[c]⟩ else none) = _
    rw [if_pos (by rw [hn]; unfold line; omega), hc]
    simp [L2.atI, L2.ixN]
  have e3 : dIn (.str ⟨#[c]⟩) (.str small) = some true := by show some (strIn ⟨#[c]⟩ small) = _; rw [h0]
  have e4 : dWalk (.str s) = some ((c :: r).map fun c => .str ⟨#[c]⟩) := by
    show (if s.length ≤ line then some (s.cps.toList.map fun c => D.str ⟨#[c]⟩) else none) = _
    rw [if_pos (by rw [hn]; unfold line; omega), hc]
  have l1 : ev ⟨pg.run k, pg.glob, [], pg.sub⟩ (.lc (.bop false (.cmp .inn (.get 1) (.gl "SMALL_LETTERS")) (.cons (.cmp .inn (.get 1) (.gl "DIGITS")) .nil)) (.nm 1) (.d (.fz 0)) .nil [1]) [some (.leaf (.str s)), none] = .ok (.lst ((c :: r).map fun c => .leaf (.bl (strIn ⟨#[c]⟩ small || strIn ⟨#[c]⟩ digits)))) [some (.leaf (.str s)), none] := by
    rw [lc_map ⟨pg.run k, pg.glob, [], pg.sub⟩ (e1 := [some (.leaf (.str s)), none]) (c :: r) (fun c => .str ⟨#[c]⟩) fun c => .leaf (.bl (strIn ⟨#[c]⟩ small || strIn ⟨#[c]⟩ digits))]
    · rfl
    · simp [-R.bind, -R.thn, -S.thn, ↓bind_eq, ↓rthn_eq, ↓sthn_eq, runFn, Fn.start, outsOf, range0, range1, range2, range3, range4, exs, ex, exh, ev, evs, evA, evK, evB, evP, evI, evO, getL, setE, T.at1, T.fz, T.fzs, d2, dLt, dLen, dTy, dIsi, dIs, optR, leafR, blR, onBl, mulOk, takeAr, putAr, bindTg, wipe, back, dc, eqv_int, eqv_bl, eqv_str, D.ok, kN_int, kN_bl, kN_non, e4]
    · intro d _
      refine ⟨[some (.leaf (.str s)), some (.leaf (.str ⟨#[d]⟩))], ?_, rfl⟩
      have q1 : dIn (.str ⟨#[d]⟩) (.str small) = some (strIn ⟨#[d]⟩ small) := rfl
      have q2 : dIn (.str ⟨#[d]⟩) (.str digits) = some (strIn ⟨#[d]⟩ digits) := rfl
      cases b : strIn ⟨#[d]⟩ small <;> rw [b] at q1 <;> simp [-R.bind, -R.thn, -S.thn, ↓bind_eq, ↓rthn_eq, ↓sthn_eq, runFn, Fn.start, outsOf, range0, range1, range2, range3, range4, exs, ex, exh, ev, evs, evA, evK, evB, evP, evI, evO, getL, setE, T.at1, T.fz, T.fzs, d2, dLt, dLen, dTy, dIsi, dIs, optR, leafR, blR, onBl, mulOk, takeAr, putAr, bindTg, wipe, back, dc, eqv_int, eqv_bl, eqv_str, D.ok, kN_int, kN_bl, kN_non, lcB1, g2', g3', q1, q2]
  have e5 := db_all_map (c :: r) fun c => strIn ⟨#[c]⟩ small || strIn ⟨#[c]⟩ digits
  rw [hall] at e5
  generalize c :: r = cs at l1 e5
  have i1 : (1 : Int) ≤ (n : Int) := by omega
  have i2 : (n : Int) ≤ 10 := by omega
  simp [-R.bind, -R.thn, -S.thn, ↓bind_eq, ↓rthn_eq, ↓sthn_eq, runFn, Fn.start, outsOf, range0, range1, range2, range3, range4, exs, ex, exh, ev, evs, evA, evK, evB, evP, evI, evO, getL, setE, T.at1, T.fz, T.fzs, d2, dLt, dLen, dTy, dIsi, dIs, optR, leafR, blR, onBl, mulOk, takeAr, putAr, bindTg, wipe, back, dc, eqv_int, eqv_bl, eqv_str, D.ok, kN_int, kN_bl, kN_non, f3, e1, e2, e3, g1, g2', i1, i2, ↓l1, fzs_leaf, e5]
theorem low_no (k : Nat) (s : PySem.Str) (n : Nat) (c : Nat) (r : List Nat) (hn : s.length = n) (h1 : 1 ≤ n) (h10 : n ≤ 10) (hc : s.cps.toList = c :: r) (h0 : strIn ⟨#[c]⟩ small = false) : pg.run (k + 1) 3 [.leaf (.str s)] = .ret (.leaf (.bl false)) [none] := by
  rw [run_eq (F := f3) rfl]
  have e1 : db .len [.str s] = some (.leaf (.int (n : Int))) := by
    rw [db_len]
    show (if s.length ≤ line then some s.length else none).map _ = _
    rw [if_pos (by rw [hn]; unfold line; omega), hn]; rfl
  have e2 : dIx (.str s) (.int 0) = some (.str ⟨#[c]⟩) := by
    show (if s.length ≤ line then (L2.atI s.cps.toList 0).map fun c => D.str ⟨#[c]⟩ else none) = _
    rw [if_pos (by rw [hn]; unfold line; omega), hc]
    simp [L2.atI, L2.ixN]
  have e3 : dIn (.str ⟨#[c]⟩) (.str small) = some false := by show some (strIn ⟨#[c]⟩ small) = _; rw [h0]
  have i1 : (1 : Int) ≤ (n : Int) := by omega
  have i2 : (n : Int) ≤ 10 := by omega
  simp [-R.bind, -R.thn, -S.thn, ↓bind_eq, ↓rthn_eq, ↓sthn_eq, runFn, Fn.start, outsOf, range0, range1, range2, range3, range4, exs, ex, exh, ev, evs, evA, evK, evB, evP, evI, evO, getL, setE, T.at1, T.fz, T.fzs, d2, dLt, dLen, dTy, dIsi, dIs, optR, leafR, blR, onBl, mulOk, takeAr, putAr, bindTg, wipe, back, dc, eqv_int, eqv_bl, eqv_str, D.ok, kN_int, kN_bl, kN_non, f3, e1, e2, e3, g1, g2', i1, i2]
theorem r3 (k : Nat) (s : PySem.Str) (h : s ∈ namesS) : pg.run (k + 1) 3 [.leaf (.str s)] = .ret (.leaf (.bl true)) [none] := by
  simp only [namesS, List.mem_cons, List.not_mem_nil, or_false] at h
  rcases h with rfl | rfl | rfl | rfl | rfl | rfl
  · exact low_gen k _ 1 97 [] (by decide +kernel) (by omega) (by omega) (by decide +kernel) (by decide +kernel) (by decide +kernel)
  · exact low_gen k _ 1 98 [] (by decide +kernel) (by omega) (by omega) (by decide +kernel) (by decide +kernel) (by decide +kernel)
  · exact low_gen k _ 2 120 [49] (by decide +kernel) (by omega) (by omega) (by decide +kernel) (by decide +kernel) (by decide +kernel)
  · exact low_gen k _ 3 122 [122, 57] (by decide +kernel) (by omega) (by omega) (by decide +kernel) (by decide +kernel) (by decide +kernel)
  · exact low_gen k _ 10 99 [48, 99, 48, 99, 48, 99, 48, 99, 48] (by decide +kernel) (by omega) (by omega) (by decide +kernel) (by decide +kernel) (by decide +kernel)
  · exact low_gen k _ 1 100 [] (by decide +kernel) (by omega) (by omega) (by decide +kernel) (by decide +kernel) (by decide +kernel)
theorem r3A (k : Nat) : pg.run (k + 1) 3 [.leaf (.str "A")] = .ret (.leaf (.bl false)) [none] :=
  low_no k _ 1 65 [] (by decide +kernel) (by omega) (by omega) (by decide +kernel) (by decide +kernel)
theorem r4 (k : Nat) (ns : List Int) : pg.run (k + 1) 4 [.leaf (.tup (ns.map .int))] = .ret (.leaf (.bl (ascB ns))) [none] := by
  rw [run_eq (F := f4) rfl]; exact asc_ok _ _ _ ns
theorem r5 (k : Nat) (d : D) (n : Nat) (h : D.okN n d = true) (many : Int) : pg.run (k + 3) 5 [.leaf d, .leaf (.int many)] = .ret (.leaf (.bl (idxB many d))) [none, none] := by
  rw [run_eq (F := f5) rfl]; exact idx_ok 1 4 _ _ _ (r1 k) (r4 (k + 1)) d n h many
theorem r6 (k : Nat) (a b : Nat) (ha : a < 6) (hb : b < 4) : pg.run (k + 2) 6 [.leaf (.tup (letD a b))] = .ret (.leaf (.bl true)) [none] := by
  rw [run_eq (F := f6) rfl]
  have l := letS_len ha hb
  have := let_all 2 3 (pg.run (k + 1)) pg.glob pg.sub g4 (r2 k) (letS a b) (fun _ => true) (fun s hs => r3 k s (letS_mem hs)) (by omega) (by omega)
  rw [letS_cnt ha hb, l] at this
  have e : ((letS a b).all (fun _ => true) && decide (1 + b = 1 + b)) = true := by simp
  rw [e] at this
  exact this
theorem r6n (k : Nat) : pg.run (k + 2) 6 [.leaf (.tup [])] = .ret (.leaf (.bl false)) [none] := by
  rw [run_eq (F := f6) rfl]
  exact let_no 2 3 _ _ _ g4 (r2 k) _ trivial rfl
theorem r6A (k : Nat) : pg.run (k + 2) 6 [.leaf (.tup [.str "A"])] = .ret (.leaf (.bl false)) [none] := by
  rw [run_eq (F := f6) rfl]
  have := let_all 2 3 (pg.run (k + 1)) pg.glob pg.sub g4 (r2 k) ["A"] (fun _ => false) (fun s hs => by rw [List.mem_singleton.mp hs]; exact r3A k) (by simp) (by simp)
  exact this

theorem lenL {a b : Nat} (ha : a < 6) (hb : b < 4) : dLen (.tup (letD a b)) = some (1 + b) := by
  show some (letD a b).length = _
  unfold letD
  rw [List.length_map, letS_len ha hb]
/-- six letters -/
def sixS : List PySem.Str := ["a", "b", "c", "d", "e", "f"]
theorem r3s (k : Nat) (s : PySem.Str) (h : s ∈ sixS) : pg.run (k + 1) 3 [.leaf (.str s)] = .ret (.leaf (.bl true)) [none] := by
  simp only [sixS, List.mem_cons, List.not_mem_nil, or_false] at h
  rcases h with rfl | rfl | rfl | rfl | rfl | rfl
  · exact low_gen k _ 1 97 [] (by decide +kernel) (by omega) (by omega) (by decide +kernel) (by decide +kernel) (by decide +kernel)
  · exact low_gen k _ 1 98 [] (by decide +kernel) (by omega) (by omega) (by decide +kernel) (by decide +kernel) (by decide +kernel)
  · exact low_gen k _ 1 99 [] (by decide +kernel) (by omega) (by omega) (by decide +kernel) (by decide +kernel) (by decide +kernel)
  · exact low_gen k _ 1 100 [] (by decide +kernel) (by omega) (by omega) (by decide +kernel) (by decide +kernel) (by decide +kernel)
  · exact low_gen k _ 1 101 [] (by decide +kernel) (by omega) (by omega) (by decide +kernel) (by decide +kernel) (by decide +kernel)
  · exact low_gen k _ 1 102 [] (by decide +kernel) (by omega) (by omega) (by decide +kernel) (by decide +kernel) (by decide +kernel)
theorem r6s (k : Nat) : pg.run (k + 2) 6 [.leaf (.tup (sixS.map .str))] = .ret (.leaf (.bl true)) [none] := by
  rw [run_eq (F := f6) rfl]
  have := let_all 2 3 (pg.run (k + 1)) pg.glob pg.sub g4 (r2 k) sixS (fun _ => true) (fun s hs => r3s k s hs) (by decide) (by decide)
  have e : (sixS.all (fun _ => true) && decide (cntF sixS sixS.length = sixS.length)) = true := by decide +kernel
  rw [e] at this
  exact this
theorem r6l (k : Nat) (xs : List D) : pg.run (k + 2) 6 [.leaf (.lst xs)] = .ret (.leaf (.bl false)) [none] := by
  rw [run_eq (F := f6) rfl]
  exact let_no 2 3 _ _ _ g4 (r2 k) _ trivial rfl
theorem r4r (k : Nat) (rs : List (List Int)) : pg.run (k + 1) 4 [.leaf (.tup (rs.map rowT))] = .ret (.leaf (.bl (ascR rs))) [none] := by
  rw [run_eq (F := f4) rfl]; exact asc_okR _ _ _ rs
theorem r7 (k : Nat) (d : D) (n : Nat) (h : D.okN n d = true) (j m : Int) : pg.run (k + 3) 7 [.leaf (.int j), .leaf (.int m), .leaf d] = .ret (.leaf (.bl (moveB j m d))) [none, none, none] := by
  rw [run_eq (F := f7) rfl]; exact move_ok 2 1 _ _ _ (r2 (k + 1)) (r1 k) g5 g6 j m d n h
theorem r8 (k : Nat) (L N S E M : D) (j n : Nat) (hL : pg.run (k + 3) 6 [.leaf L] = .ret (.leaf (.bl true)) [none]) (hk : dLen L = some j) (oN : okd N) (oS : D.okN n S = true) (oE : D.okN n E = true) (oM : D.okN n M = true) : pg.run (k + 4) 8 [.leaf (.tup [L, N, S, E, M])] = .ret (.leaf (.bl (anyB j N S E M))) [none] := by
  rw [run_eq (F := f8) rfl]
  exact any_ok 2 6 0 5 7 4 (pg.run (k + 3)) pg.glob pg.sub (r2 (k + 2)) (r0 (k + 2)) (fun d n h m => r5 k d n h m) (fun d n h a b => r7 k d n h a b) (r4r (k + 2)) L N S E M j n hL hk oN oS oE oM
theorem r8n (k : Nat) (L N S E M : D) (hL : pg.run (k + 3) 6 [.leaf L] = .ret (.leaf (.bl false)) [none]) : pg.run (k + 4) 8 [.leaf (.tup [L, N, S, E, M])] = .ret (.leaf (.bl false)) [none] := by
  rw [run_eq (F := f8) rfl]
  exact any_noL 2 6 0 5 7 4 (pg.run (k + 3)) pg.glob pg.sub (r2 (k + 2)) (r0 (k + 2)) (fun d n h m => r5 k d n h m) (fun d n h a b => r7 k d n h a b) (r4r (k + 2)) L N S E M hL
theorem r9n (k : Nat) (d : D) (h : okd d) (h5 : isTupN 5 5 d = false) : pg.run (k + 5) 9 [.leaf d] = .ret (.leaf (.bl false)) [none] := by
  rw [run_eq (F := f9) rfl]; exact mach_no5 2 1 8 _ _ _ (r2 (k + 3)) (r1 (k + 2)) g7 g8 d h h5
theorem r9 (k : Nat) (L N S E M : D) (j n : Nat) (hL : pg.run (k + 3) 6 [.leaf L] = .ret (.leaf (.bl true)) [none]) (hk : dLen L = some j) (oN : okd N) (oS : D.okN n S = true) (oE : D.okN n E = true) (oM : D.okN n M = true) : pg.run (k + 5) 9 [.leaf (.tup [L, N, S, E, M])] = .ret (.leaf (.bl (machB j N S E M))) [none] := by
  rw [run_eq (F := f9) rfl]; exact mach_ok 2 1 8 _ _ _ (r2 (k + 3)) (r1 (k + 2)) g7 g8 L N S E M oN (okd_of oM) _ (r8 k L N S E M j n hL hk oN oS oE oM)
theorem r9L (k : Nat) (L N S E M : D) (oN : okd N) (oM : okd M) (hL : pg.run (k + 3) 6 [.leaf L] = .ret (.leaf (.bl false)) [none]) : pg.run (k + 5) 9 [.leaf (.tup [L, N, S, E, M])] = .ret (.leaf (.bl false)) [none] := by
  rw [run_eq (F := f9) rfl]
  have q := mach_ok 2 1 8 (pg.run (k + 4)) pg.glob pg.sub (r2 (k + 3)) (r1 (k + 2)) g7 g8 L N S E M oN oM false (r8n k L N S E M hL)
  rw [Bool.and_false, Bool.and_false] at q
  exact q
theorem r18 (k : Nat) (d : D) (h : okd d) (lo hi : Int) : pg.run (k + 1) 18 [.leaf d, .leaf (.int lo), .leaf (.int hi)] = .ret (.leaf (.bl (wit lo hi d))) [none, none, none] := by
  rw [run_eq (F := f18) rfl]; exact num_ok _ _ _ d h lo hi
theorem r19 (k : Nat) (L N S E M : D) (j n : Nat) (oL : D.okN 60 L = true) (hk : dLen L = some j) (oN : okd N) (oS : D.okN n S = true) (oE : D.okN n E = true) (oM : D.okN n M = true) (szS : S.items.length ≤ line) (szE : E.items.length ≤ line) (szM : M.items.length ≤ line) : pg.run (k + 2) 19 [.leaf L, .leaf (.tup [L, N, S, E, M])] = .ret (.leaf (.bl (lawM j N S E M))) [none, none] := by
  rw [run_eq (F := f19) rfl]; exact lj_ok 18 _ _ _ (r18 k) L N S E M j n oL hk oN oS oE oM szS szE szM
theorem r19n (k : Nat) (L d : D) (h : okd d) (h5 : isTupN 5 5 d = false) : pg.run (k + 2) 19 [.leaf L, .leaf d] = .ret (.leaf (.bl false)) [none, none] := by
  rw [run_eq (F := f19) rfl]; exact lj_no 18 _ _ _ (r18 k) L d h h5
theorem r19L (k : Nat) (L L' N S E M : D) (o1 : D.okN 60 L = true) (o2 : D.okN 60 L' = true) (hne : D.eqv L' L = false) : pg.run (k + 2) 19 [.leaf L, .leaf (.tup [L', N, S, E, M])] = .ret (.leaf (.bl false)) [none, none] := by
  rw [run_eq (F := f19) rfl]; exact lj_noL 18 _ _ _ (r18 k) L L' N S E M o1 o2 hne
/-- the two judges say the same -/
theorem mach_law {j : Int} {N S E M : D} (h : M.items.length ≤ 5000) : machB j N S E M = lawM j N S E M := by
  unfold machB lawM
  cases bN : wit 1 12 N with
  | false => rfl
  | true =>
    obtain ⟨v, rfl⟩ : ∃ v, N = .int v := by cases N with | int v => exact ⟨v, rfl⟩ | _ => cases bN
    have hv : (decide (1 ≤ v) && decide (v ≤ 12)) = true := bN
    rw [Bool.and_eq_true, decide_eq_true_eq] at hv
    have ha : anyB j (.int v) S E M = ((idxB v S && idxB v E) && movesB j v M) := by
      show (true && decide (1 ≤ v) && _) = _
      rw [decide_eq_true hv.1]; rfl
    rw [ha, Bool.true_and, Bool.true_and]
    show (isTupN 0 5000 M && ((idxB v S && idxB v E) && movesB j v M)) = ((isTup S && (isTup E && isTup M)) && ((idxB v S && idxB v E) && movesB j v M))
    cases S with
    | tup ss => cases E with
      | tup es => cases M with
        | tup ms =>
          have : isTupN 0 5000 (.tup ms) = true := by
            have h' : ms.length ≤ 5000 := h
            show (decide ((0 : Int) ≤ (ms.length : Int)) && decide ((ms.length : Int) ≤ 5000)) = true
            rw [decide_eq_true (by omega), decide_eq_true (by omega)]; rfl
          rw [this]; rfl
        | _ => simp [movesB]
      | _ => simp [idxB]
    | _ => simp [idxB]
theorem r10 (k : Nat) (d : D) (b : Bool) (h : pg.run (k + 5) 9 [.leaf d] = .ret (.leaf (.bl b)) [none]) : pg.run (k + 6) 10 [.leaf d] = if b then .ret (.leaf .non) [none] else .exc ⟨1, .non⟩ [none] := by
  rw [run_eq (F := f10) rfl]
  cases b <;> simp [-R.bind, -R.thn, -S.thn, ↓bind_eq, ↓rthn_eq, ↓sthn_eq, runFn, Fn.start, outsOf, range0, range1, range2, range3, range4, exs, ex, exh, ev, evs, evA, evK, evB, evP, evI, evO, getL, setE, T.at1, T.fz, T.fzs, d2, dLt, dLen, dTy, dIsi, dIs, optR, leafR, blR, onBl, mulOk, takeAr, putAr, bindTg, wipe, back, dc, eqv_int, eqv_bl, eqv_str, D.ok, kN_int, kN_bl, kN_non, f10, h]
theorem r12x (k : Nat) (d : D) (h : pg.run (k + 5) 9 [.leaf d] = .ret (.leaf (.bl false)) [none]) : pg.run (k + 7) 12 [.leaf d] = .exc ⟨1, .non⟩ [none] := by
  rw [run_eq (F := f12) rfl]
  have q := r10 k d false h
  simp only [Bool.false_eq_true, if_false] at q
  simp [-R.bind, -R.thn, -S.thn, ↓bind_eq, ↓rthn_eq, ↓sthn_eq, runFn, Fn.start, outsOf, range0, range1, range2, range3, range4, exs, ex, exh, ev, evs, evA, evK, evB, evP, evI, evO, getL, setE, T.at1, T.fz, T.fzs, d2, dLt, dLen, dTy, dIsi, dIs, optR, leafR, blR, onBl, mulOk, takeAr, putAr, bindTg, wipe, back, dc, eqv_int, eqv_bl, eqv_str, D.ok, kN_int, kN_bl, kN_non, f12, q]
/-! ### resets -/
def resB (rs : List (List Int)) : Bool := rs.any fun r => r.getD 2 0 == -1
theorem Mv_ix2 {j m : Nat} {r : List Int} (h : Mv j m r) : dIx (rowT r) (.int 2) = some (.int (r.getD 2 0)) ∧ -1 ≤ r.getD 2 0 := by
  obtain ⟨p, a, q, c, rfl, _, _, _, h4, _⟩ := h
  exact ⟨by unfold rowT; rw [dIx_tup]; simp [L2.atI, L2.ixN], h4⟩
theorem mach_ix4 (L : D) (m : Nat) (ss es : List Nat) (rs : List (List Int)) : dIx (machD L m ss es rs) (.int 4) = some (.tup (rs.map rowT)) := by
  unfold machD; rw [dIx_tup]; simp [L2.atI, L2.ixN]
theorem r11 (k : Nat) (L : D) {j m : Nat} {ss es : List Nat} {rs : List (List Int)} (h : Mach j m ss es rs) : pg.run (k + 1) 11 [.leaf (machD L m ss es rs)] = .ret (.leaf (.bl (resB rs))) [none] := by
  rw [run_eq (F := f11) rfl]
  have l1 : ev ⟨pg.run k, pg.glob, [], pg.sub⟩ (.lc (.cmp .eq (.idx (.get 1) (.int 2)) (.gl "RESET_COST")) (.nm 1) (.d (.idx (.fz 0) (.int 4))) .nil [1]) [some (.leaf (machD L m ss es rs)), none] = .ok (.lst (rs.map fun r => .leaf (.bl (r.getD 2 0 == -1)))) [some (.leaf (machD L m ss es rs)), none] := by
    rw [lc_map ⟨pg.run k, pg.glob, [], pg.sub⟩ (e1 := [some (.leaf (machD L m ss es rs)), none]) rs rowT fun r => .leaf (.bl (r.getD 2 0 == -1))]
    · rfl
    · simp [-R.bind, -R.thn, -S.thn, ↓bind_eq, ↓rthn_eq, ↓sthn_eq, runFn, Fn.start, outsOf, range0, range1, range2, range3, range4, exs, ex, exh, ev, evs, evA, evK, evB, evP, evI, evO, getL, setE, T.at1, T.fz, T.fzs, d2, dLt, dLen, dTy, dIsi, dIs, optR, leafR, blR, onBl, mulOk, takeAr, putAr, bindTg, wipe, back, dc, eqv_int, eqv_bl, eqv_str, D.ok, kN_int, kN_bl, kN_non, mach_ix4, dWalk]
    · intro r hr
      obtain ⟨q, _⟩ := Mv_ix2 (h.mv r hr)
      generalize r.getD 2 0 = c at q
      generalize rowT r = R at q
      refine ⟨[some (.leaf (machD L m ss es rs)), some (.leaf R)], ?_, rfl⟩
      simp [-R.bind, -R.thn, -S.thn, ↓bind_eq, ↓rthn_eq, ↓sthn_eq, runFn, Fn.start, outsOf, range0, range1, range2, range3, range4, exs, ex, exh, ev, evs, evA, evK, evB, evP, evI, evO, getL, setE, T.at1, T.fz, T.fzs, d2, dLt, dLen, dTy, dIsi, dIs, optR, leafR, blR, onBl, mulOk, takeAr, putAr, bindTg, wipe, back, dc, eqv_int, eqv_bl, eqv_str, D.ok, kN_int, kN_bl, kN_non, lcB1, q, g5]
  have a1 := db_any_map rs fun r => r.getD 2 0 == -1
  have a2 := fzs_leaf rs fun r => D.bl (r.getD 2 0 == -1)
  have a3 : (rs.any fun r => r.getD 2 0 == -1) = resB rs := rfl
  rw [a3] at a1
  generalize (rs.map fun r => T.leaf (.bl (r.getD 2 0 == -1))) = ts at l1 a2
  generalize (rs.map fun r => D.bl (r.getD 2 0 == -1)) = ds at a1 a2
  simp [-R.bind, -R.thn, -S.thn, ↓bind_eq, ↓rthn_eq, ↓sthn_eq, runFn, Fn.start, outsOf, range0, range1, range2, range3, range4, exs, ex, exh, ev, evs, evA, evK, evB, evP, evI, evO, getL, setE, T.at1, T.fz, T.fzs, d2, dLt, dLen, dTy, dIsi, dIs, optR, leafR, blR, onBl, mulOk, takeAr, putAr, bindTg, wipe, back, dc, eqv_int, eqv_bl, eqv_str, D.ok, kN_int, kN_bl, kN_non, f11, ↓l1, a2, a1]
theorem machB_ok {j m : Nat} {ss es : List Nat} {rs : List (List Int)} (h : Mach j m ss es rs) : machB j (.int (m : Int)) (natsD ss) (natsD es) (.tup (rs.map rowT)) = true := by
  have h1 := h.pos
  have h2 := h.most
  have w : wit 1 12 (.int (m : Int)) = true := by
    show (decide ((1 : Int) ≤ (m : Int)) && decide ((m : Int) ≤ 12)) = true
    rw [decide_eq_true (by omega), decide_eq_true (by omega)]; rfl
  have t : isTupN 0 5000 (.tup (rs.map rowT)) = true := by
    have := h.len
    show (decide ((0 : Int) ≤ ((rs.map rowT).length : Int)) && decide (((rs.map rowT).length : Int) ≤ 5000)) = true
    rw [List.length_map, decide_eq_true (by omega), decide_eq_true (by omega)]; rfl
  unfold machB
  rw [w, t]
  show ((true && decide ((1 : Int) ≤ (m : Int))) && ((idxB m (natsD ss) && idxB m (natsD es)) && movesB j m (.tup (rs.map rowT)))) = true
  rw [decide_eq_true (by omega), idx_sub h.ss, idx_sub h.es, h.moves]
  rfl
theorem rows_okN (rs : List (List Int)) (n : Nat) : D.okN (n + 2) (.tup (rs.map rowT)) = true := by
  rw [kN_tup, List.all_eq_true]
  intro d hd
  obtain ⟨r, _, rfl⟩ := List.mem_map.mp hd
  unfold rowT
  rw [kN_tup, List.all_eq_true]
  intro d hd
  obtain ⟨i, _, rfl⟩ := List.mem_map.mp hd
  exact kN_int _ _
theorem r9m (k : Nat) (L : D) {j m : Nat} (hL : pg.run (k + 3) 6 [.leaf L] = .ret (.leaf (.bl true)) [none]) (hk : dLen L = some j) {ss es : List Nat} {rs : List (List Int)} (h : Mach j m ss es rs) : pg.run (k + 5) 9 [.leaf (machD L m ss es rs)] = .ret (.leaf (.bl true)) [none] := by
  have := r9 k L (.int (m : Int)) (natsD ss) (natsD es) (.tup (rs.map rowT)) j 10 hL hk trivial (natsD_ok _ 9) (natsD_ok _ 9) (rows_okN _ 8)
  rw [machB_ok h] at this
  exact this
theorem r12 (k : Nat) (L : D) {j m : Nat} (hL : pg.run (k + 3) 6 [.leaf L] = .ret (.leaf (.bl true)) [none]) (hk : dLen L = some j) {ss es : List Nat} {rs : List (List Int)} (h : Mach j m ss es rs) : pg.run (k + 7) 12 [.leaf (machD L m ss es rs)] = .ret (.leaf (.bl (!resB rs))) [none] := by
  rw [run_eq (F := f12) rfl]
  have q := r10 k _ true (r9m k L hL hk h)
  simp only [if_true] at q
  have q2 := r11 (k + 5) L h
  simp [-R.bind, -R.thn, -S.thn, ↓bind_eq, ↓rthn_eq, ↓sthn_eq, runFn, Fn.start, outsOf, range0, range1, range2, range3, range4, exs, ex, exh, ev, evs, evA, evK, evB, evP, evI, evO, getL, setE, T.at1, T.fz, T.fzs, d2, dLt, dLen, dTy, dIsi, dIs, optR, leafR, blR, onBl, mulOk, takeAr, putAr, bindTg, wipe, back, dc, eqv_int, eqv_bl, eqv_str, D.ok, kN_int, kN_bl, kN_non, f12, q, q2]
theorem r21 (k : Nat) (d : D) (h : pg.run (k + 7) 12 [.leaf d] = .exc ⟨1, .non⟩ [none]) : pg.run (k + 8) 21 [.leaf d] = .ret (.leaf (.str "machine")) [none] := by
  rw [run_eq (F := f21) rfl]
  have e : pg.sub 1 1 = true := rfl
  simp [-R.bind, -R.thn, -S.thn, ↓bind_eq, ↓rthn_eq, ↓sthn_eq, runFn, Fn.start, outsOf, range0, range1, range2, range3, range4, exs, ex, exh, ev, evs, evA, evK, evB, evP, evI, evO, getL, setE, T.at1, T.fz, T.fzs, d2, dLt, dLen, dTy, dIsi, dIs, optR, leafR, blR, onBl, mulOk, takeAr, putAr, bindTg, wipe, back, dc, eqv_int, eqv_bl, eqv_str, D.ok, kN_int, kN_bl, kN_non, f21, h, e]
theorem drs (k : Nat) : WDraws (pg.run (k + 1)) 14 := wdraws_of (P := pg) rfl k
theorem r15 (k : Nat) (t : T) (ht : Well t) : ∃ a b t', a < 6 ∧ b < 3 ∧ Well t' ∧ pg.run (k + 2) 15 [t, .leaf (.int 3)] = .ret (.leaf (.tup (letD a b))) [some t', none] := by
  rw [run_eq (F := f15) rfl]; exact dlet_ok 14 _ _ _ (drs k) t ht 3 (by omega) (by omega)
theorem r16 (k : Nat) (t : T) (ht : Well t) (ls : List D) (j mo : Nat) (b : Bool) (hj : ls.length = j) (hj2 : j ≤ 10) (h0 : 0 < mo) (h12 : mo ≤ 12) : ∃ m ss es rs t', (Mach j m ss es rs ∧ rs.length ≤ 1440) ∧ Well t' ∧ pg.run (k + 2) 16 [t, .leaf (.tup ls), .leaf (.int (mo : Int)), .leaf (.bl b)] = .ret (.leaf (machD (.tup ls) m ss es rs)) [some t', none, none, none] := by
  rw [run_eq (F := f16) rfl]; exact dmach_ok 14 _ _ _ (drs k) ls j mo b hj hj2 h0 h12 t ht
theorem r17 (k : Nat) (b : Bool) : pg.run (k + 1) 17 [.leaf (.bl b), .leaf (.bl b)] = .ret (.leaf (.bl true)) [none, none] := by
  rw [run_eq (F := f17) rfl]
  cases b <;> simp [-R.bind, -R.thn, -S.thn, ↓bind_eq, ↓rthn_eq, ↓sthn_eq, runFn, Fn.start, outsOf, range0, range1, range2, range3, range4, exs, ex, exh, ev, evs, evA, evK, evB, evP, evI, evO, getL, setE, T.at1, T.fz, T.fzs, d2, dLt, dLen, dTy, dIsi, dIs, optR, leafR, blR, onBl, mulOk, takeAr, putAr, bindTg, wipe, back, dc, eqv_int, eqv_bl, eqv_str, D.ok, kN_int, kN_bl, kN_non, f17]
end L_k02
end
section
set_option maxRecDepth 100000
set_option maxHeartbeats 0
namespace L_k02
open Mi
/-- the two judges agree on d -/
def Agree (L d : D) : Prop := ∃ B : Bool, (∀ k, pg.run (k + 5) 9 [.leaf d] = .ret (.leaf (.bl B)) [none]) ∧ ∀ k, pg.run (k + 2) 19 [.leaf L, .leaf d] = .ret (.leaf (.bl B)) [none, none]
theorem letD_ok (a b n : Nat) : D.okN (n + 1) (.tup (letD a b)) = true := by
  have h : ((List.range 6).all fun a => (List.range 4).all fun b => true) = true := by decide
  rw [kN_tup, List.all_eq_true]
  intro d hd
  obtain ⟨s, hs, rfl⟩ := List.mem_map.mp hd
  rw [kN_str]
  have hm := letS_mem hs
  have : (namesS.all fun s => PySem.PyData.strOk s) = true := by decide +kernel
  rw [List.all_eq_true] at this
  exact this s hm
section
variable {a b : Nat} (ha : a < 6) (hb : b < 4)
include ha hb
theorem agree5 (N S E M : D) (oN : okd N) (oS : D.okN 20 S = true) (oE : D.okN 20 E = true) (oM : D.okN 20 M = true) (szS : S.items.length ≤ 5000) (szE : E.items.length ≤ 5000) (szM : M.items.length ≤ 5000) : Agree (.tup (letD a b)) (.tup [.tup (letD a b), N, S, E, M]) := by
  refine ⟨machB ((1 + b : Nat) : Int) N S E M, fun k => r9 k _ N S E M (1 + b) 20 (r6 (k + 1) a b ha hb) (lenL ha hb) oN oS oE oM, fun k => ?_⟩
  rw [mach_law szM]
  exact r19 k _ N S E M (1 + b) 20 (letD_ok a b 59) (lenL ha hb) oN oS oE oM (by unfold line; omega) (by unfold line; omega) (by unfold line; omega)
omit ha hb in
theorem agreeN (L d : D) (h : okd d) (h5 : isTupN 5 5 d = false) : Agree L d := ⟨false, fun k => r9n k d h h5, fun k => r19n k L d h h5⟩
theorem agreeL (L' N S E M : D) (oN : okd N) (oM : okd M) (o2 : D.okN 60 L' = true) (hL : ∀ k, pg.run (k + 3) 6 [.leaf L'] = .ret (.leaf (.bl false)) [none]) (hne : D.eqv L' (.tup (letD a b)) = false) : Agree (.tup (letD a b)) (.tup [L', N, S, E, M]) :=
  ⟨false, fun k => r9L k L' N S E M oN oM (hL k), fun k => r19L k _ L' N S E M (letD_ok a b 59) o2 hne⟩
end
def odds (k m : Int) : List D := [.tup [.int 0, .int 0, .int 51, .int 0], .tup [.int 0, .int 0, .int (-2), .int 0], .tup [.int 0, .int k, .int 0, .int 0], .tup [.int m, .int 0, .int 0, .int 0], .tup [.int 0, .int 0, .int 0, .int m], .tup [.int 0, .int 0, .bl true, .int 0], .tup [.int 0, .int 0, .int 0], .lst [.int 0, .int 0, .int 0, .int 0], .non, .tup [.int 0, .int 0, .non, .int 0]]
theorem odds_ok {k m : Int} {x : D} (h : x ∈ odds k m) : D.okN 19 x = true := by
  unfold odds at h
  simp only [List.mem_cons, List.not_mem_nil, or_false] at h
  rcases h with rfl | rfl | rfl | rfl | rfl | rfl | rfl | rfl | rfl | rfl
  all_goals first
    | exact kN_non _
    | (rw [kN_tup]; simp [kN_int, kN_bl, kN_non]; done)
    | (rw [kN_lst]; simp [kN_int]; done)
/-- put in at a place -/
def ins (M : List D) (p : Nat) (x : D) : List D := pre M p x ++ M.drop p
def last1 (M : List D) : List D := cut M (some (-1)) none
def bents (L : D) (ll : List D) (m : Int) (S E M : List D) (p : Nat) (x : D) : List D :=
  [.tup [L, .int (m + 1), .tup S, .tup E, .tup M], .tup [L, .int (m - 1), .tup S, .tup E, .tup M], .tup [L, .bl true, .tup S, .tup E, .tup M], .lst [L, .int m, .tup S, .tup E, .tup M], .tup [L, .int m, .tup S, .tup E],
   .tup [L, .int m, .tup S, .tup E, .tup M, .tup []], .non, .tup [.lst ll, .int m, .tup S, .tup E, .tup M], .tup [.tup [], .int m, .tup S, .tup E, .tup M], .tup [L, .int m, .tup (S ++ [.int m]), .tup E, .tup M],
   .tup [L, .int m, .lst S, .tup E, .tup M], .tup [L, .int m, .tup S, .tup (E ++ [.int 0]), .tup M], .tup [L, .int m, .tup S, .tup E, .tup (M ++ last1 M)],
   .tup [L, .int m, .tup S, .tup E, .tup M.reverse], .tup [L, .int m, .tup S, .tup E, .lst M], .tup [L, .int 13, .tup S, .tup E, .tup M], .tup [L, .int m, .tup S.reverse, .tup E, .tup M],
   .tup [L, .int m, .tup S, .tup E, .tup (ins M p x)], .tup [L, .int m, .tup S, .tup E, .tup (ins M p x)], .tup [L, .int m, .tup S, .tup E, .tup (ins M p x)], .tup [L, .int m, .tup S, .tup E, .tup (ins M p x)], .tup [L, .int m, .tup S, .tup E, .tup (ins M p x)], .tup [L, .int m, .tup S, .tup E, .tup (ins M p x)]]
theorem last1_mem {M : List D} {d : D} (h : d ∈ last1 M) : d ∈ M := List.mem_of_mem_drop (List.mem_of_mem_take h)
theorem last1_len (M : List D) : (last1 M).length ≤ M.length := by
  unfold last1 cut
  rw [List.length_take, List.length_drop]
  omega
theorem bents_ok {a b : Nat} (ha : a < 6) (hb : b < 4) {m : Nat} (hm : m ≤ 12) {S E M : List D} (oS : ∀ d ∈ S, D.okN 19 d = true) (oE : ∀ d ∈ E, D.okN 19 d = true) (oM : ∀ d ∈ M, D.okN 19 d = true) (lS : S.length ≤ 100) (lE : E.length ≤ 100) (lM : M.length ≤ 2000) (p : Nat) {x d : D} (hx : D.okN 19 x = true) (h : d ∈ bents (.tup (letD a b)) (letD a b) m S E M p x) : Agree (.tup (letD a b)) d := by
  have ot : ∀ {xs : List D}, (∀ d ∈ xs, D.okN 19 d = true) → D.okN 20 (.tup xs) = true := fun h => by rw [kN_tup, List.all_eq_true]; exact h
  have ol : ∀ {xs : List D}, (∀ d ∈ xs, D.okN 19 d = true) → D.okN 20 (.lst xs) = true := fun h => by rw [kN_lst, List.all_eq_true]; exact h
  have oa : ∀ {xs ys : List D}, (∀ d ∈ xs, D.okN 19 d = true) → (∀ d ∈ ys, D.okN 19 d = true) → ∀ d ∈ xs ++ ys, D.okN 19 d = true := fun h1 h2 d hd => (List.mem_append.mp hd).elim (h1 d) (h2 d)
  have o1 : ∀ {y : D}, D.okN 19 y = true → ∀ d ∈ [y], D.okN 19 d = true := fun h d hd => by rw [List.mem_singleton.mp hd]; exact h
  have sS : (D.tup S).items.length ≤ 5000 := by show S.length ≤ 5000; omega
  have sE : (D.tup E).items.length ≤ 5000 := by show E.length ≤ 5000; omega
  have sM : (D.tup M).items.length ≤ 5000 := by show M.length ≤ 5000; omega
  have A := fun N oN => agree5 ha hb N (.tup S) (.tup E) (.tup M) oN (ot oS) (ot oE) (ot oM) sS sE sM
  have li : (ins M p x).length ≤ 5000 := by
    unfold ins pre
    simp only [List.length_append, List.length_take, List.length_drop, List.length_singleton]
    omega
  have oi : ∀ d ∈ ins M p x, D.okN 19 d = true := by
    unfold ins pre
    exact oa (oa (fun d hd => oM d (List.mem_of_mem_take hd)) (o1 hx)) fun d hd => oM d (List.mem_of_mem_drop hd)
  have AI := agree5 ha hb (.int m) (.tup S) (.tup E) (.tup (ins M p x)) trivial (ot oS) (ot oE) (ot oi) sS sE li
  have hll : D.okN 60 (.lst (letD a b)) = true := by rw [kN_lst, ← kN_tup]; exact letD_ok a b 59
  have hlt : (letD a b).isEmpty = false := by
    rw [Bool.eq_false_iff]
    intro e
    have := congrArg List.length (List.isEmpty_iff.mp e)
    unfold letD at this
    rw [List.length_map, letS_len ha hb] at this
    simp at this
  unfold bents at h
  simp only [List.mem_cons, List.not_mem_nil, or_false] at h
  rcases h with rfl | rfl | rfl | rfl | rfl | rfl | rfl | rfl | rfl | rfl | rfl | rfl | rfl | rfl | rfl | rfl | rfl | rfl | rfl | rfl | rfl | rfl | rfl
  · exact A _ trivial
  · exact A _ trivial
  · exact A _ trivial
  · exact agreeN _ _ trivial rfl
  · exact agreeN _ _ trivial rfl
  · exact agreeN _ _ trivial rfl
  · exact agreeN _ _ trivial rfl
  · exact agreeL ha hb _ _ _ _ _ trivial trivial hll (fun k => r6l (k + 1) _) (by unfold D.eqv; rfl)
  · refine agreeL ha hb _ _ _ _ _ trivial trivial (by rw [kN_tup]; rfl) (fun k => r6n (k + 1)) ?_
    rw [eqv_tup]
    cases q : letD a b with
    | nil => rw [q] at hlt; cases hlt
    | cons y r => rw [D.eqvs] <;> simp
  · exact agree5 ha hb _ _ _ _ trivial (ot (oa oS (o1 (kN_int _ _)))) (ot oE) (ot oM) (by show (S ++ [D.int m]).length ≤ 5000; rw [List.length_append, List.length_singleton]; omega) sE sM
  · exact agree5 ha hb _ _ _ _ trivial (ol oS) (ot oE) (ot oM) sS sE sM
  · exact agree5 ha hb _ _ _ _ trivial (ot oS) (ot (oa oE (o1 (kN_int _ _)))) (ot oM) sS (by show (E ++ [D.int 0]).length ≤ 5000; rw [List.length_append, List.length_singleton]; omega) sM
  · exact agree5 ha hb _ _ _ _ trivial (ot oS) (ot oE) (ot (oa oM fun d hd => oM d (last1_mem hd))) sS sE (by show (M ++ last1 M).length ≤ 5000; have := last1_len M; rw [List.length_append]; omega)
  · exact agree5 ha hb _ _ _ _ trivial (ot oS) (ot oE) (ot fun d hd => oM d (List.mem_reverse.mp hd)) sS sE (by show M.reverse.length ≤ 5000; rw [List.length_reverse]; omega)
  · exact agree5 ha hb _ _ _ _ trivial (ot oS) (ot oE) (ol oM) sS sE sM
  · exact A _ trivial
  · exact agree5 ha hb _ _ _ _ trivial (ot fun d hd => oS d (List.mem_reverse.mp hd)) (ot oE) (ot oM) (by show S.reverse.length ≤ 5000; rw [List.length_reverse]; omega) sE sM
  · exact AI
  · exact AI
  · exact AI
  · exact AI
  · exact AI
  · exact AI
theorem bent_ok (k : Nat) (t : T) (ht : Well t) {a b : Nat} (ha : a < 6) (hb : b < 4) {m : Nat} {ss es : List Nat} {rs : List (List Int)} (h : Mach (1 + b) m ss es rs) (hrs : rs.length ≤ 2000) : ∃ d t', Well t' ∧ pg.run (k + 2) 20 [t, .leaf (machD (.tup (letD a b)) m ss es rs)] = .ret (.leaf d) [some t', none] ∧ Agree (.tup (letD a b)) d := by
  have hm := h.most
  obtain ⟨p, t1, c1, hp, w1⟩ := (drs k).nat t (rs.length + 1) ht (by omega) (by omega)
  obtain ⟨q, t2, c2, hq, w2⟩ := (drs k).nat t1 10 w1 (by omega) (by omega)
  obtain ⟨s, t3, c3, hs, w3⟩ := (drs k).nat t2 23 w2 (by omega) (by omega)
  obtain ⟨x, hx, hxm⟩ := ix_mem (odds ((1 + b : Nat) : Int) m) q hq
  let S : List D := ss.map fun n : Nat => .int (n : Int)
  let E : List D := es.map fun n : Nat => .int (n : Int)
  let M : List D := rs.map rowT
  let ll : List D := letD a b
  let L : D := .tup ll
  obtain ⟨d, hd, hdm⟩ := ix_mem (bents L ll m S E M p x) s hs
  have lsub : ∀ {xs : List Nat}, xs.Sublist (List.range m) → xs.length ≤ 100 := fun h => by
    have := h.length_le
    rw [List.length_range] at this
    omega
  have lS : S.length ≤ 100 := by show (ss.map fun n : Nat => D.int (n : Int)).length ≤ 100; rw [List.length_map]; exact lsub h.ss
  have lE : E.length ≤ 100 := by show (es.map fun n : Nat => D.int (n : Int)).length ≤ 100; rw [List.length_map]; exact lsub h.es
  have lM' : M.length = rs.length := by show (rs.map rowT).length = _; rw [List.length_map]
  have oM : ∀ d ∈ M, D.okN 19 d = true := by
    have := rows_okN rs 18
    rw [kN_tup, List.all_eq_true] at this
    exact this
  have oI : ∀ (xs : List Nat), ∀ d ∈ xs.map (fun n : Nat => D.int (n : Int)), D.okN 19 d = true := by
    intro xs d hd
    obtain ⟨n, _, rfl⟩ := List.mem_map.mp hd
    exact kN_int _ _
  refine ⟨d, t3, w3, ?_, bents_ok ha hb hm (oI ss) (oI es) oM lS lE (by omega) p (odds_ok hxm) hdm⟩
  have eD : machD (.tup (letD a b)) m ss es rs = .tup [L, .int (m : Int), .tup S, .tup E, .tup M] := rfl
  have lll : ll.length = 1 + b := by show (letD a b).length = _; unfold letD; rw [List.length_map, letS_len ha hb]
  have eL : L = .tup ll := rfl
  rw [eD, run_eq (F := f20) rfl]
  clear_value S E M L ll
  let c : Cx := ⟨pg.run (k + 1), pg.glob, [0], pg.sub⟩
  let X : D := .tup [L, .int (m : Int), .tup S, .tup E, .tup M]
  have e0 : ex c (f20.body.get 0) [some t, some (.leaf X), none, none, none, none, none, none, none, none] = .nx [some t, some (.leaf X), none, none, none, some (.leaf L), some (.leaf (.int (m : Int))), some (.leaf (.tup S)), some (.leaf (.tup E)), some (.leaf (.tup M))] := by
    simp [-R.bind, -R.thn, -S.thn, ↓bind_eq, ↓rthn_eq, ↓sthn_eq, runFn, Fn.start, outsOf, range0, range1, range2, range3, range4, exs, ex, exh, ev, evs, evA, evK, evB, evP, evI, evO, getL, setE, T.at1, T.fz, T.fzs, d2, dLt, dLen, dTy, dIsi, dIs, optR, leafR, blR, onBl, mulOk, takeAr, putAr, bindTg, wipe, back, dc, eqv_int, eqv_bl, eqv_str, D.ok, kN_int, kN_bl, kN_non, c, X, f20, Sts.get, tgs]
  have sub1 : ∀ i j : Int, d2 .sub (.int i) (.int j) = some (.leaf (.int (i - j))) := fun _ _ => rfl
  have tL : ∀ xs : List D, dTy .list [.tup xs] = some (.lst (leafs xs)) := fun _ => rfl
  have s4 : dSl X none (some 4) = some (.leaf (.tup [L, .int (m : Int), .tup S, .tup E])) := rfl
  let B1 : List D := [.tup [L, .int ((m : Int) + 1), .tup S, .tup E, .tup M], .tup [L, .int ((m : Int) - 1), .tup S, .tup E, .tup M], .tup [L, .bl true, .tup S, .tup E, .tup M], .lst [L, .int (m : Int), .tup S, .tup E, .tup M], .tup [L, .int (m : Int), .tup S, .tup E]]
  let T1 : T := .lst [.leaf (.tup [L, .int ((m : Int) + 1), .tup S, .tup E, .tup M]), .leaf (.tup [L, .int ((m : Int) - 1), .tup S, .tup E, .tup M]), .leaf (.tup [L, .bl true, .tup S, .tup E, .tup M]), .lst (leafs [L, .int (m : Int), .tup S, .tup E, .tup M]), .leaf (.tup [L, .int (m : Int), .tup S, .tup E])]
  have hT1 : T1.fz = .lst B1 := by show D.lst _ = _; simp [T.fzs, T.fz, fzs_leafs, B1]
  have e1 : ex c (f20.body.get 1) [some t, some (.leaf X), none, none, none, some (.leaf L), some (.leaf (.int (m : Int))), some (.leaf (.tup S)), some (.leaf (.tup E)), some (.leaf (.tup M))] = .nx [some t, some (.leaf X), some T1, none, none, some (.leaf L), some (.leaf (.int (m : Int))), some (.leaf (.tup S)), some (.leaf (.tup E)), some (.leaf (.tup M))] := by
    have tX : dTy .list [X] = some (.lst (leafs [L, .int (m : Int), .tup S, .tup E, .tup M])) := rfl
    clear_value X
    simp [-R.bind, -R.thn, -S.thn, ↓bind_eq, ↓rthn_eq, ↓sthn_eq, runFn, Fn.start, outsOf, range0, range1, range2, range3, range4, exs, ex, exh, ev, evs, evA, evK, evB, evP, evI, evO, getL, setE, T.at1, T.fz, T.fzs, dLt, dLen, dIsi, dIs, optR, leafR, blR, onBl, mulOk, takeAr, putAr, bindTg, wipe, back, dc, eqv_int, eqv_bl, eqv_str, D.ok, kN_int, kN_bl, kN_non, c, f20, Sts.get, add_int, sub1, tX, s4, T1]
  clear_value T1
  have dT : ∀ (xs : List D) (y : D), xs.length ≤ 3000 → d2 .add (.tup xs) (.tup [y]) = some (.leaf (.tup (xs ++ [y]))) := fun xs y hx => d2_tup (by rw [List.length_singleton]; unfold line; omega)
  -- five more
  let C2 : List D := [.tup [L, .int (m : Int), .tup S, .tup E, .tup M, .tup []], .non, .tup [.lst ll, .int (m : Int), .tup S, .tup E, .tup M], .tup [.tup [], .int (m : Int), .tup S, .tup E, .tup M], .tup [L, .int (m : Int), .tup (S ++ [.int (m : Int)]), .tup E, .tup M]]
  let B2 : List D := B1 ++ C2
  have u2 : d2 .add (.lst B1) (.lst C2) = some (.lst (leafs B2)) := d2_lst (by show 5 + 5 ≤ line; unfold line; omega)
  have x5 : d2 .add X (.tup [.tup []]) = some (.leaf (.tup [L, .int (m : Int), .tup S, .tup E, .tup M, .tup []])) := d2_tup (by show 5 + 1 ≤ line; unfold line; omega)
  have xS := dT S (.int (m : Int)) (by omega)
  have tll : dTy .list [L] = some (.lst (leafs ll)) := by rw [eL]; rfl
  have hC2 : [D.tup [L, .int (m : Int), .tup S, .tup E, .tup M, .tup []], .non, .tup [.lst ll, .int (m : Int), .tup S, .tup E, .tup M], .tup [.tup [], .int (m : Int), .tup S, .tup E, .tup M], .tup [L, .int (m : Int), .tup (S ++ [.int (m : Int)]), .tup E, .tup M]] = C2 := rfl
  have e2 : ex c (f20.body.get 2) [some t, some (.leaf X), some T1, none, none, some (.leaf L), some (.leaf (.int (m : Int))), some (.leaf (.tup S)), some (.leaf (.tup E)), some (.leaf (.tup M))] = .nx [some t, some (.leaf X), some (.lst (leafs B2)), none, none, some (.leaf L), some (.leaf (.int (m : Int))), some (.leaf (.tup S)), some (.leaf (.tup E)), some (.leaf (.tup M))] := by
    clear_value X B2 B1 C2
    simp [-R.bind, -R.thn, -S.thn, ↓bind_eq, ↓rthn_eq, ↓sthn_eq, runFn, Fn.start, outsOf, range0, range1, range2, range3, range4, exs, ex, exh, ev, evs, evA, evK, evB, evP, evI, evO, getL, setE, T.at1, T.fz, T.fzs, dLt, dLen, dIsi, dIs, optR, leafR, blR, onBl, mulOk, takeAr, putAr, bindTg, wipe, back, dc, eqv_int, eqv_bl, eqv_str, D.ok, kN_int, kN_bl, kN_non, c, f20, Sts.get, hT1, x5, xS, tll, fzs_leafs, hC2, u2]
  -- three more
  let C3 : List D := [.tup [L, .int (m : Int), .lst S, .tup E, .tup M], .tup [L, .int (m : Int), .tup S, .tup (E ++ [.int 0]), .tup M], .tup [L, .int (m : Int), .tup S, .tup E, .tup (M ++ last1 M)]]
  let B3 : List D := B2 ++ C3
  have u3 : d2 .add (.lst B2) (.lst C3) = some (.lst (leafs B3)) := d2_lst (by show 10 + 3 ≤ line; unfold line; omega)
  have xE := dT E (.int 0) (by omega)
  have sl1 : dSl (.tup M) (some (-1)) none = some (.leaf (.tup (last1 M))) := rfl
  have xM : d2 .add (.tup M) (.tup (last1 M)) = some (.leaf (.tup (M ++ last1 M))) := d2_tup (by have := last1_len M; unfold line; omega)
  have hC3 : [D.tup [L, .int (m : Int), .lst S, .tup E, .tup M], .tup [L, .int (m : Int), .tup S, .tup (E ++ [.int 0]), .tup M], .tup [L, .int (m : Int), .tup S, .tup E, .tup (M ++ last1 M)]] = C3 := rfl
  have e3 : ex c (f20.body.get 3) [some t, some (.leaf X), some (.lst (leafs B2)), none, none, some (.leaf L), some (.leaf (.int (m : Int))), some (.leaf (.tup S)), some (.leaf (.tup E)), some (.leaf (.tup M))] = .nx [some t, some (.leaf X), some (.lst (leafs B3)), none, none, some (.leaf L), some (.leaf (.int (m : Int))), some (.leaf (.tup S)), some (.leaf (.tup E)), some (.leaf (.tup M))] := by
    clear_value X B3 B2 C3
    simp [-R.bind, -R.thn, -S.thn, ↓bind_eq, ↓rthn_eq, ↓sthn_eq, runFn, Fn.start, outsOf, range0, range1, range2, range3, range4, exs, ex, exh, ev, evs, evA, evK, evB, evP, evI, evO, getL, setE, T.at1, T.fz, T.fzs, dLt, dLen, dIsi, dIs, optR, leafR, blR, onBl, mulOk, takeAr, putAr, bindTg, wipe, back, dc, eqv_int, eqv_bl, eqv_str, D.ok, kN_int, kN_bl, kN_non, c, f20, Sts.get, tL, xE, sl1, xM, fzs_leafs, hC3, u3]
  -- four more
  let C4 : List D := [.tup [L, .int (m : Int), .tup S, .tup E, .tup M.reverse], .tup [L, .int (m : Int), .tup S, .tup E, .lst M], .tup [L, .int 13, .tup S, .tup E, .tup M], .tup [L, .int (m : Int), .tup S.reverse, .tup E, .tup M]]
  let B4 : List D := B3 ++ C4
  have u4 : d2 .add (.lst B3) (.lst C4) = some (.lst (leafs B4)) := d2_lst (by show 13 + 4 ≤ line; unfold line; omega)
  have rv : ∀ xs : List D, dRev (.tup xs) = some (.leaf (.tup xs.reverse)) := fun _ => rfl
  have hC4 : [D.tup [L, .int (m : Int), .tup S, .tup E, .tup M.reverse], .tup [L, .int (m : Int), .tup S, .tup E, .lst M], .tup [L, .int 13, .tup S, .tup E, .tup M], .tup [L, .int (m : Int), .tup S.reverse, .tup E, .tup M]] = C4 := rfl
  have e4 : ex c (f20.body.get 4) [some t, some (.leaf X), some (.lst (leafs B3)), none, none, some (.leaf L), some (.leaf (.int (m : Int))), some (.leaf (.tup S)), some (.leaf (.tup E)), some (.leaf (.tup M))] = .nx [some t, some (.leaf X), some (.lst (leafs B4)), none, none, some (.leaf L), some (.leaf (.int (m : Int))), some (.leaf (.tup S)), some (.leaf (.tup E)), some (.leaf (.tup M))] := by
    clear_value X B4 B3 C4
    simp [-R.bind, -R.thn, -S.thn, ↓bind_eq, ↓rthn_eq, ↓sthn_eq, runFn, Fn.start, outsOf, range0, range1, range2, range3, range4, exs, ex, exh, ev, evs, evA, evK, evB, evP, evI, evO, getL, setE, T.at1, T.fz, T.fzs, dLt, dLen, dIsi, dIs, optR, leafR, blR, onBl, mulOk, takeAr, putAr, bindTg, wipe, back, dc, eqv_int, eqv_bl, eqv_str, D.ok, kN_int, kN_bl, kN_non, c, f20, Sts.get, tL, rv, fzs_leafs, hC4, u4]
  have lenM : db .len [.tup M] = some (.leaf (.int (rs.length : Int))) := by rw [db_len]; show some (T.leaf (.int (M.length : Int))) = _; rw [lM']
  have c1' : pg.run (k + 1) 14 [t, .leaf (.int ((rs.length : Int) + 1))] = .ret (.leaf (.int p)) [some t1, none] := c1
  have e5 : ex c (f20.body.get 5) [some t, some (.leaf X), some (.lst (leafs B4)), none, none, some (.leaf L), some (.leaf (.int (m : Int))), some (.leaf (.tup S)), some (.leaf (.tup E)), some (.leaf (.tup M))] = .nx [some t1, some (.leaf X), some (.lst (leafs B4)), some (.leaf (.int (p : Int))), none, some (.leaf L), some (.leaf (.int (m : Int))), some (.leaf (.tup S)), some (.leaf (.tup E)), some (.leaf (.tup M))] := by
    clear_value X B4
    simp [-R.bind, -R.thn, -S.thn, ↓bind_eq, ↓rthn_eq, ↓sthn_eq, runFn, Fn.start, outsOf, range0, range1, range2, range3, range4, exs, ex, exh, ev, evs, evA, evK, evB, evP, evI, evO, getL, setE, T.at1, T.fz, T.fzs, d2, dLt, dLen, dTy, dIsi, dIs, optR, leafR, blR, onBl, mulOk, takeAr, putAr, bindTg, wipe, back, dc, eqv_int, eqv_bl, eqv_str, D.ok, kN_int, kN_bl, kN_non, c, f20, Sts.get, lenM, c1']
  have lenL' : db .len [L] = some (.leaf (.int ((1 + b : Nat) : Int))) := by rw [db_len, eL]; show some (T.leaf (.int (ll.length : Int))) = _; rw [lll]
  let O : List D := odds ((1 + b : Nat) : Int) (m : Int)
  let TO : T := .lst [.leaf (.tup [.int 0, .int 0, .int 51, .int 0]), .leaf (.tup [.int 0, .int 0, .int (-2), .int 0]), .leaf (.tup [.int 0, .int ((1 + b : Nat) : Int), .int 0, .int 0]), .leaf (.tup [.int (m : Int), .int 0, .int 0, .int 0]), .leaf (.tup [.int 0, .int 0, .int 0, .int (m : Int)]), .leaf (.tup [.int 0, .int 0, .bl true, .int 0]), .leaf (.tup [.int 0, .int 0, .int 0]), .lst [.leaf (.int 0), .leaf (.int 0), .leaf (.int 0), .leaf (.int 0)], .leaf .non, .leaf (.tup [.int 0, .int 0, .non, .int 0])]
  have hTO : TO.fz = .lst O := by show D.lst _ = _; simp [T.fzs, T.fz, O, odds]
  have e6 : ex c (f20.body.get 6) [some t1, some (.leaf X), some (.lst (leafs B4)), some (.leaf (.int (p : Int))), none, some (.leaf L), some (.leaf (.int (m : Int))), some (.leaf (.tup S)), some (.leaf (.tup E)), some (.leaf (.tup M))] = .nx [some t1, some (.leaf X), some (.lst (leafs B4)), some (.leaf (.int (p : Int))), some TO, some (.leaf L), some (.leaf (.int (m : Int))), some (.leaf (.tup S)), some (.leaf (.tup E)), some (.leaf (.tup M))] := by
    have s02 : d2 .sub (.int 0) (.int 2) = some (.leaf (.int (-2))) := rfl
    clear_value X B4
    simp [-R.bind, -R.thn, -S.thn, ↓bind_eq, ↓rthn_eq, ↓sthn_eq, runFn, Fn.start, outsOf, range0, range1, range2, range3, range4, exs, ex, exh, ev, evs, evA, evK, evB, evP, evI, evO, getL, setE, T.at1, T.fz, T.fzs, dLt, dLen, dIsi, dIs, optR, leafR, blR, onBl, mulOk, takeAr, putAr, bindTg, wipe, back, dc, eqv_int, eqv_bl, eqv_str, D.ok, kN_int, kN_bl, kN_non, c, f20, Sts.get, lenL', s02, TO]
  have hxO : dIx (.lst O) (.int (q : Int)) = some x := hx
  have lO : db .len [.lst O] = some (.leaf (.int 10)) := rfl
  clear_value TO O
  have c2' : pg.run (k + 1) 14 [t1, .leaf (.int 10)] = .ret (.leaf (.int q)) [some t2, none] := c2
  let A : D := .tup [L, .int (m : Int), .tup S, .tup E, .tup (ins M p x)]
  have u6 : d2 .mul (.lst [A]) (.int 6) = some (.lst (leafs [A, A, A, A, A, A])) := by
    show (if (6 : Int).natAbs < 2 ^ 62 ∧ 1 * (6 : Int).toNat ≤ line then some _ else none) = _
    rw [if_pos (by decide)]
    rfl
  let B5 : List D := B4 ++ [A, A, A, A, A, A]
  have u7 : d2 .add (.lst B4) (.lst [A, A, A, A, A, A]) = some (.lst (leafs B5)) := d2_lst (by show 17 + 6 ≤ line; unfold line; omega)
  have v1 := sl_to (xs := M) (q := p) (by omega)
  have v2 : dSl (.tup M) (some (p : Int)) none = some (.leaf (.tup (M.drop p))) := by
    show some (T.leaf (.tup (cut M (some (p : Int)) none))) = _
    rw [cut_from M p (by omega)]
  have v3 := pre_ok (xs := M) (q := p) (x := x) (by unfold line; omega)
  have v4 : d2 .add (.tup (pre M p x)) (.tup (M.drop p)) = some (.leaf (.tup (ins M p x))) := d2_tup (by unfold pre; rw [List.length_append, List.length_take, List.length_drop, List.length_singleton]; unfold line; omega)
  have hA : D.tup [L, .int (m : Int), .tup S, .tup E, .tup (ins M p x)] = A := rfl
  have e7 : ex c (f20.body.get 7) [some t1, some (.leaf X), some (.lst (leafs B4)), some (.leaf (.int (p : Int))), some TO, some (.leaf L), some (.leaf (.int (m : Int))), some (.leaf (.tup S)), some (.leaf (.tup E)), some (.leaf (.tup M))] = .nx [some t2, some (.leaf X), some (.lst (leafs B5)), some (.leaf (.int (p : Int))), some (.leaf (.lst O)), some (.leaf L), some (.leaf (.int (m : Int))), some (.leaf (.tup S)), some (.leaf (.tup E)), some (.leaf (.tup M))] := by
    clear_value X B5 B4 A
    simp [-R.bind, -R.thn, -S.thn, ↓bind_eq, ↓rthn_eq, ↓sthn_eq, runFn, Fn.start, outsOf, range0, range1, range2, range3, range4, exs, ex, exh, ev, evs, evA, evK, evB, evP, evI, evO, getL, setE, T.at1, T.fz, T.fzs, dLt, dLen, dIsi, dIs, optR, leafR, blR, onBl, mulOk, takeAr, putAr, bindTg, wipe, back, dc, eqv_int, eqv_bl, eqv_str, D.ok, kN_int, kN_bl, kN_non, c, f20, Sts.get, fzs_leafs, v1, v2, v3, v4, hTO, lO, c2', hxO, hA, u6, u7]
  have hB : bents L ll (m : Int) S E M p x = B5 := rfl
  rw [hB] at hd
  have l23 : db .len [.lst B5] = some (.leaf (.int 23)) := rfl
  have c3' : pg.run (k + 1) 14 [t2, .leaf (.int 23)] = .ret (.leaf (.int s)) [some t3, none] := c3
  have e8 : ex c (f20.body.get 8) [some t2, some (.leaf X), some (.lst (leafs B5)), some (.leaf (.int (p : Int))), some (.leaf (.lst O)), some (.leaf L), some (.leaf (.int (m : Int))), some (.leaf (.tup S)), some (.leaf (.tup E)), some (.leaf (.tup M))] = .rt (.leaf d) [some t3, some (.leaf X), some (.leaf (.lst B5)), some (.leaf (.int (p : Int))), some (.leaf (.lst O)), some (.leaf L), some (.leaf (.int (m : Int))), some (.leaf (.tup S)), some (.leaf (.tup E)), some (.leaf (.tup M))] := by
    clear hB
    clear_value X B5
    simp [-R.bind, -R.thn, -S.thn, ↓bind_eq, ↓rthn_eq, ↓sthn_eq, runFn, Fn.start, outsOf, range0, range1, range2, range3, range4, exs, ex, exh, ev, evs, evA, evK, evB, evP, evI, evO, getL, setE, T.at1, T.fz, T.fzs, d2, dLt, dLen, dTy, dIsi, dIs, optR, leafR, blR, onBl, mulOk, takeAr, putAr, bindTg, wipe, back, dc, eqv_int, eqv_bl, eqv_str, D.ok, kN_int, kN_bl, kN_non, c, f20, Sts.get, fzs_leafs, l23, c3', hd]
  have := run_rt (call := pg.run (k + 1)) (glob := pg.glob) (sub := pg.sub) (F := f20) (ts := [t, .leaf X]) rfl (by
    show exs c (f20.body.drop 0) [some t, some (.leaf X), none, none, none, none, none, none, none, none] = _
    rw [exs_at _ _ 0 _ _ rfl e0, exs_at _ _ 1 _ _ rfl e1, exs_at _ _ 2 _ _ rfl e2, exs_at _ _ 3 _ _ rfl e3, exs_at _ _ 4 _ _ rfl e4, exs_at _ _ 5 _ _ rfl e5, exs_at _ _ 6 _ _ rfl e6, exs_at _ _ 7 _ _ rfl e7, exs_rt _ _ 8 _ _ _ rfl e8])
  show runFn (pg.run (k + 1)) pg.glob pg.sub f20 [t, .leaf X] = _
  rw [this]; rfl
end L_k02
end
section
set_option maxRecDepth 100000
set_option maxHeartbeats 0
namespace L_k02
open Mi
/-! ### many moves -/
def digs (k : Nat) : List Int := [((k / 504 : Nat) : Int), ((k / 84 % 6 : Nat) : Int), ((k / 12 % 7 : Nat) : Int), ((k % 12 : Nat) : Int)]
theorem digs_lt {a b : Nat} (h : a < b) : digs a < digs b := by
  have k : HT.lexLt (digs a) (digs b) = true := by
    unfold digs
    rw [HT.lexLt_cons]
    by_cases h0 : a / 504 = b / 504
    · rw [if_pos (by omega), HT.lexLt_cons]
      by_cases h1 : a / 84 % 6 = b / 84 % 6
      · rw [if_pos (by omega), HT.lexLt_cons]
        by_cases h2 : a / 12 % 7 = b / 12 % 7
        · rw [if_pos (by omega), HT.lexLt_cons, if_neg (by omega)]
          exact decide_eq_true (by omega)
        · rw [if_neg (by omega)]
          exact decide_eq_true (by omega)
      · rw [if_neg (by omega)]
        exact decide_eq_true (by omega)
    · rw [if_neg (by omega)]
      exact decide_eq_true (by omega)
  rw [lex_lt] at k
  exact of_decide_eq_true k
def manyR (n : Nat) : List (List Int) := (List.range n).map digs
theorem many_mach : Mach 6 12 [0] [0] (manyR 5000) where
  pos := by omega
  most := by omega
  ss := by rw [List.singleton_sublist]; exact List.mem_range.mpr (by omega)
  es := by rw [List.singleton_sublist]; exact List.mem_range.mpr (by omega)
  mv := by
    intro r hr
    obtain ⟨k, hk, rfl⟩ := List.mem_map.mp hr
    have hk := List.mem_range.mp hk
    exact ⟨k / 504, k / 84 % 6, k % 12, ((k / 12 % 7 : Nat) : Int), rfl, by omega, by omega, by omega, by omega, by omega⟩
  asc := by
    apply ascR_pw
    unfold manyR
    rw [List.pairwise_map]
    exact (List.pairwise_lt_range (n := 5000)).imp fun h => digs_lt h
  len := by unfold manyR; rw [List.length_map, List.length_range]; exact Nat.le_refl _
theorem r22 (k : Nat) (n : Nat) (hn : n ≤ 6000) : pg.run (k + 1) 22 [.leaf (.int (n : Int))] = .ret (.leaf (machD (.tup (sixS.map .str)) 12 [0] [0] (manyR n))) [none] := by
  rw [run_eq (F := f22) rfl]
  let c : Cx := ⟨pg.run k, pg.glob, [], pg.sub⟩
  have e0 : ex c (f22.body.get 0) [some (.leaf (.int (n : Int))), none, none] = .nx [some (.leaf (.int (n : Int))), some (.lst (leafs ((manyR 0).map rowT))), none] := by
    simp [-R.bind, -R.thn, -S.thn, ↓bind_eq, ↓rthn_eq, ↓sthn_eq, runFn, Fn.start, outsOf, range0, range1, range2, range3, range4, exs, ex, exh, ev, evs, evA, evK, evB, evP, evI, evO, getL, setE, T.at1, T.fz, T.fzs, d2, dLt, dLen, dTy, dIsi, dIs, optR, leafR, blR, onBl, mulOk, takeAr, putAr, bindTg, wipe, back, dc, eqv_int, eqv_bl, eqv_str, D.ok, kN_int, kN_bl, kN_non, c, f22, Sts.get, manyR, leafs]
  have hI : evI c (f22.body.get 1).it [some (.leaf (.int (n : Int))), some (.lst (leafs ((manyR 0).map rowT))), none] = .ok ((List.range n).map fun i : Nat => .int (i : Int)) [some (.leaf (.int (n : Int))), some (.lst (leafs ((manyR 0).map rowT))), none] := by
    have q1 := rngOf_nat (n := n) (by unfold line; omega)
    have q2 := dWalk_rng (n := n) (by unfold line; omega)
    generalize leafs ((manyR 0).map rowT) = R
    simp [-R.bind, -R.thn, -S.thn, ↓bind_eq, ↓rthn_eq, ↓sthn_eq, runFn, Fn.start, outsOf, range0, range1, range2, range3, range4, exs, ex, exh, ev, evs, evA, evK, evB, evP, evI, evO, getL, setE, T.at1, T.fz, T.fzs, d2, dLt, dLen, dTy, dIsi, dIs, optR, leafR, blR, onBl, mulOk, takeAr, putAr, bindTg, wipe, back, dc, eqv_int, eqv_bl, eqv_str, D.ok, kN_int, kN_bl, kN_non, c, f22, Sts.get, St.it, q1, q2]
  obtain ⟨e', h1, v2, rfl⟩ := forL_rng (f := frB c (.nm 2) (f22.body.get 1).body) (fun i e => ∃ v2, e = [some (.leaf (.int (n : Int))), some (.lst (leafs ((manyR i).map rowT))), v2]) n _ ⟨none, rfl⟩ (by
    rintro i hi _ ⟨v2, rfl⟩
    refine ⟨_, ?_, some (.leaf (.int (i : Int))), rfl⟩
    have e1 := leafs_app (manyR i) (digs i)
    have e2 : manyR i ++ [digs i] = manyR (i + 1) := by unfold manyR; rw [List.range_succ, List.map_append]; rfl
    rw [e2] at e1
    have e3 : (leafs ((manyR i).map rowT)).length < line := by unfold leafs manyR; rw [List.length_map, List.length_map, List.length_map, List.length_range]; unfold line; omega
    have q1 : d2 .fdiv (.int (i : Int)) (.int 504) = some (.leaf (.int ((i / 504 : Nat) : Int))) := by rw [fdiv_int (by decide) (by decide)]; congr 3
    have q2 : d2 .fdiv (.int (i : Int)) (.int 84) = some (.leaf (.int ((i / 84 : Nat) : Int))) := by rw [fdiv_int (by decide) (by decide)]; congr 3
    have q3 : d2 .fdiv (.int (i : Int)) (.int 12) = some (.leaf (.int ((i / 12 : Nat) : Int))) := by rw [fdiv_int (by decide) (by decide)]; congr 3
    have q4 : d2 .mod (.int ((i / 84 : Nat) : Int)) (.int 6) = some (.leaf (.int ((i / 84 % 6 : Nat) : Int))) := by rw [mod_int (by decide)]; congr 3
    have q5 : d2 .mod (.int ((i / 12 : Nat) : Int)) (.int 7) = some (.leaf (.int ((i / 12 % 7 : Nat) : Int))) := by rw [mod_int (by decide)]; congr 3
    have q6 : d2 .mod (.int (i : Int)) (.int 12) = some (.leaf (.int ((i % 12 : Nat) : Int))) := by rw [mod_int (by decide)]; congr 3
    have q7 : ∀ z : Int, dTy .int [.int z] = some (.leaf (.int z)) := fun _ => rfl
    have q8 : D.tup [.int ((i / 504 : Nat) : Int), .int ((i / 84 % 6 : Nat) : Int), .int ((i / 12 % 7 : Nat) : Int), .int ((i % 12 : Nat) : Int)] = rowT (digs i) := rfl
    generalize leafs ((manyR (i + 1)).map rowT) = R at e1
    generalize leafs ((manyR i).map rowT) = R0 at e1 e3
    generalize rowT (digs i) = W at e1 q8
    generalize i / 504 = y0 at q1 q8
    generalize i / 84 % 6 = y1 at q4 q8
    generalize i / 84 = y2 at q2 q4
    generalize i / 12 % 7 = y3 at q5 q8
    generalize i / 12 = y4 at q3 q5
    generalize i % 12 = y5 at q6 q8
    simp [-R.bind, -R.thn, -S.thn, ↓bind_eq, ↓rthn_eq, ↓sthn_eq, runFn, Fn.start, outsOf, range0, range1, range2, range3, range4, exs, ex, exh, ev, evs, evA, evK, evB, evP, evI, evO, getL, setE, T.at1, T.fz, T.fzs, dLt, dLen, dIsi, dIs, optR, leafR, blR, onBl, mulOk, takeAr, putAr, bindTg, wipe, back, dc, eqv_int, eqv_bl, eqv_str, D.ok, kN_int, kN_bl, kN_non, frB, c, f22, Sts.get, St.body, q1, q2, q3, q4, q5, q6, q7, q8, e1, e3, mtSem, T.mod])
  have e1 : ex c (f22.body.get 1) [some (.leaf (.int (n : Int))), some (.lst (leafs ((manyR 0).map rowT))), none] = .nx [some (.leaf (.int (n : Int))), some (.lst (leafs ((manyR n).map rowT))), v2] := by
    show ex c (.fr (.nm 2) (f22.body.get 1).it (f22.body.get 1).body) _ = _
    rw [fr_eq _ _ _ _ _ _ _ hI]
    exact h1
  have e2 : ex c (f22.body.get 2) [some (.leaf (.int (n : Int))), some (.lst (leafs ((manyR n).map rowT))), v2] = .rt (.leaf (machD (.tup (sixS.map .str)) 12 [0] [0] (manyR n))) [some (.leaf (.int (n : Int))), some (.leaf (.lst ((manyR n).map rowT))), v2] := by
    have z := fzs_leafs ((manyR n).map rowT)
    have w : D.tup [.tup [.str "a", .str "b", .str "c", .str "d", .str "e", .str "f"], .int 12, .tup [.int 0], .tup [.int 0], .tup ((manyR n).map rowT)] = machD (.tup (sixS.map .str)) 12 [0] [0] (manyR n) := rfl
    generalize machD (.tup (sixS.map .str)) 12 [0] [0] (manyR n) = W at w
    generalize leafs ((manyR n).map rowT) = R at z
    generalize (manyR n).map rowT = R0 at z w
    simp [-R.bind, -R.thn, -S.thn, ↓bind_eq, ↓rthn_eq, ↓sthn_eq, runFn, Fn.start, outsOf, range0, range1, range2, range3, range4, exs, ex, exh, ev, evs, evA, evK, evB, evP, evI, evO, getL, setE, T.at1, T.fz, T.fzs, d2, dLt, dLen, dTy, dIsi, dIs, optR, leafR, blR, onBl, mulOk, takeAr, putAr, bindTg, wipe, back, dc, eqv_int, eqv_bl, eqv_str, D.ok, kN_int, kN_bl, kN_non, c, f22, Sts.get, z, w]
  have := run_rt (call := pg.run k) (glob := pg.glob) (sub := pg.sub) (F := f22) (ts := [.leaf (.int (n : Int))]) rfl (by
    show exs c (f22.body.drop 0) [some (.leaf (.int (n : Int))), none, none] = _
    rw [exs_at _ _ 0 _ _ rfl e0, exs_at _ _ 1 _ _ rfl e1, exs_rt _ _ 2 _ _ _ rfl e2])
  rw [this]; rfl
/-! ### the law -/
def scr (ns : List Int) : Option T := some (.leaf (.lst (ns.map .int)))
noncomputable abbrev cx : Mi.Cx := ⟨pg.run 39, pg.glob, [], pg.sub⟩
abbrev tb : Sts := (f23.body.get 1).body
abbrev wb : Sts := (tb.get 3).body
def neg (d : D) : Bool := match d.items[2]? with
  | some (D.int c) => decide (c < 0)
  | _ => false
def negG (d : D) : Option T := if neg d then some (.leaf d) else none
theorem neg_row {j m : Nat} {r : List Int} (h : Mv j m r) : neg (rowT r) = (r.getD 2 0 == -1) ∧ neg (rowT r) = decide (r.getD 2 0 < 0) := by
  obtain ⟨p, a, q, c, rfl, _, _, _, h4, _⟩ := h
  have e : neg (rowT [(p : Int), (a : Int), c, (q : Int)]) = decide (c < 0) := rfl
  have e2 : [(p : Int), (a : Int), c, (q : Int)].getD 2 0 = c := rfl
  rw [e, e2]
  refine ⟨?_, rfl⟩
  by_cases h : c < 0
  · have : c = -1 := by omega
    subst this; rfl
  · rw [decide_eq_false h]
    symm
    rw [beq_eq_false_iff_ne]; omega
theorem neg_emp {j m : Nat} {rs : List (List Int)} (h : ∀ r ∈ rs, Mv j m r) : (T.fzs ((rs.map rowT).filterMap negG)).isEmpty = !resB rs := by
  cases b : resB rs with
  | true =>
    unfold resB at b
    rw [List.any_eq_true] at b
    obtain ⟨r, hr, hb⟩ := b
    have hn : neg (rowT r) = true := by rw [(neg_row (h r hr)).1]; exact hb
    show _ = false
    rw [Bool.eq_false_iff]
    intro e
    rw [fzs_eq, List.isEmpty_iff, List.map_eq_nil_iff, List.filterMap_eq_nil_iff] at e
    have := e (rowT r) (List.mem_map.mpr ⟨r, hr, rfl⟩)
    unfold negG at this
    rw [hn] at this
    cases this
  | false =>
    unfold resB at b
    rw [List.any_eq_false] at b
    show _ = true
    rw [fzs_eq, List.isEmpty_iff, List.map_eq_nil_iff, List.filterMap_eq_nil_iff]
    intro d hd
    obtain ⟨r, hr, rfl⟩ := List.mem_map.mp hd
    have hn : neg (rowT r) = false := by
      rw [(neg_row (h r hr)).1, Bool.eq_false_iff]
      exact b r hr
    unfold negG
    rw [hn]
    rfl
theorem neg_ok (rs : List (List Int)) : D.okN 60 (.lst (T.fzs ((rs.map rowT).filterMap negG))) = true := by
  rw [kN_lst, fzs_eq, List.all_eq_true]
  intro d hd
  obtain ⟨t, ht, rfl⟩ := List.mem_map.mp hd
  obtain ⟨d', hd', hg⟩ := List.mem_filterMap.mp ht
  unfold negG at hg
  split at hg
  · cases hg
    have := rows_okN rs 58
    rw [kN_tup, List.all_eq_true] at this
    exact this d' hd'
  · cases hg
theorem bent_turn (ns : List Int) (t : T) (ht : Well t) {a b : Nat} (ha : a < 6) (hb : b < 4) {m : Nat} {ss es : List Nat} {rs : List (List Int)} (h : Mach (1 + b) m ss es rs) (hrs : rs.length ≤ 2000) (v2 v5 v6 v7 v8 : Option T) : ∃ t' u6 u7, Well t' ∧ exs cx wb [scr ns, some t, v2, some (.leaf (.tup (letD a b))), some (.leaf (machD (.tup (letD a b)) m ss es rs)), v5, v6, v7, v8] = .nx [scr ns, some t', v2, some (.leaf (.tup (letD a b))), some (.leaf (machD (.tup (letD a b)) m ss es rs)), v5, u6, u7, v8] := by
  obtain ⟨d, t1, w1, c1, B, q1, q2⟩ := bent_ok 37 t ht ha hb h hrs
  have e0 : ex cx (wb.get 0) [scr ns, some t, v2, some (.leaf (.tup (letD a b))), some (.leaf (machD (.tup (letD a b)) m ss es rs)), v5, v6, v7, v8] = .nx [scr ns, some t1, v2, some (.leaf (.tup (letD a b))), some (.leaf (machD (.tup (letD a b)) m ss es rs)), v5, some (.leaf d), v7, v8] := by
    simp [-R.bind, -R.thn, -S.thn, ↓bind_eq, ↓rthn_eq, ↓sthn_eq, runFn, Fn.start, outsOf, range0, range1, range2, range3, range4, exs, ex, exh, ev, evs, evA, evK, evB, evP, evI, evO, getL, setE, T.at1, T.fz, T.fzs, d2, dLt, dLen, dTy, dIsi, dIs, optR, leafR, blR, onBl, mulOk, takeAr, putAr, bindTg, wipe, back, dc, eqv_int, eqv_bl, eqv_str, D.ok, kN_int, kN_bl, kN_non, wb, tb, f23, Sts.get, St.body, c1]
  have p2 := q2 37
  have e1 : ex cx (wb.get 1) [scr ns, some t1, v2, some (.leaf (.tup (letD a b))), some (.leaf (machD (.tup (letD a b)) m ss es rs)), v5, some (.leaf d), v7, v8] = .nx [scr ns, some t1, v2, some (.leaf (.tup (letD a b))), some (.leaf (machD (.tup (letD a b)) m ss es rs)), v5, some (.leaf d), some (.leaf (.bl B)), v8] := by
    simp [-R.bind, -R.thn, -S.thn, ↓bind_eq, ↓rthn_eq, ↓sthn_eq, runFn, Fn.start, outsOf, range0, range1, range2, range3, range4, exs, ex, exh, ev, evs, evA, evK, evB, evP, evI, evO, getL, setE, T.at1, T.fz, T.fzs, d2, dLt, dLen, dTy, dIsi, dIs, optR, leafR, blR, onBl, mulOk, takeAr, putAr, bindTg, wipe, back, dc, eqv_int, eqv_bl, eqv_str, D.ok, kN_int, kN_bl, kN_non, wb, tb, f23, Sts.get, St.body, p2]
  have p1 := q1 34
  have p3 := r17 38 B
  have sm : D.okN 60 (.str "machine") = true := by decide +kernel
  have e2 : ex cx (wb.get 2) [scr ns, some t1, v2, some (.leaf (.tup (letD a b))), some (.leaf (machD (.tup (letD a b)) m ss es rs)), v5, some (.leaf d), some (.leaf (.bl B)), v8] = .nx [scr ns, some t1, v2, some (.leaf (.tup (letD a b))), some (.leaf (machD (.tup (letD a b)) m ss es rs)), v5, some (.leaf d), some (.leaf (.bl B)), v8] := by
    cases B with
    | true => simp [-R.bind, -R.thn, -S.thn, ↓bind_eq, ↓rthn_eq, ↓sthn_eq, runFn, Fn.start, outsOf, range0, range1, range2, range3, range4, exs, ex, exh, ev, evs, evA, evK, evB, evP, evI, evO, getL, setE, T.at1, T.fz, T.fzs, d2, dLt, dLen, dTy, dIsi, dIs, optR, leafR, blR, onBl, mulOk, takeAr, putAr, bindTg, wipe, back, dc, eqv_int, eqv_bl, eqv_str, D.ok, kN_int, kN_bl, kN_non, wb, tb, f23, Sts.get, St.body, p1, p3]
    | false =>
      have p4 := r21 31 d (r12x 31 d (q1 31))
      simp [-R.bind, -R.thn, -S.thn, ↓bind_eq, ↓rthn_eq, ↓sthn_eq, runFn, Fn.start, outsOf, range0, range1, range2, range3, range4, exs, ex, exh, ev, evs, evA, evK, evB, evP, evI, evO, getL, setE, T.at1, T.fz, T.fzs, d2, dLt, dLen, dTy, dIsi, dIs, optR, leafR, blR, onBl, mulOk, takeAr, putAr, bindTg, wipe, back, dc, eqv_int, eqv_bl, eqv_str, D.ok, kN_int, kN_bl, kN_non, wb, tb, f23, Sts.get, St.body, p1, p3, p4, sm]
  refine ⟨t1, some (.leaf d), some (.leaf (.bl B)), w1, ?_⟩
  show exs cx (wb.drop 0) _ = _
  rw [exs_at _ wb 0 _ _ rfl e0, exs_at _ wb 1 _ _ rfl e1, exs_at _ wb 2 _ _ rfl e2]
  exact exs_end _ _
theorem turn_ok (ns : List Int) (t : T) (ht : Well t) (v2 v3 v4 v5 v6 v7 v8 : Option T) : ∃ t' u3 u4 u5 u6 u7, Well t' ∧ exs cx tb [scr ns, some t, v2, v3, v4, v5, v6, v7, v8] = .nx [scr ns, some t', v2, u3, u4, u5, u6, u7, v8] := by
  obtain ⟨a, b, t1, ha, hb3, w1, c1⟩ := r15 37 t ht
  have hb : b < 4 := by omega
  have e0 : ex cx (tb.get 0) [scr ns, some t, v2, v3, v4, v5, v6, v7, v8] = .nx [scr ns, some t1, v2, some (.leaf (.tup (letD a b))), v4, v5, v6, v7, v8] := by
    simp [-R.bind, -R.thn, -S.thn, ↓bind_eq, ↓rthn_eq, ↓sthn_eq, runFn, Fn.start, outsOf, range0, range1, range2, range3, range4, exs, ex, exh, ev, evs, evA, evK, evB, evP, evI, evO, getL, setE, T.at1, T.fz, T.fzs, d2, dLt, dLen, dTy, dIsi, dIs, optR, leafR, blR, onBl, mulOk, takeAr, putAr, bindTg, wipe, back, dc, eqv_int, eqv_bl, eqv_str, D.ok, kN_int, kN_bl, kN_non, tb, f23, Sts.get, St.body, c1]
  obtain ⟨x, t2, x1, x2, w2⟩ := (drs 38).nat t1 2 w1 (by omega) (by omega)
  obtain ⟨y, t3, y1, y2, w3⟩ := (drs 38).nat t2 2 w2 (by omega) (by omega)
  have x1' : pg.run 39 14 [t1, .leaf (.int 2)] = .ret (.leaf (.int x)) [some t2, none] := x1
  have y1' : pg.run 39 14 [t2, .leaf (.int 2)] = .ret (.leaf (.int y)) [some t3, none] := y1
  have hmo : ∃ mo : Nat, 0 < mo ∧ mo ≤ 12 ∧ dIx (.lst [.int 4, .int 12]) (.int (x : Int)) = some (.int (mo : Int)) := by
    have : x = 0 ∨ x = 1 := by omega
    rcases this with rfl | rfl
    · exact ⟨4, by omega, by omega, by rw [dIx_lst]; simp [L2.atI, L2.ixN]⟩
    · exact ⟨12, by omega, by omega, by rw [dIx_lst]; simp [L2.atI, L2.ixN]⟩
  obtain ⟨mo, hm0, hm12, hix⟩ := hmo
  have ll : (letD a b).length = 1 + b := by unfold letD; rw [List.length_map, letS_len ha hb]
  obtain ⟨m, ss, es, rs, t4, ⟨h, hrs⟩, w4, c4⟩ := r16 37 t3 w3 (letD a b) (1 + b) mo ((y : Int) == 0) ll (by omega) hm0 hm12
  have e1 : ex cx (tb.get 1) [scr ns, some t1, v2, some (.leaf (.tup (letD a b))), v4, v5, v6, v7, v8] = .nx [scr ns, some t4, v2, some (.leaf (.tup (letD a b))), some (.leaf (machD (.tup (letD a b)) m ss es rs)), v5, v6, v7, v8] := by
    generalize machD (.tup (letD a b)) m ss es rs = W at c4
    cases hB : ((y : Int) == 0) <;> rw [hB] at c4 <;> simp [-R.bind, -R.thn, -S.thn, ↓bind_eq, ↓rthn_eq, ↓sthn_eq, runFn, Fn.start, outsOf, range0, range1, range2, range3, range4, exs, ex, exh, ev, evs, evA, evK, evB, evP, evI, evO, getL, setE, T.at1, T.fz, T.fzs, d2, dLt, dLen, dTy, dIsi, dIs, optR, leafR, blR, onBl, mulOk, takeAr, putAr, bindTg, wipe, back, dc, eqv_int, eqv_bl, eqv_str, D.ok, kN_int, kN_bl, kN_non, tb, f23, Sts.get, St.body, x1', y1', hix, hB, c4]
  have q1 := r9m 34 _ (r6 35 a b ha hb) (lenL ha hb) h
  have q2 := r12 32 _ (r6 33 a b ha hb) (lenL ha hb) h
  have q3 := r17 38 (!resB rs)
  have l1 : ev cx (.lc (.get 8) (.nm 8) (.d (.idx (.fz 4) (.int 4))) (.cons (.cmp .lt (.idx (.get 8) (.int 2)) (.int 0)) .nil) [8]) [scr ns, some t4, v2, some (.leaf (.tup (letD a b))), some (.leaf (machD (.tup (letD a b)) m ss es rs)), v5, v6, v7, v8] = .ok (.lst ((rs.map rowT).filterMap negG)) [scr ns, some t4, v2, some (.leaf (.tup (letD a b))), some (.leaf (machD (.tup (letD a b)) m ss es rs)), v5, v6, v7, v8] := by
    rw [lc_pure cx (e1 := [scr ns, some t4, v2, some (.leaf (.tup (letD a b))), some (.leaf (machD (.tup (letD a b)) m ss es rs)), v5, v6, v7, v8]) (ds := rs.map rowT) negG]
    · rfl
    · have := mach_ix4 (.tup (letD a b)) m ss es rs
      simp [-R.bind, -R.thn, -S.thn, ↓bind_eq, ↓rthn_eq, ↓sthn_eq, runFn, Fn.start, outsOf, range0, range1, range2, range3, range4, exs, ex, exh, ev, evs, evA, evK, evB, evP, evI, evO, getL, setE, T.at1, T.fz, T.fzs, d2, dLt, dLen, dTy, dIsi, dIs, optR, leafR, blR, onBl, mulOk, takeAr, putAr, bindTg, wipe, back, dc, eqv_int, eqv_bl, eqv_str, D.ok, kN_int, kN_bl, kN_non, this, dWalk]
    · intro d hd
      obtain ⟨r, hr, rfl⟩ := List.mem_map.mp hd
      obtain ⟨i2, _⟩ := Mv_ix2 (h.mv r hr)
      have n2 := (neg_row (h.mv r hr)).2
      have hg : negG (rowT r) = if r.getD 2 0 < 0 then some (.leaf (rowT r)) else none := by
        unfold negG; rw [n2]; simp
      rw [hg]
      generalize r.getD 2 0 = c at i2
      generalize rowT r = R at i2
      refine ⟨[scr ns, some t4, v2, some (.leaf (.tup (letD a b))), some (.leaf (machD (.tup (letD a b)) m ss es rs)), v5, v6, v7, some (.leaf R)], ?_, rfl⟩
      by_cases hc : c < 0 <;> simp [-R.bind, -R.thn, -S.thn, ↓bind_eq, ↓rthn_eq, ↓sthn_eq, runFn, Fn.start, outsOf, range0, range1, range2, range3, range4, exs, ex, exh, ev, evs, evA, evK, evB, evP, evI, evO, getL, setE, T.at1, T.fz, T.fzs, d2, dLt, dLen, dTy, dIsi, dIs, optR, leafR, blR, onBl, mulOk, takeAr, putAr, bindTg, wipe, back, dc, eqv_int, eqv_bl, eqv_str, D.ok, kN_int, kN_bl, kN_non, lcB, i2, hc]
  have z1 := neg_emp h.mv
  have z2 := neg_ok rs
  generalize (rs.map rowT).filterMap negG = Z at l1 z1 z2
  have e2 : ex cx (tb.get 2) [scr ns, some t4, v2, some (.leaf (.tup (letD a b))), some (.leaf (machD (.tup (letD a b)) m ss es rs)), v5, v6, v7, v8] = .nx [scr ns, some t4, v2, some (.leaf (.tup (letD a b))), some (.leaf (machD (.tup (letD a b)) m ss es rs)), v5, v6, v7, v8] := by
    simp [-R.bind, -R.thn, -S.thn, ↓bind_eq, ↓rthn_eq, ↓sthn_eq, runFn, Fn.start, outsOf, range0, range1, range2, range3, range4, exs, ex, exh, ev, evs, evA, evK, evB, evP, evI, evO, getL, setE, T.at1, T.fz, T.fzs, d2, dLt, dLen, dTy, dIsi, dIs, optR, leafR, blR, onBl, mulOk, takeAr, putAr, bindTg, wipe, back, dc, eqv_int, eqv_bl, eqv_str, D.ok, kN_int, kN_bl, kN_non, tb, f23, Sts.get, St.body, q1, q2, ↓l1, z2, nil_ok, eqv_lst_nil, z1, q3]
  have e3 : ∃ t5 u5 u6 u7, Well t5 ∧ ex cx (tb.get 3) [scr ns, some t4, v2, some (.leaf (.tup (letD a b))), some (.leaf (machD (.tup (letD a b)) m ss es rs)), v5, v6, v7, v8] = .nx [scr ns, some t5, v2, some (.leaf (.tup (letD a b))), some (.leaf (machD (.tup (letD a b)) m ss es rs)), u5, u6, u7, v8] := by
    have hI : evI cx (tb.get 3).it [scr ns, some t4, v2, some (.leaf (.tup (letD a b))), some (.leaf (machD (.tup (letD a b)) m ss es rs)), v5, v6, v7, v8] = .ok ((List.range 5).map fun i : Nat => .int (i : Int)) [scr ns, some t4, v2, some (.leaf (.tup (letD a b))), some (.leaf (machD (.tup (letD a b)) m ss es rs)), v5, v6, v7, v8] := by
      have p1 : rngOf [.int 5] = some (.rng 0 5) := rngOf_nat (n := 5) (by unfold line; omega)
      have p2 := dWalk_rng (n := 5) (by unfold line; omega)
      simp [-R.bind, -R.thn, -S.thn, ↓bind_eq, ↓rthn_eq, ↓sthn_eq, runFn, Fn.start, outsOf, range0, range1, range2, range3, range4, exs, ex, exh, ev, evs, evA, evK, evB, evP, evI, evO, getL, setE, T.at1, T.fz, T.fzs, d2, dLt, dLen, dTy, dIsi, dIs, optR, leafR, blR, onBl, mulOk, takeAr, putAr, bindTg, wipe, back, dc, eqv_int, eqv_bl, eqv_str, D.ok, kN_int, kN_bl, kN_non, tb, f23, Sts.get, St.body, St.it, p1, p2]
    obtain ⟨e', k1, t5, u5, u6, u7, w5, rfl⟩ := forL_all (I := fun e => ∃ t5 u5 u6 u7, Well t5 ∧ e = [scr ns, some t5, v2, some (.leaf (.tup (letD a b))), some (.leaf (machD (.tup (letD a b)) m ss es rs)), u5, u6, u7, v8]) (f := frB cx (.nm 5) wb) ((List.range 5).map fun i : Nat => .int (i : Int)) _ ⟨t4, v5, v6, v7, w4, rfl⟩ (by
      rintro d hd _ ⟨t5, u5, u6, u7, w5, rfl⟩
      obtain ⟨t6, z6, z7, w6, g⟩ := bent_turn ns t5 w5 ha hb h (by omega) v2 (some (.leaf d)) u6 u7 v8
      exact ⟨_, g, t6, some (.leaf d), z6, z7, w6, rfl⟩)
    refine ⟨t5, u5, u6, u7, w5, ?_⟩
    show ex cx (.fr (.nm 5) (tb.get 3).it wb) _ = _
    rw [fr_eq cx _ _ _ _ _ _ hI]
    exact k1
  obtain ⟨t5, u5, u6, u7, w5, e3⟩ := e3
  refine ⟨t5, some (.leaf (.tup (letD a b))), some (.leaf (machD (.tup (letD a b)) m ss es rs)), u5, u6, u7, w5, ?_⟩
  show exs cx (tb.drop 0) _ = _
  rw [exs_at _ tb 0 _ _ rfl e0, exs_at _ tb 1 _ _ rfl e1, exs_at _ tb 2 _ _ rfl e2, exs_at _ tb 3 _ _ rfl e3]
  exact exs_end _ _
theorem m_k6 : dLen (.tup (sixS.map .str)) = some 6 := rfl
theorem m_p1 : pg.run 39 22 [.leaf (.int 5000)] = .ret (.leaf (machD (.tup (sixS.map .str)) 12 [0] [0] (manyR 5000))) [none] := r22 38 5000 (by omega)
theorem m_p2 : pg.run 39 22 [.leaf (.int 5001)] = .ret (.leaf (machD (.tup (sixS.map .str)) 12 [0] [0] (manyR 5001))) [none] := r22 38 5001 (by omega)
theorem m_p3 : pg.run 39 9 [.leaf (machD (.tup (sixS.map .str)) 12 [0] [0] (manyR 5000))] = .ret (.leaf (.bl true)) [none] := r9m 34 _ (r6s 35) m_k6 many_mach
theorem m_bad {rs : List (List Int)} (h : rs.length = 5001) : machB ((6 : Nat) : Int) (.int ((12 : Nat) : Int)) (natsD [0]) (natsD [0]) (.tup (rs.map rowT)) = false := by
  have t : isTupN 0 5000 (.tup (rs.map rowT)) = false := by
    have l : (rs.map rowT).length = 5001 := by rw [List.length_map, h]
    show (decide ((0 : Int) ≤ ((rs.map rowT).length : Int)) && decide (((rs.map rowT).length : Int) ≤ 5000)) = false
    rw [l]; rfl
  unfold machB
  rw [t, Bool.false_and, Bool.and_false]
theorem m_p4' (rs : List (List Int)) (h : rs.length = 5001) : pg.run (34 + 5) 9 [.leaf (machD (.tup (sixS.map .str)) 12 [0] [0] rs)] = .ret (.leaf (.bl false)) [none] := by
  have := r9 34 (.tup (sixS.map .str)) (.int ((12 : Nat) : Int)) (natsD [0]) (natsD [0]) (.tup (rs.map rowT)) 6 10 (r6s 35) m_k6 trivial (natsD_ok _ 9) (natsD_ok _ 9) (rows_okN _ 8)
  rw [m_bad h] at this
  exact this
theorem many_len (n : Nat) : (manyR n).length = n := by unfold manyR; rw [List.length_map, List.length_range]
theorem m_p4 : pg.run 39 9 [.leaf (machD (.tup (sixS.map .str)) 12 [0] [0] (manyR 5001))] = .ret (.leaf (.bl false)) [none] := m_p4' _ (many_len 5001)
theorem call1 (c : Cx) (f : Nat) (x : E) (d r : D) (e : Env) (h : ev c x e = .ok (.leaf d) e) (h2 : c.call f [.leaf d] = .ret (.leaf r) [none]) : ev c (.call f (.v x .nil) .nil [.v 0]) e = .ok (.leaf r) e := by
  simp [-R.bind, -R.thn, -S.thn, ↓bind_eq, ↓rthn_eq, ↓sthn_eq, runFn, Fn.start, outsOf, range0, range1, range2, range3, range4, exs, ex, exh, ev, evs, evA, evK, evB, evP, evI, evO, getL, setE, T.at1, T.fz, T.fzs, d2, dLt, dLen, dTy, dIsi, dIs, optR, leafR, blR, onBl, mulOk, takeAr, putAr, bindTg, wipe, back, dc, eqv_int, eqv_bl, eqv_str, D.ok, kN_int, kN_bl, kN_non, h, h2]
theorem is_bl (c : Cx) (x : E) (u v : Bool) (e : Env) (h : ev c x e = .ok (.leaf (.bl u)) e) : ev c (.cmp .is x (.bl v)) e = .ok (.leaf (.bl (decide (u = v)))) e := by
  simp [-R.bind, -R.thn, -S.thn, ↓bind_eq, ↓rthn_eq, ↓sthn_eq, runFn, Fn.start, outsOf, range0, range1, range2, range3, range4, exs, ex, exh, ev, evs, evA, evK, evB, evP, evI, evO, getL, setE, T.at1, T.fz, T.fzs, d2, dLt, dLen, dTy, dIsi, dIs, optR, leafR, blR, onBl, mulOk, takeAr, putAr, bindTg, wipe, back, dc, eqv_int, eqv_bl, eqv_str, D.ok, kN_int, kN_bl, kN_non, h]
theorem and2 (c : Cx) (x y : E) (u v : Bool) (e : Env) (h : ev c x e = .ok (.leaf (.bl u)) e) (h2 : ev c y e = .ok (.leaf (.bl v)) e) : ev c (.bop true x (.cons y .nil)) e = .ok (.leaf (.bl (u && v))) e := by
  cases u <;> simp [-R.bind, -R.thn, -S.thn, ↓bind_eq, ↓rthn_eq, ↓sthn_eq, runFn, Fn.start, outsOf, range0, range1, range2, range3, range4, exs, ex, exh, ev, evs, evA, evK, evB, evP, evI, evO, getL, setE, T.at1, T.fz, T.fzs, d2, dLt, dLen, dTy, dIsi, dIs, optR, leafR, blR, onBl, mulOk, takeAr, putAr, bindTg, wipe, back, dc, eqv_int, eqv_bl, eqv_str, D.ok, kN_int, kN_bl, kN_non, h, h2]
theorem int_ev (c : Cx) (i : Int) (e : Env) : ev c (.int i) e = .ok (.leaf (.int i)) e := by rw [ev]
theorem law_end (run : Nat → List T → Out) (gl : PySem.Str → Option D) (io : List Nat) (sb : Nat → Nat → Bool) (A B : D) (e' : Env) (p1 : run 22 [.leaf (.int 5000)] = .ret (.leaf A) [none]) (p2 : run 22 [.leaf (.int 5001)] = .ret (.leaf B) [none]) (p3 : run 9 [.leaf A] = .ret (.leaf (.bl true)) [none]) (p4 : run 9 [.leaf B] = .ret (.leaf (.bl false)) [none]) : ex ⟨run, gl, io, sb⟩ (f23.body.get 2) e' = .rt (.leaf (.bl true)) e' := by
  let c : Cx := ⟨run, gl, io, sb⟩
  show ex c _ _ = _
  have h1 := call1 c 22 (.int 5000) (.int 5000) A e' (int_ev c 5000 e') p1
  have h2 := call1 c 22 (.int 5001) (.int 5001) B e' (int_ev c 5001 e') p2
  have h3 := call1 c 9 _ A (.bl true) e' h1 p3
  have h4 := call1 c 9 _ B (.bl false) e' h2 p4
  have h5 := is_bl c _ true true e' h3
  have h6 := is_bl c _ false false e' h4
  have h7 := and2 c _ _ _ _ e' h5 h6
  show ex c (.ret (.bop true (.cmp .is (.call 9 (.v (.call 22 (.v (.int 5000) .nil) .nil [.v 0]) .nil) .nil [.v 0]) (.bl true)) (.cons (.cmp .is (.call 9 (.v (.call 22 (.v (.int 5001) .nil) .nil [.v 0]) .nil) .nil [.v 0]) (.bl false)) .nil))) e' = _
  rw [ex, h7]
  rfl
theorem law_true : ∀ ns : List Int, ns.length ≤ 63 → ∃ os, pg.run 40 23 (scrT ns) = .ret (.leaf (.bl true)) os := by
  intro ns hlen
  have hj : pg.run 39 13 [.leaf (.lst (ns.map .int))] = .ret (well ns 0 40507) [none] := by
    rw [run_eq (F := f13) rfl]
    exact well_ok _ _ _ ns hlen
  have w0 : Well (well ns 0 40507) := ⟨ns, 0, 40507, rfl, by omega, by omega, by omega⟩
  have e1 : ex cx (f23.body.get 0) [scr ns, none, none, none, none, none, none, none, none] = .nx [scr ns, some (well ns 0 40507), none, none, none, none, none, none, none] := by
    simp [-R.bind, -R.thn, -S.thn, ↓bind_eq, ↓rthn_eq, ↓sthn_eq, runFn, Fn.start, outsOf, range0, range1, range2, range3, range4, exs, ex, exh, ev, evs, evA, evK, evB, evP, evI, evO, getL, setE, T.at1, T.fz, T.fzs, d2, dLt, dLen, dTy, dIsi, dIs, optR, leafR, blR, onBl, mulOk, takeAr, putAr, bindTg, wipe, back, dc, eqv_int, eqv_bl, eqv_str, D.ok, kN_int, kN_bl, kN_non, f23, Sts.get, scr, hj]
  let m : Nat := 1 + min ns.length 6
  have hm : m ≤ 10 := by show 1 + min ns.length 6 ≤ 10; omega
  have hmi : db .min [.int (ns.length : Int), .int 6] = some (.leaf (.int ((min ns.length 6 : Nat) : Int))) := by
    show some (T.leaf (.int (if (6 : Int) < ns.length then 6 else ns.length))) = _
    congr 3
    split <;> omega
  have e2 : ∃ e', ex cx (f23.body.get 1) [scr ns, some (well ns 0 40507), none, none, none, none, none, none, none] = .nx e' := by
    have hI : evI cx (f23.body.get 1).it [scr ns, some (well ns 0 40507), none, none, none, none, none, none, none] = .ok ((List.range m).map fun i : Nat => .int (i : Int)) [scr ns, some (well ns 0 40507), none, none, none, none, none, none, none] := by
      have q1 := rngOf_nat (n := m) (by unfold line; omega)
      have q2 := dWalk_rng (n := m) (by unfold line; omega)
      have q3 : (m : Int) = 1 + ((min ns.length 6 : Nat) : Int) := by show ((1 + min ns.length 6 : Nat) : Int) = _; omega
      rw [q3] at q1
      have q0 : db .len [.lst (ns.map .int)] = some (.leaf (.int (ns.length : Int))) := by
        rw [db_len]
        show some (T.leaf (.int ((ns.map D.int).length : Int))) = _
        rw [List.length_map]
      clear_value m
      generalize ((min ns.length 6 : Nat) : Int) = z at hmi q1
      simp [-R.bind, -R.thn, -S.thn, ↓bind_eq, ↓rthn_eq, ↓sthn_eq, runFn, Fn.start, outsOf, range0, range1, range2, range3, range4, exs, ex, exh, ev, evs, evA, evK, evB, evP, evI, evO, getL, setE, T.at1, T.fz, T.fzs, d2, dLt, dLen, dTy, dIsi, dIs, optR, leafR, blR, onBl, mulOk, takeAr, putAr, bindTg, wipe, back, dc, eqv_int, eqv_bl, eqv_str, D.ok, kN_int, kN_bl, kN_non, f23, Sts.get, St.it, scr, q0, hmi, q1, q2]
    obtain ⟨e', h1, _⟩ := forL_all (I := fun e => ∃ (t : T) (v2 v3 v4 v5 v6 v7 v8 : Option T), Well t ∧ e = [scr ns, some t, v2, v3, v4, v5, v6, v7, v8]) (f := frB cx (.nm 2) tb) ((List.range m).map fun i : Nat => .int (i : Int)) _ ⟨well ns 0 40507, none, none, none, none, none, none, none, w0, rfl⟩ (by
      rintro d hd _ ⟨t, v2, v3, v4, v5, v6, v7, v8, wt, rfl⟩
      obtain ⟨t', u3, u4, u5, u6, u7, g1, g2⟩ := turn_ok ns t wt (some (.leaf d)) v3 v4 v5 v6 v7 v8
      exact ⟨_, g2, t', some (.leaf d), u3, u4, u5, u6, u7, v8, g1, rfl⟩)
    refine ⟨e', ?_⟩
    show ex cx (.fr (.nm 2) (f23.body.get 1).it tb) _ = _
    rw [fr_eq cx _ _ _ _ _ _ hI]
    exact h1
  obtain ⟨e', e2⟩ := e2
  have e3 := law_end (pg.run 39) pg.glob [] pg.sub _ _ e' m_p1 m_p2 m_p3 m_p4
  refine ⟨outsOf f23 e', ?_⟩
  rw [run_eq (F := f23) rfl]
  apply run_rt rfl
  show exs cx (f23.body.drop 0) [scr ns, none, none, none, none, none, none, none, none] = _
  rw [exs_at _ f23.body 0 _ _ rfl e1, exs_at _ f23.body 1 _ _ rfl e2, exs_rt _ f23.body 2 _ _ _ rfl e3]
end L_k02
end
open PySem PySem.W PyProof.Rows in
set_option maxRecDepth 100000 in
set_option maxHeartbeats 0 in
theorem PySem.Challenge.cw_costslimited_k02_machines_judged_holds : PySem.Challenge.rw_costslimited_k02_machines_judged.Holds := by
  w_on; o_law; k_head; (case hw => w_witness2)
  k_fill
  refine Mi.walkM (l := PySem.Challenge.rw_costslimited_k02_machines_judged) (k := 40) (n := 63) (x := "script") (out := L_k02.pg.run 40 23) rfl (by decide) rfl ⟨rfl, by decide, by decide⟩ (fun w h Y => PySem.W.kIn_of Y) ?F L_k02.law_true
  case F =>
    intro w mg fa h KX G hmg
    refine' L_k02.all_mk KX G hmg ?ha0 ?hl0 ?hc0 ?hk0 ?ha1 ?hl1 ?hc1 ?hk1 ?ha2 ?hl2 ?hc2 ?hk2 ?ha3 ?hl3 ?hc3 ?hk3 ?ha4 ?hl4 ?hc4 ?hk4 ?ha5 ?hl5 ?hc5 ?hk5 ?ha6 ?hl6 ?hc6 ?hk6 ?ha7 ?hl7 ?hc7 ?hk7 ?ha8 ?hl8 ?hc8 ?hk8 ?ha9 ?hl9 ?hc9 ?hk9 ?ha10 ?hl10 ?hc10 ?hk10 ?ha11 ?hl11 ?hc11 ?hk11 ?ha12 ?hl12 ?hc12 ?hk12 ?ha13 ?hl13 ?hc13 ?hk13 ?ha14 ?hl14 ?hc14 ?hk14 ?ha15 ?hl15 ?hc15 ?hk15 ?ha16 ?hl16 ?hc16 ?hk16 ?ha17 ?hl17 ?hc17 ?hk17 ?ha18 ?hl18 ?hc18 ?hk18 ?ha19 ?hl19 ?hc19 ?hk19 ?ha20 ?hl20 ?hc20 ?hk20 ?ha21 ?hl21 ?hc21 ?hk21 ?ha22 ?hl22 ?hc22 ?hk22 ?ha23 ?hl23 ?hc23 ?hk23 ?qa0 ?qk0 ?qb0 ?qt0 ?qi0 ?qa1 ?qx1 ?qk1 ?qb1 ?qt1 ?qi1 ?qs0_0 ?qs0_1 ?qs1_0 ?qs1_1 ?gg0 ?gg1 ?gg2 ?gg3 ?gg4 ?gg5 ?gg6 ?gg7 ?zz0 ?zz1 ?zz2 ?zz3 ?zz4 ?zz5 ?zz6 ?zz7 ?zz8 ?zz9 ?zz10 ?zz11 ?zz12 ?zz13 ?zz14
    (case ha0 => k_is)
    (case hl0 => k_is)
    (case hc0 => k_is)
    (case hk0 => k_is)
    (case ha1 => k_is)
    (case hl1 => k_is)
    (case hc1 => k_is)
    (case hk1 => k_is)
    (case ha2 => k_is)
    (case hl2 => k_is)
    (case hc2 => k_is)
    (case hk2 => k_is)
    (case ha3 => k_is)
    (case hl3 => k_is)
    (case hc3 => k_is)
    (case hk3 => k_is)
    (case ha4 => k_is)
    (case hl4 => k_is)
    (case hc4 => k_is)
    (case hk4 => k_is)
    (case ha5 => k_is)
    (case hl5 => k_is)
    (case hc5 => k_is)
    (case hk5 => k_is)
    (case ha6 => k_is)
    (case hl6 => k_is)
    (case hc6 => k_is)
    (case hk6 => k_is)
    (case ha7 => k_is)
    (case hl7 => k_is)
    (case hc7 => k_is)
    (case hk7 => k_is)
    (case ha8 => k_is)
    (case hl8 => k_is)
    (case hc8 => k_is)
    (case hk8 => k_is)
    (case ha9 => k_is)
    (case hl9 => k_is)
    (case hc9 => k_is)
    (case hk9 => k_is)
    (case ha10 => k_is)
    (case hl10 => k_is)
    (case hc10 => k_is)
    (case hk10 => k_is)
    (case ha11 => k_is)
    (case hl11 => k_is)
    (case hc11 => k_is)
    (case hk11 => k_is)
    (case ha12 => k_is)
    (case hl12 => k_is)
    (case hc12 => k_is)
    (case hk12 => k_is)
    (case ha13 => k_is)
    (case hl13 => k_is)
    (case hc13 => k_is)
    (case hk13 => k_is)
    (case ha14 => k_is)
    (case hl14 => k_is)
    (case hc14 => k_is)
    (case hk14 => k_is)
    (case ha15 => k_is)
    (case hl15 => k_is)
    (case hc15 => k_is)
    (case hk15 => k_is)
    (case ha16 => k_is)
    (case hl16 => k_is)
    (case hc16 => k_is)
    (case hk16 => k_is)
    (case ha17 => k_is)
    (case hl17 => k_is)
    (case hc17 => k_is)
    (case hk17 => k_is)
    (case ha18 => k_is)
    (case hl18 => k_is)
    (case hc18 => k_is)
    (case hk18 => k_is)
    (case ha19 => k_is)
    (case hl19 => k_is)
    (case hc19 => k_is)
    (case hk19 => k_is)
    (case ha20 => k_is)
    (case hl20 => k_is)
    (case hc20 => k_is)
    (case hk20 => k_is)
    (case ha21 => k_is)
    (case hl21 => k_is)
    (case hc21 => k_is)
    (case hk21 => k_is)
    (case ha22 => k_is)
    (case hl22 => k_is)
    (case hc22 => k_is)
    (case hk22 => k_is)
    (case ha23 => k_is)
    (case hl23 => k_is)
    (case hc23 => k_is)
    (case hk23 => k_is)
    (case qa0 => k_is)
    (case qk0 => k_is)
    (case qb0 => k_is)
    (case qt0 => k_is)
    (case qi0 => k_is)
    (case qa1 => k_is)
    (case qx1 => k_exc)
    (case qk1 => k_is)
    (case qb1 => k_is)
    (case qt1 => k_is)
    (case qi1 => k_is)
    (case qs0_0 => (first | rfl | k_is))
    (case qs0_1 => (first | rfl | k_is))
    (case qs1_0 => (first | rfl | k_is))
    (case qs1_1 => (first | rfl | k_is))
    (case gg0 => k_is)
    (case gg1 => k_is)
    (case gg2 => k_is)
    (case gg3 => k_is)
    (case gg4 => k_is)
    (case gg5 => k_is)
    (case gg6 => k_is)
    (case gg7 => k_is)
    (case zz0 => k_is)
    (case zz1 => k_is)
    (case zz2 => k_is)
    (case zz3 => k_is)
    (case zz4 => k_is)
    (case zz5 => k_is)
    (case zz6 => k_is)
    (case zz7 => k_is)
    (case zz8 => k_is)
    (case zz9 => k_is)
    (case zz10 => k_is)
    (case zz11 => k_is)
    (case zz12 => k_is)
    (case zz13 => k_is)
    (case zz14 => k_is)
