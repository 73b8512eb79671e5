import PyProof.Rows.All
import Wide.All
import OpenK.AllK
import Wide.FinOn
import HandS.ForMost
import HandS.Exc
import HandS.ExcOwn
import HandS.Lambda
import HandS.IsInst
import HandS.StrMore
import HandS.Zip
import HandS.Wide
import HandS.EndTab
import HandS.HeadWalk
import HandS.TupAny
import KE.DataEq
import KE.DatumIndex
import HandS.Replace
import HandS.ExcIs
import KE.GoesZip
import KE.GoesMore
import KE.GoesEnum
import HandS.Defaults
import HandS.HeadHook4
import KE.KStateDown
import HandS.Head0
import HandS.Head1
import HandS.Head2
import HandS.HeadEnd
import PySem.Challenge.RW_lotsofrows_k00_whole_rows_and_letters
set_option Elab.async false
set_option linter.all false
set_option maxRecDepth 100000
set_option maxHeartbeats 0
/-! PvCore: plain values, a small language over them, how it runs. Core Lean alone. -/
namespace Pv

/-- plain values; texts as their codes; scr: the script, walked and its length asked -/
inductive PV where
  | non | bl (b : Bool) | int (i : Int) | str (s : List Nat)
  | tup (xs : List PV) | lst (xs : List PV) | dct (ks vs : List PV)
  | scr (xs : List PV)
  | fn (i : Nat) | exc (c : Nat) (d : List PV)
  deriving Inhabited

def line : Nat := 16777216

mutual
/-- None, truths, ints, texts, tuples and lists of these -/
def PV.plain : PV → Bool
  | .non | .bl _ | .int _ | .str _ => true
  | .tup xs => plainAll xs
  | .lst xs => plainAll xs
  | .dct _ _ | .fn _ | .exc _ _ | .scr _ => false
def plainAll : List PV → Bool
  | [] => true
  | x :: xs => x.plain && plainAll xs
end
mutual
/-- how deep -/
def PV.deep : PV → Nat
  | .tup xs => deepAll xs + 1
  | .lst xs => deepAll xs + 1
  | _ => 0
def deepAll : List PV → Nat
  | [] => 0
  | x :: xs => max x.deep (deepAll xs)
end
mutual
/-- Python's == on plain values -/
def eqv : PV → PV → Bool
  | .non, .non => true
  | .bl a, .bl b => a == b
  | .bl a, .int j => (if a then 1 else 0) == j
  | .int i, .bl b => i == (if b then 1 else 0)
  | .int i, .int j => i == j
  | .str x, .str y => x == y
  | .lst xs, .lst ys => eqvAll xs ys
  | .tup xs, .tup ys => eqvAll xs ys
  | _, _ => false
def eqvAll : List PV → List PV → Bool
  | [], [] => true
  | a :: as, b :: bs => eqv a b && eqvAll as bs
  | _, _ => false
end

/-- a place in n items, from the left or (below 0) from the right -/
def ixAt (n : Nat) (i : Int) : Option Nat := if 0 ≤ i then (if i < n then some i.toNat else none) else if -(n : Int) ≤ i then some (i + n).toNat else none
def sIx (n dflt : Nat) : Option Int → Nat
  | none => dflt
  | some i => if i < 0 then (i + (n : Int)).toNat else min i.toNat n
def cutL {α : Type} (xs : List α) (lo hi : Option Int) : List α := (xs.drop (sIx xs.length 0 lo)).take (sIx xs.length xs.length hi - sIx xs.length 0 lo)

/-- operators of two places -/
inductive B2 where
  | add | sub | mul | fdiv | mod | pow
  | eq | ne | lt | le | gt | ge | in_ | nin | is_ | nis
  | ix | join | sfind | lfind | min2 | max2
  deriving DecidableEq, Repr
/-- operators of one place -/
inductive U1 where
  | len | tuple | toint | all | any | neg
  deriving DecidableEq, Repr
inductive Ty where
  | int | bool | str | tuple | list | dict | cls (c : Nat)
  deriving DecidableEq, Repr

def bits (i : Int) : Nat := if i == 0 then 0 else i.natAbs.log2 + 1
def mulOk (i j : Int) : Bool := decide (bits i ≤ 64) || decide (bits j ≤ 64) || decide (bits i + bits j ≤ 134217728)
def strLt (x y : List Nat) : Bool := decide (x < y)
def joinS (sep : List Nat) : List (List Nat) → List Nat
  | [] => []
  | [x] => x
  | x :: y :: r => x ++ sep ++ joinS sep (y :: r)
def strsOf : List PV → Option (List (List Nat))
  | [] => some []
  | .str s :: r => (strsOf r).map (s :: ·)
  | _ :: _ => none
def boolsOf : List PV → Option (List Bool)
  | [] => some []
  | .bl b :: r => (boolsOf r).map (b :: ·)
  | _ :: _ => none
def lenSum : List (List Nat) → Nat
  | [] => 0
  | x :: r => x.length + lenSum r
def isKey : PV → Bool
  | .int _ | .str _ => true
  | _ => false
def keyEq : PV → PV → Bool
  | .int i, .int j => i == j
  | .str x, .str y => x == y
  | _, _ => false
def dget (k : PV) : List PV → List PV → Option PV
  | x :: ks, v :: vs => if keyEq x k then some v else dget k ks vs
  | _, _ => none
def findEq (x : PV) : List PV → Nat → Option Nat
  | [], _ => none
  | y :: r, n => if eqv y x then some n else findEq x r (n + 1)
/-- a value and whether it is a new list of one's own -/
abbrev FV := Bool × PV

def bAdd : PV → PV → Option FV
  | .int i, .int j => some (false, .int (i + j))
  | .str x, .str y => if x.length + y.length ≤ line then some (false, .str (x ++ y)) else none
  | .lst x, .lst y => if x.length + y.length ≤ line then some (true, .lst (x ++ y)) else none
  | _, _ => none
def bInt (g : Int → Int → Option PV) : PV → PV → Option FV
  | .int i, .int j => (g i j).map fun v => (false, v)
  | _, _ => none
def bMul : PV → PV → Option FV
  | .int i, .int j => if mulOk i j then some (false, .int (i * j)) else none
  | .lst x, .int k => if k < 1000000 ∧ -1000000 < k ∧ x.length * k.toNat ≤ line then some (true, .lst (List.replicate k.toNat x).flatten) else none
  | .str x, .int k => if k < 1000000 ∧ -1000000 < k ∧ x.length * k.toNat ≤ line then some (false, .str (List.replicate k.toNat x).flatten) else none
  | _, _ => none
def bEq (n : Bool) (x y : PV) : Option FV := if x.plain && y.plain && decide (x.deep ≤ 60) && decide (y.deep ≤ 60) then some (false, .bl (xor n (eqv x y))) else none
def bLt : PV → PV → Option FV
  | .int i, .int j => some (false, .bl (decide (i < j)))
  | .str x, .str y => some (false, .bl (strLt x y))
  | _, _ => none
def anyEq (x : PV) (ys : List PV) : Bool := ys.any fun y => eqv y x
def bIn (n : Bool) : PV → PV → Option FV
  | .str x, .str s => (match x with
    | [c] => some (false, .bl (xor n (s.elem c)))
    | _ => none)
  | x, .lst ys => if x.plain && plainAll ys && decide (x.deep ≤ 60) then some (false, .bl (xor n (anyEq x ys))) else none
  | x, .tup ys => if x.plain && plainAll ys && decide (x.deep ≤ 60) then some (false, .bl (xor n (anyEq x ys))) else none
  | _, _ => none
def isNon : PV → Bool
  | .non => true
  | _ => false
def bIs (n : Bool) : PV → PV → Option FV
  | x, .non => some (false, .bl (xor n (isNon x)))
  | _, _ => none
def bIx : PV → PV → Option FV
  | .lst xs, .int i => ((ixAt xs.length i).bind fun j => xs[j]?).map fun v => (false, v)
  | .tup xs, .int i => ((ixAt xs.length i).bind fun j => xs[j]?).map fun v => (false, v)
  | .str xs, .int i => if xs.length ≤ line then ((ixAt xs.length i).bind fun j => xs[j]?).map fun c => (false, .str [c]) else none
  | .dct ks vs, k => if isKey k then (dget k ks vs).map fun v => (false, v) else none
  | _, _ => none
def bJoin : PV → PV → Option FV
  | .str s, .lst ys => (strsOf ys).bind fun l => if lenSum l + l.length * s.length ≤ line then some (false, .str (joinS s l)) else none
  | .str s, .tup ys => (strsOf ys).bind fun l => if lenSum l + l.length * s.length ≤ line then some (false, .str (joinS s l)) else none
  | _, _ => none
def bSfind : PV → PV → Option FV
  | .str s, .str x => (match x with
    | [c] => (s.findIdx? fun d => d == c).map fun (n : Nat) => (false, PV.int (n : Int))
    | _ => none)
  | _, _ => none
def bLfind : PV → PV → Option FV
  | .lst xs, y => if y.plain && plainAll xs && decide (y.deep ≤ 60) then (findEq y xs 0).map fun (n : Nat) => (false, PV.int (n : Int)) else none
  | _, _ => none
def b2 : B2 → PV → PV → Option FV
  | .add => bAdd
  | .sub => bInt fun i j => some (.int (i - j))
  | .mul => bMul
  | .fdiv => bInt fun i j => if 0 < j ∧ j.natAbs.log2 < 9000 then some (.int (i / j)) else none
  | .mod => bInt fun i j => if 0 < j then some (.int (i % j)) else none
  | .pow => bInt fun i j => if 0 ≤ j ∧ j ≤ 1000000 ∧ i.natAbs < 18446744073709551616 then some (.int (i ^ j.toNat)) else none
  | .eq => bEq false
  | .ne => bEq true
  | .lt => bLt
  | .le => bInt fun i j => some (.bl (decide (i ≤ j)))
  | .gt => bInt fun i j => some (.bl (decide (j < i)))
  | .ge => bInt fun i j => some (.bl (decide (j ≤ i)))
  | .in_ => bIn false
  | .nin => bIn true
  | .is_ => bIs false
  | .nis => bIs true
  | .ix => bIx
  | .join => bJoin
  | .sfind => bSfind
  | .lfind => bLfind
  | .min2 => bInt fun i j => some (.int (if j < i then j else i))
  | .max2 => bInt fun i j => some (.int (if j > i then j else i))

/-- what a method may be asked of -/
def recvOk : B2 → PV → Bool
  | .join, .str _ => true
  | .sfind, .str _ => true
  | .lfind, .lst _ => true
  | _, _ => false
def u1 : U1 → PV → Option FV
  | .len, .str s => if s.length ≤ line then some (false, .int s.length) else none
  | .len, .tup xs => some (false, .int xs.length)
  | .len, .lst xs => some (false, .int xs.length)
  | .len, .scr xs => some (false, .int xs.length)
  | .tuple, .tup xs => some (false, .tup xs)
  | .tuple, .lst xs => some (false, .tup xs)
  | .toint, .int i => some (false, .int i)
  | .toint, .bl b => some (false, .int (if b then 1 else 0))
  | .all, .lst xs => (boolsOf xs).map fun bs => (false, .bl (bs.all id))
  | .any, .lst xs => (boolsOf xs).map fun bs => (false, .bl (bs.any id))
  | .neg, .int i => some (false, .int (-i))
  | _, _ => none

/-- isinstance; sup c k: class c is k or below it -/
def isTy (sup : Nat → Nat → Bool) : PV → Ty → Bool
  | .bl _, .int => true
  | .bl _, .bool => true
  | .int _, .int => true
  | .str _, .str => true
  | .tup _, .tuple => true
  | .lst _, .list => true
  | .scr _, .list => true
  | .dct _ _, .dict => true
  | .exc c _, .cls k => sup c k
  | _, _ => false
def PV.isExc : PV → Bool
  | .exc _ _ => true
  | _ => false

/-- truth of a value -/
def truth : PV → Option Bool
  | .non => some false
  | .bl b => some b
  | .int i => some (i != 0)
  | .str s => if s.length ≤ line then some (!s.isEmpty) else none
  | .tup xs => some (!xs.isEmpty)
  | .lst xs => some (!xs.isEmpty)
  | _ => none

/-! ### the language -/
mutual
inductive E where
  | cn (v : PV) | glo (j : Nat) | fnv (f : Nat) | var (i : Nat) | dead
  | bin (o : B2) (a b : P) | meth (o : B2) (a : E) (b : P) | chn (o o' : B2) (a b c : P) | un (o : U1) (a : P) | isi (a : P) (ts : List Ty)
  | band (a b : E) | bor (a b : E) | bnot (a : E) | ite (t : T) (a b : E)
  | tup (es : Es) | lst (es : Es) | dic (d : Ds)
  | slc (a : P) (lo hi : O)
  | call (f : Nat) (as : As) | callk (f : Nat) (as : As) (w : Nat) | callv (i : Nat) (as : As)
  | caught (b : E)
  | comp (e : E) (t : Tg) (it : It) (c : O') (vs : List Nat)
inductive P where
  | v (i : Nat) | e (e : E)
inductive T where
  | tt (e : E) | cmp (o : B2) (a b : P) | chn (o o' : B2) (a b c : P)
  | tand (a b : T) | tor (a b : T) | tnot (a : T)
inductive Es where
  | nil | cons (e : E) (r : Es)
inductive Ds where
  | nil | cons (k v : E) (r : Ds)
inductive O where
  | no | so (e : E)
inductive O' where
  | no | so (t : T)
inductive As where
  | nil | e (e : E) (r : As) | l (i : Nat) (r : As)
inductive Tg where
  | nm (i : Nat) | tp (is : List Nat)
inductive It where
  | seq (e : E) | rng1 (a : E) | rng2 (a b : E) | rng3 (a b : E) (c : Int) | zip (a b : E) | enum (a : E)
end

mutual
inductive S where
  | asg (i : Nat) (e : E) | asgT (is : List Nat) (e : E) | par (is : List Nat) (es : Es)
  | expr (e : E) | app (i : Nat) (e : E) | ext (i : Nat) (e : E) | put (i : Nat) (k v : E)
  | if_ (t : T) (a b : Ss) | for_ (t : Tg) (it : It) (b : Ss) | whl (t : T) (b : Ss)
  | ret (e : E) | retN | raise (c : Nat) | pass | brk | cont | dead
inductive Ss where
  | nil | cons (s : S) (r : Ss)
end

/-! ### how it runs -/
/-- what a slot holds: a value that stays, or a list or dict of the frame's own -/
inductive SV where
  | fz (v : PV) | own (v : PV)
  deriving Inhabited
abbrev Sl := List (Option SV)
inductive R (α : Type) where
  | ok (a : α) (s : Sl) | err (c : Nat) (d : List PV) (s : Sl) | bad
def R.bind {α β : Type} (x : R α) (f : α → Sl → R β) : R β := match x with
  | .ok a s => f a s
  | .err c d s => .err c d s
  | .bad => .bad
inductive XR where
  | next (s : Sl) | ret (v : FV) (s : Sl) | brk (s : Sl) | cont (s : Sl) | err (c : Nat) (d : List PV) (s : Sl) | bad
/-- a call's answer: the value, and what the parameters' slots hold behind it -/
inductive RC where
  | ok (v : FV) (os : List SV) | err (c : Nat) (d : List PV) (os : List SV) | bad

/-- what the run leans on: calls, constants of the module, classes, the keyword calls' orders, the sizes -/
structure Env where
  call : Nat → List SV → RC
  glo : Nat → Option PV
  sup : Nat → Nat → Bool
  perm : Nat → List Nat
  fuel : Nat

def SV.val : SV → PV
  | .fz v => v
  | .own v => v
def getS (s : Sl) (i : Nat) : Option PV := match s[i]? with
  | some (some v) => some v.val
  | _ => none
def isOwn (s : Sl) (i : Nat) : Bool := match s[i]? with
  | some (some (.own _)) => true
  | _ => false
/-- an item is stored: a new list of one's own, or what stays -/
def mkSV : FV → SV
  | (true, v) => .own v
  | (false, v) => .fz v
def liftO {α : Type} (o : Option α) (s : Sl) : R α := match o with
  | some a => .ok a s
  | none => .bad
/-- read a slot for keeps: an own list is one's own no more -/
def keepS (s : Sl) (i : Nat) : R PV := match s[i]? with
  | some (some (.fz v)) => .ok v s
  | some (some (.own v)) => .ok v (s.set i (some (.fz v)))
  | _ => .bad
def reread (a : P) (v : PV) (s : Sl) : Option PV := match a with
  | .v i => getS s i
  | .e _ => some v
/-- the arguments as handed on -/
inductive AV where
  | val (v : PV) | lent (i : Nat)
def argOf (s : Sl) : AV → Option SV
  | .val v => some (.fz v)
  | .lent i => match s[i]? with
    | some (some v) => some v
    | _ => none
def argsOf (s : Sl) : List AV → Option (List SV)
  | [] => some []
  | a :: r => match argOf s a, argsOf s r with
    | some v, some vs => some (v :: vs)
    | _, _ => none
/-- the own slots that are lent -/
def lentOf (s : Sl) : List AV → List Nat
  | [] => []
  | .val _ :: r => lentOf s r
  | .lent i :: r => if isOwn s i then i :: lentOf s r else lentOf s r
/-- behind a call: what was lent, as it is now -/
def backS (s : Sl) : List AV → List SV → Sl
  | .lent i :: r, v :: vs => backS (if isOwn s i then s.set i (some v) else s) r vs
  | .val _ :: r, _ :: vs => backS s r vs
  | _, _ => s
def noDup : List Nat → Bool
  | [] => true
  | x :: r => !r.elem x && noDup r
def runCall (E : Env) (f : Nat) (as : List AV) (s : Sl) : R FV := match argsOf s as with
  | none => .bad
  | some vs => if noDup (lentOf s as) then (match E.call f vs with
      | .ok v os => .ok v (backS s as os)
      | .err c d os => .err c d (backS s as os)
      | .bad => .bad) else .bad
def permL (as : List AV) (p : List Nat) : List AV := p.filterMap fun i => as[i]?

/-- names stored; ro: slots that must not be stored to -/
def setS (ro : List Nat) (s : Sl) (i : Nat) (v : SV) : Option Sl := if ro.elem i || !decide (i < s.length) then none else some (s.set i (some v))
def setAll (ro : List Nat) (s : Sl) : List Nat → List PV → Option Sl
  | [], [] => some s
  | i :: is, v :: vs => (setS ro s i (.fz v)).bind fun s' => setAll ro s' is vs
  | _, _ => none
def tgSet (ro : List Nat) (s : Sl) : Tg → PV → Option Sl
  | .nm i, v => setS ro s i (.fz v)
  | .tp is, .tup vs => setAll ro s is vs
  | .tp _, _ => none
/-- the slots of a comprehension's own names -/
def wipeS (s : Sl) : List Nat → Option Sl
  | [] => some s
  | i :: r => (wipeS s r).bind fun s' => if isOwn s' i then none else some (s'.set i none)
def backW (s0 s : Sl) : List Nat → Sl
  | [] => s
  | i :: r => match s0[i]? with
    | some o => (backW s0 s r).set i o
    | none => backW s0 s r
def rngL (lo : Int) : Nat → List PV
  | 0 => []
  | n + 1 => .int lo :: rngL (lo + 1) n
def rngC (lo c : Int) : Nat → List PV
  | 0 => []
  | n + 1 => .int lo :: rngC (lo + c) c n
def small (i : Int) : Bool := decide (-4611686018427387904 ≤ i ∧ i < 4611686018427387904)
def signs : List Nat → List PV
  | [] => []
  | c :: r => .str [c] :: signs r
/-- what is walked -/
def itemsOf : PV → Option (List PV)
  | .lst xs => some xs
  | .scr xs => some xs
  | .tup xs => some xs
  | .str s => some (signs s)
  | _ => none
def zipL : List PV → List PV → List PV
  | x :: xs, y :: ys => .tup [x, y] :: zipL xs ys
  | _, _ => []
def enumL : List PV → Nat → List PV
  | [], _ => []
  | x :: xs, n => .tup [.int n, x] :: enumL xs (n + 1)
/-- a dict's pairs with one more -/
def dset (k v : PV) : List PV → List PV → List PV
  | x :: ks, u :: vs => (if keyEq x k then v else u) :: dset k v ks vs
  | _, _ => []
def dput (k v : PV) (ks vs : List PV) : List PV × List PV := if (ks.any fun x => keyEq x k) then (ks, dset k v ks vs) else (ks ++ [k], vs ++ [v])
def dputs : List PV → List PV → List PV × List PV → List PV × List PV
  | k :: ks, v :: vs, (a, b) => dputs ks vs (dput k v a b)
  | _, _, r => r

/-- the walk of a comprehension over items -/
def compL (turn : PV → Sl → R (Option PV)) : List PV → Sl → R (List PV)
  | [], s => .ok [] s
  | x :: xs, s => (turn x s).bind fun o s1 => (compL turn xs s1).bind fun r s2 => .ok (match o with | some v => v :: r | none => r) s2
/-- no exception leaves a comprehension -/
def noErr {α : Type} : R α → R α
  | .err _ _ _ => .bad
  | r => r

section
variable (Q : Env)
mutual
/-- an expression: its value, and whether it is a new list of one's own -/
def evR : E → Sl → R FV
  | .cn v, s => .ok (false, v) s
  | .glo j, s => liftO ((Q.glo j).map fun v => (false, v)) s
  | .fnv f, s => .ok (false, .fn f) s
  | .dead, _ => .bad
  | .var i, s => (keepS s i).bind fun v s' => .ok (false, v) s'
  | .bin o a b, s => (evP a s).bind fun x s1 => (evP b s1).bind fun y s2 => match reread a x s2 with
      | some x' => liftO (b2 o x' y) s2
      | none => .bad
  | .meth o a b, s => (evR a s).bind fun x s1 => if recvOk o x.2 then (evP b s1).bind fun y s2 => liftO (b2 o x.2 y) s2 else .bad
  | .chn o o' a b c, s => (evP a s).bind fun x s1 => (evP b s1).bind fun y s2 => match reread a x s2 with
      | some x' => (match b2 o x' y with
        | some (false, .bl true) => (evP c s2).bind fun z s3 => match reread b y s3 with
          | some y' => liftO (b2 o' y' z) s3
          | none => .bad
        | some (false, .bl false) => .ok (false, .bl false) s2
        | _ => .bad)
      | none => .bad
  | .un o a, s => (evP a s).bind fun x s1 => liftO (u1 o x) s1
  | .isi a ts, s => (evP a s).bind fun x s1 => match x with
      | .fn _ => .bad
      | x => .ok (false, .bl (ts.any fun t => isTy Q.sup x t)) s1
  | .band a b, s => (evR a s).bind fun x s1 => match x with
      | (false, .bl true) => evR b s1
      | (false, .bl false) => .ok (false, .bl false) s1
      | _ => .bad
  | .bor a b, s => (evR a s).bind fun x s1 => match x with
      | (false, .bl true) => .ok (false, .bl true) s1
      | (false, .bl false) => evR b s1
      | _ => .bad
  | .bnot a, s => (evR a s).bind fun x s1 => match x with
      | (false, .bl b) => .ok (false, .bl (!b)) s1
      | _ => .bad
  | .ite t a b, s => (evT t s).bind fun k s1 => if k then evR a s1 else evR b s1
  | .tup es, s => (evEs es s).bind fun vs s1 => if vs.length ≤ line then .ok (false, .tup vs) s1 else .bad
  | .lst es, s => (evEs es s).bind fun vs s1 => if vs.length ≤ line then .ok (true, .lst vs) s1 else .bad
  | .dic d, s => (evD d s).bind fun p s1 => if p.1.all isKey && decide (p.1.length ≤ 15) then (let r := dputs p.1 p.2 ([], []); .ok (true, .dct r.1 r.2) s1) else .bad
  | .slc a lo hi, s => (evP a s).bind fun x s1 => (evO lo s1).bind fun l s2 => (evO hi s2).bind fun h s3 => match reread a x s3 with
      | some (.lst xs) => .ok (true, .lst (cutL xs l h)) s3
      | some (.str xs) => if xs.length ≤ line then .ok (false, .str (cutL xs l h)) s3 else .bad
      | some (.tup xs) => .ok (false, .tup (cutL xs l h)) s3
      | _ => .bad
  | .call f as, s => (evAs as s).bind fun l s1 => runCall Q f l s1
  | .callk f as w, s => (evAs as s).bind fun l s1 => if l.length = (Q.perm w).length then runCall Q f (permL l (Q.perm w)) s1 else .bad
  | .callv i as, s => match getS s i with
      | some (.fn f) => (evAs as s).bind fun l s1 => runCall Q f l s1
      | _ => .bad
  | .caught b, s => match evR b s with
      | .ok _ s1 => .ok (false, .non) s1
      | .err c d s1 => if d.isEmpty && Q.sup c 0 then .ok (false, .exc c d) s1 else .bad
      | .bad => .bad
  | .comp e t it c vs, s => (evIt it s).bind fun xs s1 => match (if xs.length ≤ line then wipeS s1 vs else none) with
      | none => .bad
      | some s2 => (compL (fun x s => match tgSet [] s t x with
            | none => .bad
            | some s' => noErr ((evC c s').bind fun k s'' => if k then (evR e s'').bind fun v s3 => (match wipeS s3 vs with
                | some s4 => .ok (some v.2) s4
                | none => .bad) else (match wipeS s'' vs with
                | some s4 => .ok none s4
                | none => .bad))) xs s2).bind fun r s3 => .ok (true, .lst r) (backW s1 s3 vs)
def evP : P → Sl → R PV
  | .v i, s => liftO (getS s i) s
  | .e e, s => (evR e s).bind fun x s1 => .ok x.2 s1
def evT : T → Sl → R Bool
  | .tt e, s => (evR e s).bind fun x s1 => liftO (truth x.2) s1
  | .cmp o a b, s => (evP a s).bind fun x s1 => (evP b s1).bind fun y s2 => match reread a x s2 with
      | some x' => (match b2 o x' y with
        | some (false, .bl k) => .ok k s2
        | _ => .bad)
      | none => .bad
  | .chn o o' a b c, s => (evP a s).bind fun x s1 => (evP b s1).bind fun y s2 => match reread a x s2 with
      | some x' => (match b2 o x' y with
        | some (false, .bl true) => (evP c s2).bind fun z s3 => match reread b y s3 with
          | some y' => (match b2 o' y' z with
            | some (false, .bl k) => .ok k s3
            | _ => .bad)
          | none => .bad
        | some (false, .bl false) => .ok false s2
        | _ => .bad)
      | none => .bad
  | .tand a b, s => (evT a s).bind fun k s1 => if k then evT b s1 else .ok false s1
  | .tor a b, s => (evT a s).bind fun k s1 => if k then .ok true s1 else evT b s1
  | .tnot a, s => (evT a s).bind fun k s1 => .ok (!k) s1
def evEs : Es → Sl → R (List PV)
  | .nil, s => .ok [] s
  | .cons e r, s => (evR e s).bind fun x s1 => (evEs r s1).bind fun xs s2 => .ok (x.2 :: xs) s2
def evD : Ds → Sl → R (List PV × List PV)
  | .cons k v r, s => (evR k s).bind fun x s1 => (evR v s1).bind fun y s2 => (evD r s2).bind fun p s3 => .ok (x.2 :: p.1, y.2 :: p.2) s3
  | .nil, s => .ok ([], []) s
def evO : O → Sl → R (Option Int)
  | .no, s => .ok none s
  | .so e, s => (evR e s).bind fun x s1 => match x.2 with
      | .int i => .ok (some i) s1
      | _ => .bad
def evC : O' → Sl → R Bool
  | .no, s => .ok true s
  | .so t, s => evT t s
def evAs : As → Sl → R (List AV)
  | .nil, s => .ok [] s
  | .e e r, s => (evR e s).bind fun x s1 => (evAs r s1).bind fun l s2 => .ok (.val x.2 :: l) s2
  | .l i r, s => match getS s i with
      | some _ => (evAs r s).bind fun l s2 => .ok (.lent i :: l) s2
      | none => .bad
def evIt : It → Sl → R (List PV)
  | .seq e, s => (evR e s).bind fun x s1 => liftO (itemsOf x.2) s1
  | .rng1 a, s => (evR a s).bind fun x s1 => match x.2 with
      | .int n => if small n then .ok (rngL 0 n.toNat) s1 else .bad
      | _ => .bad
  | .rng2 a b, s => (evR a s).bind fun x s1 => (evR b s1).bind fun y s2 => match x.2, y.2 with
      | .int i, .int j => if small i && small j then .ok (rngL i (j - i).toNat) s2 else .bad
      | _, _ => .bad
  | .rng3 a b c, s => (evR a s).bind fun x s1 => (evR b s1).bind fun y s2 => match x.2, y.2 with
      | .int i, .int j => if small i && small j && c == -1 then .ok (rngC i c (i - j).toNat) s2 else .bad
      | _, _ => .bad
  | .zip a b, s => (evR a s).bind fun x s1 => (evR b s1).bind fun y s2 => match itemsOf x.2, itemsOf y.2 with
      | some xs, some ys => .ok (zipL xs ys) s2
      | _, _ => .bad
  | .enum a, s => (evR a s).bind fun x s1 => match x.2 with
      | .lst xs => .ok (enumL xs 0) s1
      | _ => .bad
end

/-- the walk of a for over items -/
def forL (turn : PV → Sl → XR) : List PV → Sl → XR
  | [], s => .next s
  | x :: xs, s => match turn x s with
    | .next s1 => forL turn xs s1
    | .cont s1 => forL turn xs s1
    | .brk s1 => .next s1
    | r => r
def whileL (test : Sl → R Bool) (turn : Sl → XR) : Nat → Sl → XR
  | 0, _ => .bad
  | n + 1, s => match test s with
    | .ok true s1 => (match turn s1 with
      | .next s2 => whileL test turn n s2
      | .cont s2 => whileL test turn n s2
      | .brk s2 => .next s2
      | r => r)
    | .ok false s1 => .next s1
    | .err c d s1 => .err c d s1
    | .bad => .bad
def ofR {α : Type} (x : R α) (f : α → Sl → XR) : XR := match x with
  | .ok a s => f a s
  | .err c d s => .err c d s
  | .bad => .bad
def ofO {α : Type} (x : Option α) (f : α → XR) : XR := match x with
  | some a => f a
  | none => .bad

variable (ro : List Nat)
/-- values as they stand in a parallel assignment: a new list stays one's own -/
def evFs : Es → Sl → R (List FV)
  | .nil, s => .ok [] s
  | .cons e r, s => (evR Q e s).bind fun x s1 => (evFs r s1).bind fun xs s2 => .ok (x :: xs) s2
def setFs (s : Sl) : List Nat → List FV → Option Sl
  | [], [] => some s
  | i :: is, v :: vs => (setS ro s i (mkSV v)).bind fun s' => setFs s' is vs
  | _, _ => none
mutual
def exS : S → Sl → XR
  | .asg i e, s => ofR (evR Q e s) fun x s1 => ofO (setS ro s1 i (mkSV x)) .next
  | .asgT is e, s => ofR (evR Q e s) fun x s1 => (match x.2 with
      | .tup vs => ofO (setAll ro s1 is vs) .next
      | _ => .bad)
  | .par is es, s => ofR (evFs Q es s) fun xs s1 => if noDup is then ofO (setFs ro s1 is xs) .next else .bad
  | .expr e, s => ofR (evR Q e s) fun _ s1 => .next s1
  | .app i e, s => (match s[i]? with
      | some (some (.own (.lst _))) => ofR (evR Q e s) fun x s1 => (match s1[i]? with
        | some (some (.own (.lst xs))) => if xs.length < line then .next (s1.set i (some (.own (.lst (xs ++ [x.2]))))) else .bad
        | _ => .bad)
      | _ => .bad)
  | .ext i e, s => (match s[i]? with
      | some (some (.own (.lst _))) => ofR (evR Q e s) fun x s1 => (match s1[i]?, x.2 with
        | some (some (.own (.lst xs))), .lst ys => if xs.length + ys.length ≤ line then .next (s1.set i (some (.own (.lst (xs ++ ys))))) else .bad
        | _, _ => .bad)
      | _ => .bad)
  | .put i k v, s => ofR (evR Q v s) fun y s1 => (match getS s1 i with
      | none => .bad
      | some _ => ofR (evR Q k s1) fun x s2 => (match s2[i]? with
        | some (some (.own (.dct ks vs))) => if isKey x.2 && decide (ks.length < line) then .next (s2.set i (some (.own (.dct (dput x.2 y.2 ks vs).1 (dput x.2 y.2 ks vs).2)))) else .bad
        | some (some (.own (.lst xs))) => (match x.2 with
          | .int j => ofO (ixAt xs.length j) fun n => .next (s2.set i (some (.own (.lst (xs.set n y.2)))))
          | _ => .bad)
        | _ => .bad))
  | .if_ t a b, s => ofR (evT Q t s) fun k s1 => if k then exSs a s1 else exSs b s1
  | .for_ t it b, s => ofR (evIt Q it s) fun xs s1 => forL (fun x s => ofO (tgSet ro s t x) fun s' => exSs b s') xs s1
  | .whl t b, s => whileL (fun s => evT Q t s) (fun s => exSs b s) Q.fuel s
  | .ret e, s => ofR (evR Q e s) fun x s1 => .ret x s1
  | .retN, s => .ret (false, .non) s
  | .raise c, s => .err c [] s
  | .pass, s => .next s
  | .dead, _ => .bad
  | .brk, s => .brk s
  | .cont, s => .cont s
def exSs : Ss → Sl → XR
  | .nil, s => .next s
  | .cons a r, s => match exS a s with
    | .next s1 => exSs r s1
    | x => x
end
end

/-! ### defs -/
structure Def where
  np : Nat
  ns : Nat
  body : Ss
def ownAt : List SV → Nat → List Nat
  | [], _ => []
  | .own _ :: r, i => i :: ownAt r (i + 1)
  | .fz _ :: r, i => ownAt r (i + 1)
def outs (s : Sl) (n : Nat) : Option (List SV) := ((s.take n).map fun o => o).foldr (fun o acc => match o, acc with
  | some o, some os => some (o :: os)
  | _, _ => none) (some [])
/-- what the parameters' slots hold at the end; a parameter that holds nothing any more is told as it was -/
def outOf (s : Sl) : List SV → Nat → List SV
  | [], _ => []
  | a :: r, i => (match s[i]? with
    | some (some v) => (match a with | .own _ => v | .fz _ => a)
    | _ => a) :: outOf s r (i + 1)
/-- every own parameter's slot holds something still -/
def heldAll (s : Sl) : List SV → Nat → Bool
  | [], _ => true
  | .fz _ :: r, i => heldAll s r (i + 1)
  | .own _ :: r, i => (match s[i]? with
    | some (some _) => heldAll s r (i + 1)
    | _ => false)
def outC (s : Sl) (as : List SV) (k : List SV → RC) : RC := if heldAll s as 0 then k (outOf s as 0) else .bad
def runDef (Q : Env) (d : Def) (as : List SV) : RC :=
  if as.length = d.np ∧ d.np ≤ d.ns then
    match exSs Q (ownAt as 0) d.body (as.map some ++ List.replicate (d.ns - d.np) none) with
    | .next s => outC s as (.ok (false, .non))
    | .ret v s => outC s as (.ok v)
    | .err c e s => outC s as (.err c e)
    | _ => .bad
  else .bad
/-- the whole: calls n deep -/
structure Prog where
  defs : Nat → Option Def
  glo : Nat → Option PV
  sup : Nat → Nat → Bool
  perm : Nat → List Nat
  fuel : Nat
def Prog.env (G : Prog) (c : Nat → List SV → RC) : Env := ⟨c, G.glo, G.sup, G.perm, G.fuel⟩
def Prog.run (G : Prog) : Nat → Nat → List SV → RC
  | 0, _, _ => .bad
  | n + 1, f, as => match G.defs f with
    | some d => runDef (G.env (G.run n)) d as
    | none => .bad
end Pv

/-! PvSound1: what a plain value is in the abstract heap; the operators' rules over plain values. -/
namespace Pv
open PySem PyProof.Rows PySem.Spec L2

def toS (s : List Nat) : Str := ⟨s.toArray⟩
theorem toS_cps (s : List Nat) : (toS s).cps.toList = s := rfl
theorem toS_len (s : List Nat) : (toS s).length = s.length := by simp [toS, Str.length]
theorem toS_app (a b : List Nat) : toS a ++ toS b = toS (a ++ b) := by
  show Str.append (toS a) (toS b) = _
  unfold Str.append toS
  simp
theorem toS_inj {a b : List Nat} (h : toS a = toS b) : a = b := by
  have := congrArg (fun x : Str => x.cps.toList) h
  simpa [toS] using this
theorem toS_beq (a b : List Nat) : (toS a == toS b) = (a == b) := by
  rw [Bool.eq_iff_iff]
  simp only [beq_iff_eq]
  exact ⟨toS_inj, fun h => by rw [h]⟩

mutual
def toD : PV → PyData
  | .non => .none
  | .bl b => .bool b
  | .int i => .int i
  | .str s => .str (toS s)
  | .tup xs => .tuple (toDs xs)
  | .lst xs => .list (toDs xs)
  | _ => .none
def toDs : List PV → List PyData
  | [] => []
  | x :: xs => toD x :: toDs xs
end
mutual
theorem toD_plain : ∀ v : PV, v.plain = true → (toD v).plain = true
  | .non, _ => rfl
  | .bl _, _ => rfl
  | .int _, _ => rfl
  | .str _, _ => rfl
  | .tup xs, h => by
    rw [toD, PyData.plain]
    exact toDs_plain xs (by rw [PV.plain] at h; exact h)
  | .lst xs, h => by
    rw [toD, PyData.plain]
    exact toDs_plain xs (by rw [PV.plain] at h; exact h)
  | .dct _ _, h => by rw [PV.plain] at h; exact absurd h (by decide)
  | .scr _, h => by rw [PV.plain] at h; exact absurd h (by decide)
  | .fn _, h => by rw [PV.plain] at h; exact absurd h (by decide)
  | .exc _ _, h => by rw [PV.plain] at h; exact absurd h (by decide)
theorem toDs_plain : ∀ xs : List PV, plainAll xs = true → PyData.plainAll (toDs xs) = true
  | [], _ => rfl
  | x :: xs, h => by
    rw [plainAll, Bool.and_eq_true] at h
    rw [toDs, PyData.plainAll, toD_plain x h.1, toDs_plain xs h.2]; rfl
end
mutual
theorem toD_deep : ∀ v : PV, (toD v).depth ≤ v.deep
  | .non => by simp [toD, PyData.depth]
  | .bl _ => by simp [toD, PyData.depth]
  | .int _ => by simp [toD, PyData.depth]
  | .str _ => by simp [toD, PyData.depth]
  | .tup xs => by
    have := toDs_deep xs
    rw [toD, PyData.depth, PV.deep]; omega
  | .lst xs => by
    have := toDs_deep xs
    rw [toD, PyData.depth, PV.deep]; omega
  | .dct _ _ => by simp [toD, PyData.depth]
  | .scr _ => by simp [toD, PyData.depth]
  | .fn _ => by simp [toD, PyData.depth]
  | .exc _ _ => by simp [toD, PyData.depth]
theorem toDs_deep : ∀ xs : List PV, PyData.depthAll (toDs xs) ≤ deepAll xs
  | [] => by simp [toDs, PyData.depthAll]
  | x :: xs => by
    have h1 := toD_deep x
    have h2 := toDs_deep xs
    rw [toDs, PyData.depthAll, deepAll]; omega
end
mutual
theorem toD_eqv : ∀ v w : PV, v.plain = true → w.plain = true → PyData.eqv (toD v) (toD w) = eqv v w
  | .non, w, _, hw => by cases w <;> first | rfl | (rw [PV.plain] at hw; exact absurd hw (by decide))
  | .bl b, w, _, hw => by cases w <;> first | rfl | (rw [PV.plain] at hw; exact absurd hw (by decide))
  | .int i, w, _, hw => by cases w <;> first | rfl | (rw [PV.plain] at hw; exact absurd hw (by decide))
  | .str s, w, _, hw => by
    cases w <;> first | rfl | (rw [PV.plain] at hw; exact absurd hw (by decide)) | skip
    rw [toD, toD, PyData.eqv, eqv, toS_beq]
  | .tup xs, w, hv, hw => by
    rw [PV.plain] at hv
    cases w <;> first | rfl | (rw [PV.plain] at hw; exact absurd hw (by decide)) | skip
    rw [PV.plain] at hw
    rw [toD, toD, PyData.eqv, eqv]
    exact toDs_eqv xs _ hv hw
  | .lst xs, w, hv, hw => by
    rw [PV.plain] at hv
    cases w <;> first | rfl | (rw [PV.plain] at hw; exact absurd hw (by decide)) | skip
    rw [PV.plain] at hw
    rw [toD, toD, PyData.eqv, eqv]
    exact toDs_eqv xs _ hv hw
  | .dct _ _, _, hv, _ => by rw [PV.plain] at hv; exact absurd hv (by decide)
  | .scr _, _, hv, _ => by rw [PV.plain] at hv; exact absurd hv (by decide)
  | .fn _, _, hv, _ => by rw [PV.plain] at hv; exact absurd hv (by decide)
  | .exc _ _, _, hv, _ => by rw [PV.plain] at hv; exact absurd hv (by decide)
theorem toDs_eqv : ∀ xs ys : List PV, plainAll xs = true → plainAll ys = true → PyData.eqvAll (toDs xs) (toDs ys) = eqvAll xs ys
  | [], [], _, _ => rfl
  | [], _ :: _, _, _ => rfl
  | _ :: _, [], _, _ => rfl
  | x :: xs, y :: ys, hx, hy => by
    rw [plainAll, Bool.and_eq_true] at hx hy
    rw [toDs, toDs, PyData.eqvAll, eqvAll, toD_eqv x y hx.1 hy.1, toDs_eqv xs ys hx.2 hy.2]
end
theorem toDs_map (xs : List PV) : toDs xs = xs.map toD := by
  induction xs with
  | nil => rfl
  | cons x xs ih => rw [toDs, ih]; rfl

/-! ### a plain value in the abstract heap -/
structure Tbl where
  K : PySem.W.Frag
  fnA : Nat → Option Addr
  clA : Nat → Option Addr
/-- an exception of the class cls, caught -/
def XcO (cls : Value) (a : Addr) : HO := .ext fun h => ∃ (oe : Obj) (vs : Array Value), h.get? a = some oe ∧ Zc cls none oe ∧ oe.data = .fields vs
def KL (K : PySem.W.Frag) (a : Addr) (xs : List V) : Prop := ∃ (o : Obj) (its : Array Value) (n : Nat), K.lookup a = some o ∧ o.cls = .type "list" ∧ o.dict = none ∧ o.data = .seq its n ∧ its.size ≤ sizeLine ∧ Vals xs its.toList
def FzL (K : PySem.W.Frag) (H : Hp) (p : Addr) (vs : List V) : Prop := (∃ o, H p = some (.frz o (.lst vs))) ∨ KL K p vs
def keyP : PV → Option Key
  | .int i => some (.inl i)
  | .str s => some (.inr (toS s))
  | _ => none
mutual
/-- the value stays what it is -/
inductive Rp (B : Tbl) (H : Hp) : V → PV → Prop
  | non : Rp B H .non .non
  | bl (b : Bool) : Rp B H (.bl b) (.bl b)
  | int (i : Int) : Rp B H (.int i) (.int i)
  | str (s : List Nat) : Rp B H (.str (toS s)) (.str s)
  | tup {p : Addr} {vs : List V} {xs : List PV} : SqT B.K H p vs → Rps B H vs xs → Rp B H (.ref p) (.tup xs)
  | lst {p : Addr} {o : Obj} {vs : List V} {xs : List PV} : H p = some (.frz o (.lst vs)) → Rps B H vs xs → Rp B H (.ref p) (.lst xs)
  | scr {p : Addr} {vs : List V} {xs : List PV} : FzL B.K H p vs → Rps B H vs xs → Rp B H (.ref p) (.scr xs)
  | dct {p : Addr} {o : Obj} {kvs : List (Key × V)} {ks vs : List PV} : H p = some (.frz o (.dK kvs)) → KvP B H kvs ks vs → Rp B H (.ref p) (.dct ks vs)
  | fn {i : Nat} {a : Addr} : B.fnA i = some a → Rp B H (.ref a) (.fn i)
  | exc {a C : Addr} {c : Nat} : B.clA c = some C → H a = some (XcO (.ref C) a) → Rp B H (.ref a) (.exc c [])
inductive Rps (B : Tbl) (H : Hp) : List V → List PV → Prop
  | nil : Rps B H [] []
  | cons {v : V} {x : PV} {vs : List V} {xs : List PV} : Rp B H v x → Rps B H vs xs → Rps B H (v :: vs) (x :: xs)
inductive KvP (B : Tbl) (H : Hp) : List (Key × V) → List PV → List PV → Prop
  | nil : KvP B H [] [] []
  | cons {k : Key} {v : V} {x y : PV} {kvs : List (Key × V)} {ks vs : List PV} : keyP x = some k → Rp B H v y → KvP B H kvs ks vs → KvP B H ((k, v) :: kvs) (x :: ks) (y :: vs)
end
/-- what stays of an abstract heap -/
structure Keep (H H' : Hp) : Prop where
  tup : ∀ b xs, H b = some (.tup xs) → H' b = some (.tup xs)
  frz : ∀ b o u, H b = some (.frz o u) → H' b = some (.frz o u)
  ext : ∀ b φ, H b = some (.ext φ) → H' b = some (.ext φ)
theorem Keep.refl (H : Hp) : Keep H H := ⟨fun _ _ h => h, fun _ _ _ h => h, fun _ _ h => h⟩
theorem Keep.trans {H H1 H2 : Hp} (a : Keep H H1) (b : Keep H1 H2) : Keep H H2 :=
  ⟨fun c x h => b.tup c x (a.tup c x h), fun c o u h => b.frz c o u (a.frz c o u h), fun c o h => b.ext c o (a.ext c o h)⟩
theorem Keep.same {H H' : Hp} (h : Same H H') : Keep H H' := ⟨fun b _ e => h b _ e, fun b _ _ e => h b _ e, fun b _ e => h b _ e⟩
theorem same_upd {H : Hp} {p : Addr} {o : HO} (h : H p = none) : Same H (upd H p o) := fun b u e => by
  rw [upd_ne (ne_of_none e h)]; exact e
theorem Keep.rd {H H' : Hp} (k : Keep H H') {a : Addr} {vs : List V} (h : L2.Rd H a (.tup vs)) : L2.Rd H' a (.tup vs) := by
  rcases h with h | ⟨o, h⟩
  · exact .inl (k.tup _ _ h)
  · exact .inr ⟨o, k.frz _ _ _ h⟩
theorem Keep.sqT {K : PySem.W.Frag} {H H' : Hp} (k : Keep H H') {a : Addr} {vs : List V} (h : SqT K H a vs) : SqT K H' a vs := by
  rcases h with h | h
  · exact .inl (k.rd h)
  · exact .inr h
theorem Keep.fzL {K : PySem.W.Frag} {H H' : Hp} (k : Keep H H') {a : Addr} {vs : List V} (h : FzL K H a vs) : FzL K H' a vs := by
  rcases h with ⟨o, h⟩ | h
  · exact .inl ⟨o, k.frz _ _ _ h⟩
  · exact .inr h
mutual
theorem Rp.keep {B : Tbl} {H H' : Hp} (k : Keep H H') : ∀ {x : PV} {v : V}, Rp B H v x → Rp B H' v x
  | .non, _, h => by cases h; exact .non
  | .bl _, _, h => by cases h; exact .bl _
  | .int _, _, h => by cases h; exact .int _
  | .str _, _, h => by cases h; exact .str _
  | .tup xs, _, h => by cases h with | tup h1 h2 => exact .tup (k.sqT h1) (Rps.keep k h2)
  | .lst xs, _, h => by cases h with | lst h1 h2 => exact .lst (k.frz _ _ _ h1) (Rps.keep k h2)
  | .scr xs, _, h => by cases h with | scr h1 h2 => exact .scr (k.fzL h1) (Rps.keep k h2)
  | .dct ks vs, _, h => by cases h with | dct h1 h2 => exact .dct (k.frz _ _ _ h1) (KvP.keep k h2)
  | .fn _, _, h => by cases h with | fn h1 => exact .fn h1
  | .exc _ _, _, h => by cases h with | exc h1 h2 => exact .exc h1 (k.ext _ _ h2)
theorem Rps.keep {B : Tbl} {H H' : Hp} (k : Keep H H') : ∀ {xs : List PV} {vs : List V}, Rps B H vs xs → Rps B H' vs xs
  | [], _, h => by cases h; exact .nil
  | x :: xs, _, h => by cases h with | cons h1 h2 => exact .cons (Rp.keep k h1) (Rps.keep k h2)
theorem KvP.keep {B : Tbl} {H H' : Hp} (k : Keep H H') : ∀ {ks vs : List PV} {kvs : List (Key × V)}, KvP B H kvs ks vs → KvP B H' kvs ks vs
  | _, [], _, h => by cases h; exact .nil
  | _, v :: vs, _, h => by cases h with | cons h0 h1 h2 => exact .cons h0 (Rp.keep k h1) (KvP.keep k h2)
end
/-- what an own thing holds -/
def Cont (B : Tbl) (H : Hp) (p : Addr) : PV → Prop
  | .lst xs => ∃ vs, H p = some (.lst vs) ∧ Rps B H vs xs
  | .dct ks vs => ∃ kvs, H p = some (.dK kvs) ∧ KvP B H kvs ks vs
  | _ => False
/-- the value may be read now -/
def Rn (B : Tbl) (H : Hp) (c : V) (x : PV) : Prop := Rp B H c x ∨ ∃ p, c = .ref p ∧ Cont B H p x
/-- an operator's result: what stays, or a new thing of one's own -/
def Res (B : Tbl) (H H' : Hp) (c : V) : FV → Prop
  | (true, v) => ∃ p, c = .ref p ∧ H p = none ∧ Cont B H' p v
  | (false, v) => Rp B H' c v

section
variable {B : Tbl} {H H' : Hp} {c : V}
theorem Rn.of {x : PV} (h : Rp B H c x) : Rn B H c x := .inl h
theorem Rn.int {i : Int} (h : Rn B H c (.int i)) : c = .int i := by
  rcases h with h | ⟨_, _, h⟩
  · cases h; rfl
  · exact h.elim
theorem Rn.bl {i : Bool} (h : Rn B H c (.bl i)) : c = .bl i := by
  rcases h with h | ⟨_, _, h⟩
  · cases h; rfl
  · exact h.elim
theorem Rn.non (h : Rn B H c .non) : c = .non := by
  rcases h with h | ⟨_, _, h⟩
  · cases h; rfl
  · exact h.elim
theorem Rn.str {s : List Nat} (h : Rn B H c (.str s)) : c = .str (toS s) := by
  rcases h with h | ⟨_, _, h⟩
  · cases h; rfl
  · exact h.elim
theorem Rn.tup {xs : List PV} (h : Rn B H c (.tup xs)) : ∃ p vs, c = .ref p ∧ SqT B.K H p vs ∧ Rps B H vs xs := by
  rcases h with h | ⟨_, _, h⟩
  · cases h with | tup h1 h2 => exact ⟨_, _, rfl, h1, h2⟩
  · exact h.elim
theorem FzL.sqL {K : PySem.W.Frag} {p : Addr} {vs : List V} (h : FzL K H p vs) : SqL K H p vs := by
  rcases h with ⟨o, h⟩ | h
  · exact .inl (.inr ⟨o, h⟩)
  · exact .inr h
theorem Rn.lst {xs : List PV} (h : Rn B H c (.lst xs)) : ∃ p vs, c = .ref p ∧ L2.Rd H p (.lst vs) ∧ Rps B H vs xs := by
  rcases h with h | ⟨p, hp, vs, h, hs⟩
  · cases h with | lst h1 h2 => exact ⟨_, _, rfl, .inr ⟨_, h1⟩, h2⟩
  · exact ⟨p, vs, hp, .inl h, hs⟩
theorem Rn.scr {xs : List PV} (h : Rn B H c (.scr xs)) : ∃ p vs, c = .ref p ∧ SqL B.K H p vs ∧ Rps B H vs xs := by
  rcases h with h | ⟨p, hp, h⟩
  · cases h with | scr h1 h2 => exact ⟨_, _, rfl, h1.sqL, h2⟩
  · exact h.elim
theorem Rn.dct {ks vs : List PV} (h : Rn B H c (.dct ks vs)) : ∃ p kvs, c = .ref p ∧ L2.Rd H p (.dK kvs) ∧ KvP B H kvs ks vs := by
  rcases h with h | ⟨p, hp, kvs, h, hs⟩
  · cases h with | dct h1 h2 => exact ⟨_, _, rfl, .inr ⟨_, h1⟩, h2⟩
  · exact ⟨p, kvs, hp, .inl h, hs⟩
theorem Rps.length {vs : List V} {xs : List PV} (h : Rps B H vs xs) : vs.length = xs.length := by
  induction xs generalizing vs with
  | nil => cases h; rfl
  | cons x xs ih => cases h with | cons _ h2 => simp [ih h2]
theorem Rps.get {vs : List V} {xs : List PV} (h : Rps B H vs xs) {i : Nat} {x : PV} (e : xs[i]? = some x) : ∃ v, vs[i]? = some v ∧ Rp B H v x := by
  induction xs generalizing vs i with
  | nil => simp at e
  | cons y ys ih =>
    cases h with
    | cons h1 h2 =>
      cases i with
      | zero => simp at e; subst e; exact ⟨_, rfl, h1⟩
      | succ i => simpa using ih h2 (by simpa using e)
theorem Rps.app {vs ws : List V} {xs ys : List PV} (h : Rps B H vs xs) (h' : Rps B H ws ys) : Rps B H (vs ++ ws) (xs ++ ys) := by
  induction xs generalizing vs with
  | nil => cases h; exact h'
  | cons x xs ih => cases h with | cons h1 h2 => exact .cons h1 (ih h2)
theorem Rps.drop {vs : List V} {xs : List PV} (h : Rps B H vs xs) (n : Nat) : Rps B H (vs.drop n) (xs.drop n) := by
  induction n generalizing vs xs with
  | zero => simpa using h
  | succ n ih => cases h with
    | nil => simpa using Rps.nil
    | cons h1 h2 => simpa using ih h2
theorem Rps.take {vs : List V} {xs : List PV} (h : Rps B H vs xs) (n : Nat) : Rps B H (vs.take n) (xs.take n) := by
  induction n generalizing vs xs with
  | zero => simpa using Rps.nil
  | succ n ih => cases h with
    | nil => simpa using Rps.nil
    | cons h1 h2 => simpa using Rps.cons h1 (ih h2)
theorem Rps.set {vs : List V} {xs : List PV} (h : Rps B H vs xs) {v : V} {x : PV} (hv : Rp B H v x) (n : Nat) : Rps B H (vs.set n v) (xs.set n x) := by
  induction n generalizing vs xs with
  | zero => cases h with
    | nil => simpa using Rps.nil
    | cons h1 h2 => simpa using Rps.cons hv h2
  | succ n ih => cases h with
    | nil => simpa using Rps.nil
    | cons h1 h2 => simpa using Rps.cons h1 (ih h2)
mutual
theorem Rp.dp : ∀ {x : PV} {v : V}, Rp B H v x → x.plain = true → Dp B.K H v (toD x)
  | .non, _, h, _ => by cases h; exact .non
  | .bl _, _, h, _ => by cases h; exact .bl _
  | .int _, _, h, _ => by cases h; exact .int _
  | .str _, _, h, _ => by cases h; exact .str _
  | .tup xs, _, h, q => by cases h with | tup h1 h2 => exact .tup h1 (Rps.dp h2 (by rw [PV.plain] at q; exact q))
  | .lst xs, _, h, q => by cases h with | lst h1 h2 => exact .lst (.inl (.inr ⟨_, h1⟩)) (Rps.dp h2 (by rw [PV.plain] at q; exact q))
  | .dct _ _, _, _, q => by rw [PV.plain] at q; exact absurd q (by decide)
  | .scr _, _, _, q => by rw [PV.plain] at q; exact absurd q (by decide)
  | .fn _, _, _, q => by rw [PV.plain] at q; exact absurd q (by decide)
  | .exc _ _, _, _, q => by rw [PV.plain] at q; exact absurd q (by decide)
theorem Rps.dp : ∀ {xs : List PV} {vs : List V}, Rps B H vs xs → plainAll xs = true → DpAll B.K H vs (toDs xs)
  | [], _, h, _ => by cases h; exact .nil
  | x :: xs, _, h, q => by
    rw [plainAll, Bool.and_eq_true] at q
    cases h with | cons h1 h2 => exact .cons (Rp.dp h1 q.1) (Rps.dp h2 q.2)
end
theorem Rn.dp {x : PV} (h : Rn B H c x) (q : x.plain = true) : Dp B.K H c (toD x) := by
  rcases h with h | ⟨p, rfl, h⟩
  · exact h.dp q
  · cases x with
    | lst xs =>
      obtain ⟨vs, h1, h2⟩ := h
      rw [toD]
      exact .lst (.inl (.inl h1)) (h2.dp (by rw [PV.plain] at q; exact q))
    | dct _ _ => rw [PV.plain] at q; exact absurd q (by decide)
    | _ => exact h.elim
end
end Pv

/-! PvSound2: the operators' rules over plain values. -/
namespace Pv
open PySem PyProof.Rows PySem.Spec L2

/-- f does what b2 o says -/
def OpP (X : Cx) (B : Tbl) (f : Value → Value → Sem Value) (o : B2) : Prop :=
  ∀ (pins : List (Addr × Obj)) (s : Shared) (σ : L2.St) (H : Hp) (x y : V) (v u : Value) (a b : PV) (r : FV) (Q : VK), Inv X pins σ H s → RelV x v → RelV y u → Rn B H x a → Rn B H y b → b2 o a b = some r →
    (∀ c H', Same H H' → Res B H H' c r → Q c H') → wpAny (model X.prog X.w) X.A (f v u) (EP X pins σ Q) X.xe s
section
variable {X : Cx} {B : Tbl} {pins : List (Addr × Obj)} {s : Shared} {σ : L2.St} {H : Hp} {x y : V} {v u : Value} {a b : PV} {r : FV} {Q : VK}
theorem bInt_inv {g : Int → Int → Option PV} (h : bInt g a b = some r) : ∃ i j w, a = .int i ∧ b = .int j ∧ g i j = some w ∧ r = (false, w) := by
  unfold bInt at h
  split at h
  · rename_i i j
    obtain ⟨w, h1, h2⟩ := Option.map_eq_some_iff.mp h
    exact ⟨i, j, w, rfl, rfl, h1, h2.symm⟩
  · cases h
theorem opInt {f : Value → Value → Sem Value} {o : B2} {g : Int → Int → Option PV} (e : b2 o = bInt g)
    (rule : ∀ (i j : Int) (w : PV) (t u : Tok) (s : Shared) (Q : Value → Shared → Prop) (E : Value → Shared → Prop), g i j = some w →
      (∀ c k, (∃ z, w = .int z ∧ c = Value.int z s.toks ∧ k = s.toks + 1) ∨ (∃ z, w = .bl z ∧ c = Value.bool z ∧ k = s.toks) → Q c { s with toks := k }) → wpAny (model X.prog X.w) X.A (f (.int i t) (.int j u)) Q E s) :
    OpP X B f o := by
  intro pins s σ H x y v u a b r Q I rx ry ra rb hr q
  rw [e] at hr
  obtain ⟨i, j, w, rfl, rfl, hg, rfl⟩ := bInt_inv hr
  rw [ra.int] at rx
  rw [rb.int] at ry
  obtain ⟨t, rfl⟩ := rx
  obtain ⟨t', rfl⟩ := ry
  refine rule i j w t t' s _ _ hg fun c k hc => ?_
  rcases hc with ⟨z, rfl, rfl, rfl⟩ | ⟨z, rfl, rfl, rfl⟩
  · exact ⟨.int z, H, I.tok _, ⟨_, rfl⟩, q _ H (Same.refl H) (Rp.int z)⟩
  · exact ⟨.bl z, H, I, rfl, q _ H (Same.refl H) (Rp.bl z)⟩
theorem op_sub' : OpP X B (binaryOp .Sub) .sub := opInt rfl fun i j w t u s Q E hg q => by
  cases hg
  exact sub_int (q _ _ (.inl ⟨_, rfl, rfl, rfl⟩))
theorem op_fdiv' : OpP X B (binaryOp .FloorDiv) .fdiv := opInt rfl fun i j w t u s Q E hg q => by
  split at hg
  · rename_i hc
    cases hg
    exact floordiv_int (by omega) (by rw [Int.fdiv_eq_ediv_of_nonneg i (by omega)]; exact q _ _ (.inl ⟨_, rfl, rfl, rfl⟩)) (.inl (PyProof.noPylong_of_log2 hc.2))
  · cases hg
theorem op_mod' : OpP X B (binaryOp .Mod) .mod := opInt rfl fun i j w t u s Q E hg q => by
  split at hg
  · rename_i hc
    cases hg
    exact mod_int' (by omega) (by rw [Int.fmod_eq_emod_of_nonneg i (by omega)]; exact q _ _ (.inl ⟨_, rfl, rfl, rfl⟩))
  · cases hg
theorem op_pow' : OpP X B (binaryOp .Pow) .pow := opInt rfl fun i j w t u s Q E hg q => by
  split at hg
  · rename_i hc
    cases hg
    exact pow_int_small hc.1 hc.2.1 (by have h2 := hc.2.2; show _ < (2 : Nat) ^ 64; exact h2) (q _ _ (.inl ⟨_, rfl, rfl, rfl⟩))
  · cases hg
theorem op_le' : OpP X B (compareOp .LtE) .le := opInt rfl fun i j w t u s Q E hg q => by
  cases hg
  exact le_int (q _ _ (.inr ⟨_, rfl, rfl, rfl⟩))
theorem op_gt' : OpP X B (compareOp .Gt) .gt := opInt rfl fun i j w t u s Q E hg q => by
  cases hg
  exact gt_int (q _ _ (.inr ⟨_, rfl, rfl, rfl⟩))
theorem op_ge' : OpP X B (compareOp .GtE) .ge := opInt rfl fun i j w t u s Q E hg q => by
  cases hg
  exact ge_int (q _ _ (.inr ⟨_, rfl, rfl, rfl⟩))
theorem mulOk_ok {i j : Int} (h : mulOk i j = true) : IntMulOk i j := by
  have e1 : ∀ z, Builtin.Int.intBits z = bits z := fun _ => rfl
  unfold mulOk at h
  rw [Bool.or_eq_true, Bool.or_eq_true] at h
  rcases h with (h | h) | h
  · exact .of_left (by rw [e1]; exact of_decide_eq_true h)
  · exact .of_right (by rw [e1]; exact of_decide_eq_true h)
  · have h := of_decide_eq_true h
    have bl : bitsLine = 134217728 := by decide
    unfold IntMulOk
    intro z
    rw [Bool.and_eq_true] at z
    have z2 := z.2
    have z3 := of_decide_eq_true (show decide (_ > (bitsLine : Int)) = true from z2)
    rw [bl] at z3
    rw [e1, e1] at z3
    omega
theorem line_eq : line = sizeLine := by rw [sizeLine_eq]; rfl
/-- a new list is laid -/
theorem new_lst {its : List Value} {vs : List V} {xs : List PV} (I : Inv X pins σ H s) (hv : Vals vs its) (hz : vs.length ≤ sizeLine) (hr : Rps B H vs xs) (q : ∀ c H', Same H H' → Res B H H' c (true, .lst xs) → Q c H') :
    EP X pins σ Q (.ref s.heap.objs.size) { s with heap := s.heap.push { cls := .type "list", data := .seq its.toArray } } :=
  ⟨.ref _, _, I.lnew (t' := s.toks) hv hz, rfl, q _ _ (same_upd I.fresh) ⟨_, rfl, I.fresh, vs, upd_same, hr.keep (.same (same_upd I.fresh))⟩⟩
theorem fold_flat (its : List Value) (k : Nat) : List.foldl (fun a b => a ++ b) #[] (List.replicate (if its.toArray.isEmpty = true then 0 else k) its.toArray) = (List.replicate k its).flatten.toArray := by
  by_cases hn : its = []
  · subst hn
    simp
  · rw [if_neg (by simpa using hn)]
    simpa using foldl_rep its k []
/-- a list that stands somewhere, k times -/
theorem times_at {p : Addr} {its : List Value} {n : Nat} {k : Int} {t : Tok} {R : Value → Shared → Prop} {prog : Program} {w : World} {A : Around} {E : Value → Shared → Prop} (at_ : s.heap.get? p = some { cls := .type "list", data := .seq its.toArray n })
    (lo : -(2 ^ 63) ≤ k) (up : k < 2 ^ 63) (fits : its.toArray.size * k.toNat ≤ sizeLine) (r : R (.ref s.heap.objs.size) { s with heap := s.heap.push { cls := .type "list", data := .seq (List.replicate k.toNat its).flatten.toArray } }) : wpAny (model prog w) A (binaryOp .Mult (.ref p) (.int k t)) R E s := by
  have door : ¬ Builtin.List.listTooLong (its.toArray.size * k.toNat) = true := fun z => by rw [notLongL fits] at z; exact nomatch z
  have room : ¬ its.toArray.size * k.toNat > (2 ^ 63 - 1) / 8 := fun z => by
    have big : sizeLine ≤ (2 ^ 63 - 1) / 8 := by decide
    exact absurd (Nat.lt_of_lt_of_le z fits) (Nat.not_lt.mpr big)
  have index : ¬ (!Builtin.List.listFitsIndex k) = true := fun z => by
    rw [fitsIndex_both (by omega) (by omega)] at z
    exact nomatch z
  refine wpAny_binaryOp_repeat_ref (T := "list") (U := "int") (by decide) ⟨_, at_, rfl⟩ (fun st => typeIs_int st k t) noFill_list_mul F.fills_int_mul F.slot_int_rmul repeat_list F.slot_int_index.lookup ?_
  refine call_meets F.slot_int_rmul (typeIs_int s k t) F.entry_int_rmul (F.args_int_rmul_2 _ _) (int___rmul___int_list k t p its.toArray n) ⟨at_, rfl, ⟨_, at_, rfl⟩, ?_⟩
  have door' := AutoListH.list___mul___list_int_3 p its.toArray n k t index room door
  refine call_meets F.slot_list_mul ⟨_, at_, rfl⟩ F.entry_list_mul (F.args_list_mul_2 _ _) door' ⟨at_, ?_⟩
  rw [fold_flat]
  exact r
theorem lst_at {vs : List V} (I : Inv X pins σ H s) {p : Addr} (h : L2.Rd H p (.lst vs)) : vs.length ≤ sizeLine ∧ ∃ (its : List Value) (n : Nat), Vals vs its ∧ vs.length = its.length ∧ s.heap.get? p = some { cls := .type "list", data := .seq its.toArray n } := by
  obtain ⟨fits, its, n, rel, at_⟩ := h.ok I.hok
  exact ⟨fits, its, n, rel, rel.length, at_⟩
theorem op_add' : OpP X B (binaryOp .Add) .add := by
  intro pins s σ H x y v u a b r Q I rx ry ra rb hr q
  change bAdd a b = some r at hr
  unfold bAdd at hr
  split at hr
  · rename_i i j
    cases hr
    rw [ra.int] at rx
    rw [rb.int] at ry
    obtain ⟨t, rfl⟩ := rx
    obtain ⟨t', rfl⟩ := ry
    exact add_int ⟨.int (i + j), H, I.tok _, ⟨_, rfl⟩, q _ H (Same.refl H) (Rp.int _)⟩
  · rename_i i j
    split at hr
    · rename_i hc
      cases hr
      exact op_add_str pins s σ H x y v u Q I rx ry ⟨_, _, ra.str, rb.str, by rw [toS_len, toS_len, ← line_eq]; exact hc, by rw [toS_app]; exact q _ H (Same.refl H) (Rp.str _)⟩
    · cases hr
  · rename_i xs ys
    split at hr
    · rename_i hc
      cases hr
      obtain ⟨p, vs, rfl, hp, hs⟩ := ra.lst
      obtain ⟨p', ws, rfl, hp', hs'⟩ := rb.lst
      cases rx
      cases ry
      obtain ⟨z, its, n, rv, l3, e⟩ := lst_at I hp
      obtain ⟨z2, its2, n2, rv2, l4, e2⟩ := lst_at I hp'
      have l1 := hs.length
      have l2 := hs'.length
      rw [line_eq] at hc
      have both := new_lst I (rv.append rv2) (by rw [List.length_append]; omega) (hs.app hs') q
      exact PySem.P.add_list e e2 (by rw [List.append_toArray]; exact both) (by simp only [List.size_toArray]; omega)
    · cases hr
  · cases hr
theorem rps_rep {vs : List V} {xs : List PV} (h : Rps B H vs xs) : ∀ k : Nat, Rps B H (List.replicate k vs).flatten (List.replicate k xs).flatten
  | 0 => .nil
  | k + 1 => by
    simpa only [List.replicate_succ, List.flatten_cons] using h.app (rps_rep h k)
theorem op_mul' : OpP X B (binaryOp .Mult) .mul := by
  intro pins s σ H x y v u a b r Q I rx ry ra rb hr q
  change bMul a b = some r at hr
  unfold bMul at hr
  split at hr
  · rename_i i j
    split at hr
    · rename_i hc
      cases hr
      rw [ra.int] at rx
      rw [rb.int] at ry
      obtain ⟨t, rfl⟩ := rx
      obtain ⟨t', rfl⟩ := ry
      exact mul_int ⟨.int (i * j), H, I.tok _, ⟨_, rfl⟩, q _ H (Same.refl H) (Rp.int _)⟩ (mulOk_ok hc)
    · cases hr
  · rename_i xs k
    split at hr
    · rename_i hc
      cases hr
      obtain ⟨h1, h2, hz⟩ := hc
      obtain ⟨p, vs, rfl, hp, hs⟩ := ra.lst
      rw [rb.int] at ry
      cases rx
      obtain ⟨t, rfl⟩ := ry
      obtain ⟨z, its, n, r, hl, e⟩ := lst_at I hp
      have l1 := hs.length
      rw [line_eq] at hz
      refine times_at e (by omega) (by omega) (by rw [List.size_toArray, ← hl, l1]; exact hz) ?_
      exact new_lst I (r.rep k.toNat) (by rw [PyProof.Rows.lm_len_rep_flat, Nat.mul_comm, l1]; exact hz) (rps_rep hs _) q
    · cases hr
  · rename_i xs k
    split at hr
    · rename_i hc
      cases hr
      obtain ⟨h1, h2, hz⟩ := hc
      rw [ra.str] at rx
      rw [rb.int] at ry
      obtain ⟨t, rfl⟩ := rx
      obtain ⟨t', rfl⟩ := ry
      rw [line_eq] at hz
      have el : (toS xs).length = xs.length := toS_len xs
      have hs := sizeLine_eq
      have fin : ∀ (z : Str) (tk : Nat) (t : Tok), z = toS (List.replicate k.toNat xs).flatten → EP X pins σ Q (.str z t) { s with toks := tk } := fun z tk t e => by
        subst e
        exact ⟨.str _, H, I.tok tk, ⟨_, rfl⟩, q _ H (Same.refl H) (Rp.str _)⟩
      refine PySem.P.mul_str (by
        rw [decide_eq_false (show ¬ k < -(2 ^ 63 : Int) by omega), decide_eq_false (show ¬ k ≥ 2 ^ 63 by omega)]; rfl) (fun hn hb => ?_) (fun hn hb => ?_) ?_
      · rw [el]
        have h3 : (xs.length : Int) * k ≤ 2 ^ 63 - 1 := by
          have e3 : ((k.toNat : Nat) : Int) = k := Int.toNat_of_nonneg (by omega)
          have h4 : ((xs.length * k.toNat : Nat) : Int) ≤ 16777216 := by omega
          rw [Int.natCast_mul, e3] at h4
          omega
        have h5 : (xs.length : Int) ≤ (2 ^ 63 - 1) / k := (Int.le_ediv_iff_mul_le (by omega)).mpr h3
        omega
      · rw [el]
        exact decide_eq_false (show ¬ _ by omega)
      · have eL : ∀ m : Nat, (⟨(List.replicate m (toS xs).cps).foldl (· ++ ·) #[]⟩ : Str) = toS (List.replicate m xs).flatten := fun m => by
          have f0 : ∀ (m : Nat) (acc : List Nat), (List.replicate m (toS xs).cps).foldl (· ++ ·) acc.toArray = (acc ++ (List.replicate m xs).flatten).toArray := by
            intro m
            induction m with
            | zero => intro acc; simp
            | succ m ih =>
              intro acc
              rw [List.replicate_succ, List.foldl_cons]
              have : acc.toArray ++ (toS xs).cps = (acc ++ xs).toArray := by simp [toS]
              rw [this, ih, List.replicate_succ, List.flatten_cons, List.append_assoc]
          have f1 := f0 m []
          rw [List.nil_append] at f1
          exact congrArg Str.mk f1
        have lenE : ∀ m : Nat, (toS (List.replicate m xs).flatten).length = m * xs.length := fun m => by
          rw [toS_len, List.length_flatten]; simp
        split
        · rename_i h0
          have e0 : k.toNat = 0 := by omega
          refine ⟨by decide, fin _ _ _ ?_⟩
          rw [e0]; rfl
        · split
          · rename_i h0 h1
            rw [Bool.or_eq_true, beq_iff_eq, beq_iff_eq, el] at h1
            refine fin (toS xs) s.toks t ?_
            rcases h1 with h1 | h1
            · subst h1; simp
            · have : xs = [] := List.eq_nil_of_length_eq_zero h1
              subst this; simp
          · rw [eL]
            refine ⟨?_, fin _ _ _ rfl⟩
            rw [lenE, Nat.mul_comm]
            exact hz
    · cases hr
  · cases hr
theorem op_eq' (hu : X.A.units + 64 < cLine) (hK : B.K = X.K) : OpP X B (compareOp .Eq) .eq := by
  intro pins s σ H x y v u a b r Q I rx ry ra rb hr q
  change bEq false a b = some r at hr
  unfold bEq at hr
  split at hr
  · rename_i hc
    cases hr
    simp only [decide_eq_true_eq, Bool.and_eq_true] at hc
    obtain ⟨⟨⟨h1, h2⟩, h3⟩, h4⟩ := hc
    obtain ⟨as, r1⟩ := Dp.reads I _ x v (hK ▸ ra.dp h1) rx
    obtain ⟨bs, r2⟩ := Dp.reads I _ y u (hK ▸ rb.dp h2) ry
    have d1 := toD_deep a
    refine SeqAt.eq_plain r1 r2 (toD_plain a h1) (toD_plain b h2) (by omega) ⟨.bl _, H, I, rfl, ?_⟩
    rw [toD_eqv a b h1 h2]
    simpa using q _ H (Same.refl H) (Rp.bl _)
  · cases hr
theorem op_ne' (hu : X.A.units + 64 < cLine) (hK : B.K = X.K) : OpP X B (compareOp .NotEq) .ne := by
  intro pins s σ H x y v u a b r Q I rx ry ra rb hr q
  change bEq true a b = some r at hr
  unfold bEq at hr
  split at hr
  · rename_i hc
    cases hr
    simp only [decide_eq_true_eq, Bool.and_eq_true] at hc
    obtain ⟨⟨⟨h1, h2⟩, h3⟩, h4⟩ := hc
    obtain ⟨as, r1⟩ := Dp.reads I _ x v (hK ▸ ra.dp h1) rx
    obtain ⟨bs, r2⟩ := Dp.reads I _ y u (hK ▸ rb.dp h2) ry
    have d1 := toD_deep a
    refine SeqAt.ne_plain r1 r2 (toD_plain a h1) (toD_plain b h2) (by omega) ⟨.bl _, H, I, rfl, ?_⟩
    rw [toD_eqv a b h1 h2]
    simpa using q _ H (Same.refl H) (Rp.bl _)
  · cases hr
theorem op_lt' : OpP X B (compareOp .Lt) .lt := by
  intro pins s σ H x y v u a b r Q I rx ry ra rb hr q
  change bLt a b = some r at hr
  unfold bLt at hr
  split at hr
  · rename_i i j
    cases hr
    rw [ra.int] at rx
    rw [rb.int] at ry
    obtain ⟨t, rfl⟩ := rx
    obtain ⟨t', rfl⟩ := ry
    exact lt_int ⟨.bl (decide (i < j)), H, I, rfl, q _ H (Same.refl H) (Rp.bl _)⟩
  · rename_i i j
    cases hr
    exact op_lt_str pins s σ H x y v u Q I rx ry ⟨_, _, ra.str, rb.str, q _ H (Same.refl H) (Rp.bl _)⟩
  · cases hr
theorem anyEq_toD {a : PV} (h : a.plain = true) : ∀ {ys : List PV}, plainAll ys = true → ((toDs ys).any fun y => PyData.eqv y (toD a)) = anyEq a ys
  | [], _ => rfl
  | y :: ys, hy => by
    rw [plainAll, Bool.and_eq_true] at hy
    have ih := anyEq_toD h hy.2
    unfold anyEq at ih ⊢
    rw [toDs, List.any_cons, List.any_cons, ih, toD_eqv y a hy.1 h]
theorem op_in' (hu : X.A.units + 66 < cLine) (hK : B.K = X.K) : OpP X B (compareOp .In) .in_ := by
  intro pins s σ H x y v u a b r Q I rx ry ra rb hr q
  change bIn false a b = some r at hr
  unfold bIn at hr
  split at hr
  · rename_i xs ss
    split at hr
    · rename_i c
      cases hr
      refine op_in_sign pins s σ H x y v u Q I rx ry ⟨c, toS ss, ra.str, rb.str, ?_⟩
      have e : decide (c ∈ (toS ss).cps.toList) = xor false (ss.elem c) := by
        rw [toS_cps]; simp
      rw [e]
      exact q _ H (Same.refl H) (Rp.bl _)
    · cases hr
  · rename_i xs ys hne
    split at hr
    · rename_i hc
      cases hr
      simp only [decide_eq_true_eq, Bool.and_eq_true] at hc
      obtain ⟨⟨h1, h2⟩, h3⟩ := hc
      obtain ⟨as, r1⟩ := Dp.reads I _ x v (hK ▸ ra.dp h1) rx
      obtain ⟨bs, r2⟩ := Dp.reads I _ y u (hK ▸ rb.dp (by rw [PV.plain]; exact h2)) ry
      have d1 := toD_deep a
      rw [toD] at r2
      refine SeqAt.in_list_data r2 r1 (toDs_plain _ h2) (toD_plain a h1) (by omega) ⟨.bl _, H, I, rfl, ?_⟩
      rw [anyEq_toD h1 h2]
      simpa using q _ H (Same.refl H) (Rp.bl _)
    · cases hr
  · rename_i xs ys hne
    split at hr
    · rename_i hc
      cases hr
      simp only [decide_eq_true_eq, Bool.and_eq_true] at hc
      obtain ⟨⟨h1, h2⟩, h3⟩ := hc
      obtain ⟨as, r1⟩ := Dp.reads I _ x v (hK ▸ ra.dp h1) rx
      obtain ⟨bs, r2⟩ := Dp.reads I _ y u (hK ▸ rb.dp (by rw [PV.plain]; exact h2)) ry
      have d1 := toD_deep a
      rw [toD] at r2
      refine SeqAt.in_tuple_data r2 r1 (toDs_plain _ h2) (toD_plain a h1) (by omega) ⟨.bl _, H, I, rfl, ?_⟩
      rw [anyEq_toD h1 h2]
      simpa using q _ H (Same.refl H) (Rp.bl _)
    · cases hr
  · cases hr
theorem op_nin' (hu : X.A.units + 66 < cLine) (hK : B.K = X.K) : OpP X B (compareOp .NotIn) .nin := by
  intro pins s σ H x y v u a b r Q I rx ry ra rb hr q
  change bIn true a b = some r at hr
  unfold bIn at hr
  split at hr
  · rename_i xs ss
    split at hr
    · rename_i c
      cases hr
      refine op_notIn_sign pins s σ H x y v u Q I rx ry ⟨c, toS ss, ra.str, rb.str, ?_⟩
      have e : (!decide (c ∈ (toS ss).cps.toList)) = xor true (ss.elem c) := by
        rw [toS_cps]; simp
      rw [e]
      exact q _ H (Same.refl H) (Rp.bl _)
    · cases hr
  · rename_i xs ys hne
    split at hr
    · rename_i hc
      cases hr
      simp only [decide_eq_true_eq, Bool.and_eq_true] at hc
      obtain ⟨⟨h1, h2⟩, h3⟩ := hc
      obtain ⟨as, r1⟩ := Dp.reads I _ x v (hK ▸ ra.dp h1) rx
      obtain ⟨bs, r2⟩ := Dp.reads I _ y u (hK ▸ rb.dp (by rw [PV.plain]; exact h2)) ry
      have d1 := toD_deep a
      rw [toD] at r2
      refine SeqAt.notIn_list_data r2 r1 (toDs_plain _ h2) (toD_plain a h1) (by omega) ⟨.bl _, H, I, rfl, ?_⟩
      rw [anyEq_toD h1 h2]
      simpa using q _ H (Same.refl H) (Rp.bl _)
    · cases hr
  · rename_i xs ys hne
    split at hr
    · rename_i hc
      cases hr
      simp only [decide_eq_true_eq, Bool.and_eq_true] at hc
      obtain ⟨⟨h1, h2⟩, h3⟩ := hc
      obtain ⟨as, r1⟩ := Dp.reads I _ x v (hK ▸ ra.dp h1) rx
      obtain ⟨bs, r2⟩ := Dp.reads I _ y u (hK ▸ rb.dp (by rw [PV.plain]; exact h2)) ry
      have d1 := toD_deep a
      rw [toD] at r2
      refine SeqAt.notIn_tuple_data r2 r1 (toDs_plain _ h2) (toD_plain a h1) (by omega) ⟨.bl _, H, I, rfl, ?_⟩
      rw [anyEq_toD h1 h2]
      simpa using q _ H (Same.refl H) (Rp.bl _)
    · cases hr
  · cases hr
theorem Rn.isNon {c : V} {x : PV} (h : Rn B H c x) : decide (c = .non) = isNon x := by
  rcases h with h | ⟨p, rfl, h⟩
  · cases h <;> rfl
  · cases x <;> first | rfl | exact h.elim
theorem op_is' : OpP X B (compareOp .Is) .is_ := by
  intro pins s σ H x y v u a b r Q I rx ry ra rb hr q
  change bIs false a b = some r at hr
  unfold bIs at hr
  split at hr
  · cases hr
    refine op_isN pins s σ H x y v u Q I rx ry ⟨rb.non, ?_⟩
    rw [ra.isNon]
    simpa using q _ H (Same.refl H) (Rp.bl _)
  · cases hr
theorem op_nis' : OpP X B (compareOp .IsNot) .nis := by
  intro pins s σ H x y v u a b r Q I rx ry ra rb hr q
  change bIs true a b = some r at hr
  unfold bIs at hr
  split at hr
  · cases hr
    refine op_notN pins s σ H x y v u Q I rx ry ⟨rb.non, ?_⟩
    rw [ra.isNon]
    simpa using q _ H (Same.refl H) (Rp.bl _)
  · cases hr
end
end Pv

/-! PvSound3: subscripts, methods, built-ins, types, truth over plain values. -/
namespace Pv
open PySem PyProof.Rows PySem.Spec L2
section
variable {X : Cx} {B : Tbl} {pins : List (Addr × Obj)} {s : Shared} {σ : L2.St} {H : Hp} {x y : V} {v u : Value} {a b : PV} {r : FV} {Q : VK}
theorem ixAt_eq (n : Nat) (i : Int) : ixAt n i = ixN n i := rfl
theorem Rps.atI {vs : List V} {xs : List PV} (h : Rps B H vs xs) {i : Int} {x : PV} (e : ((ixAt xs.length i).bind fun j => xs[j]?) = some x) : ∃ v, L2.atI vs i = some v ∧ Rp B H v x := by
  obtain ⟨j, h1, h2⟩ := Option.bind_eq_some_iff.mp e
  obtain ⟨v, h3, h4⟩ := h.get h2
  refine ⟨v, ?_, h4⟩
  unfold L2.atI
  rw [h.length, ← ixAt_eq, h1]
  exact h3
theorem keyP_isKey {k : PV} (h : isKey k = true) : ∃ q, keyP k = some q := by
  cases k <;> first | exact ⟨_, rfl⟩ | cases h
theorem keyEq_iff {x k : PV} {p q : Key} (hx : keyP x = some p) (hk : keyP k = some q) : keyEq x k = decide (p = q) := by
  cases x <;> cases hx <;> cases k <;> cases hk
  · rename_i i j
    rw [L2.key_ll]; rfl
  · rw [L2.key_lr]; rfl
  · rw [L2.key_rl]; rfl
  · rename_i s t
    rw [L2.key_rr]
    show (s == t) = _
    rw [← toS_beq]
    rfl
theorem KvP.get {kvs : List (Key × V)} {ks vs : List PV} (h : KvP B H kvs ks vs) {k : PV} {q : Key} (hk : keyP k = some q) {x : PV} (e : dget k ks vs = some x) : ∃ c, valV kvs q = some c ∧ Rp B H c x := by
  induction vs generalizing kvs ks with
  | nil => cases h; simp [dget] at e
  | cons v vs ih =>
    cases h with
    | cons h0 h1 h2 =>
      rw [dget] at e
      have e2 := keyEq_iff h0 hk
      rename_i xk _ _
      by_cases hq : (keyEq xk k) = true
      · rw [if_pos hq] at e
        cases e
        rw [e2] at hq
        exact ⟨_, valV_pos (of_decide_eq_true hq), h1⟩
      · rw [if_neg hq] at e
        rw [e2] at hq
        obtain ⟨c, hc, hr⟩ := ih h2 e
        exact ⟨c, by rw [valV_neg (fun z => hq (decide_eq_true z))]; exact hc, hr⟩
theorem keyP_rel {k : PV} {q : Key} (hk : keyP k = some q) {c : V} (h : Rn B H c k) : c = kV q := by
  cases k <;> cases hk
  · exact h.int
  · exact h.str
theorem op_ix' (hK : B.K = X.K) (hu : X.A.units + 1 < cLine) : IxR X (fun x y H Q => ∃ a b r, Rn B H x a ∧ Rn B H y b ∧ b2 .ix a b = some r ∧ ∀ c H', Same H H' → Res B H H' c r → Q c H') := by
  intro value slice pn s σ H x y v u Q I rx ry h hs
  obtain ⟨a, b, r, ra, rb, hr, q⟩ := h
  change bIx a b = some r at hr
  unfold bIx at hr
  split at hr
  · rename_i xs i
    obtain ⟨w, hw, rfl⟩ := Option.map_eq_some_iff.mp hr
    obtain ⟨p, vs, rfl, hp, hrs⟩ := ra.lst
    obtain ⟨c, hc, hrc⟩ := hrs.atI hw
    exact ix_list value slice pn s σ H _ y v u Q I rx ry ⟨p, vs, i, c, rfl, rb.int, .inl hp, hc, q _ H (Same.refl H) hrc⟩ hs
  · rename_i xs i
    obtain ⟨w, hw, rfl⟩ := Option.map_eq_some_iff.mp hr
    obtain ⟨p, vs, rfl, hp, hrs⟩ := ra.tup
    obtain ⟨c, hc, hrc⟩ := hrs.atI hw
    exact ix_tup value slice pn s σ H _ y v u Q I rx ry ⟨p, vs, i, c, rfl, rb.int, hK ▸ hp, hc, q _ H (Same.refl H) hrc⟩ hs
  · rename_i xs i
    split at hr
    · rename_i hl
      obtain ⟨w, hw, rfl⟩ := Option.map_eq_some_iff.mp hr
      exact ix_str value slice pn s σ H _ y v u Q I rx ry ⟨toS xs, i, w, ra.str, rb.int, by rw [toS_len, ← line_eq]; exact hl, by rw [toS_cps]; exact hw, q _ H (Same.refl H) (Rp.str [w])⟩ hs
    · cases hr
  · rename_i ks vs k
    split at hr
    · rename_i hk
      obtain ⟨w, hw, rfl⟩ := Option.map_eq_some_iff.mp hr
      obtain ⟨qk, hqk⟩ := keyP_isKey hk
      obtain ⟨p, kvs, rfl, hp, hrs⟩ := ra.dct
      obtain ⟨c, hc, hrc⟩ := hrs.get hqk hw
      have rv : v = .ref p := rx
      subst rv
      have g : DGet H p y (some c) := .inl ⟨kvs, qk, hp, keyP_rel hqk rb, hc.symm⟩
      have hT := dict_typeIs I g
      unfold subscriptTail
      refine wpAny_bind ?_
      rw [show _ = _ from getitemInPython_of_ne hT.not_modules]
      refine wpAny_bind (wpAny_specialOf hT PySem.F.slot_dict_getitem.lookup ?_)
      have fin : wpAny (model X.prog X.w) X.A (subscripted slice false (.ref p) u) (fun r s₃ => wpAny (model X.prog X.w) X.A (letTemporaryGo value (.ref p) r >>= fun _ => pure r) (EP X pn σ Q) X.xe s₃) X.xe s := by
        rw [hs]
        refine wpAny_operating (thn (d_getItem hu I g ry fun w' s3 I3 rw' => (⟨c, H, I3, rw', q _ H (Same.refl H) hrc⟩ : EP X pn σ Q w' s3)) fun r s₃ h₃ => wpAny_bind (wpAny_letTemporaryGo (wpAny_pure h₃)))
      have fin := wpAny_bind fin
      first
        | exact wpAny_pure fin
        | exact fin
        | refine wpAny_bind (wpAny_pure ?_); exact fin
    · cases hr
  · cases hr
theorem strsOf_rel {vs : List V} : ∀ {ys : List PV} {vs : List V} {l : List (List Nat)}, Rps B H vs ys → strsOf ys = some l → vs = (l.map toS).map V.str
  | [], _, _, h, e => by cases h; cases e; rfl
  | y :: ys, _, l, h, e => by
    cases h with
    | cons h1 h2 =>
      unfold strsOf at e
      split at e
      · exact absurd ‹y :: ys = []› (by simp)
      · rename_i z r heq
        cases heq
        obtain ⟨l', h3, rfl⟩ := Option.map_eq_some_iff.mp e
        cases h1
        rw [strsOf_rel (vs := []) h2 h3]; rfl
      · cases e
theorem lenSum_eq : ∀ l : List (List Nat), ((l.map toS).map (·.length)).sum = lenSum l
  | [] => rfl
  | x :: l => by rw [List.map_cons, List.map_cons, List.sum_cons, lenSum, lenSum_eq l, toS_len]
theorem strJoin_eq (z : List Nat) : ∀ l : List (List Nat), Str.join (toS z) (l.map toS) = toS (joinS z l)
  | [] => rfl
  | [x] => rfl
  | x :: y :: l => by
    rw [List.map_cons, List.map_cons, Str.join, ← List.map_cons, strJoin_eq z (y :: l), toS_app, toS_app, joinS]
    intro h; cases h
theorem mt_join' (hK : B.K = X.K) : MtR X "str.join" (fun x xs H Q => ∃ a b c r, xs = [c] ∧ Rn B H x a ∧ Rn B H c b ∧ b2 .join a b = some r ∧ ∀ c H', Same H H' → Res B H H' c r → Q c H') := by
  intro pn s σ H x xs v us Q I rx rs h
  obtain ⟨a, b, c, r, rfl, ra, rb, hr, q⟩ := h
  change bJoin a b = some r at hr
  unfold bJoin at hr
  have fin : ∀ {z : List Nat} {ys : List PV} {l : List (List Nat)} {p : Addr} {vs : List V}, x = .str (toS z) → c = .ref p → (SqL X.K H p vs ∨ SqT X.K H p vs) → Rps B H vs ys → strsOf ys = some l → lenSum l + l.length * z.length ≤ line → r = (false, .str (joinS z l)) →
      wpAny (model X.prog X.w) X.A (call (.builtin "str.join") (v :: us)) (EP X pn σ Q) X.xe s := by
    intro z ys l p vs ex ec hp hrs hl hz er
    subst ex ec er
    have ev := strsOf_rel (vs := []) hrs hl
    subst ev
    refine mt_join pn s σ H _ _ v us Q I rx rs ⟨toS z, p, l.map toS, rfl, rfl, hp, ?_, ?_⟩
    · rw [lenSum_eq, List.length_map, toS_len]
      exact hz
    · rw [TL.join_eq, strJoin_eq]
      exact q _ H (Same.refl H) (Rp.str _)
  split at hr
  · rename_i z ys
    obtain ⟨l, hl, hr⟩ := Option.bind_eq_some_iff.mp hr
    split at hr
    · rename_i hz
      cases hr
      obtain ⟨p, vs, ec, hp, hrs⟩ := rb.lst
      exact fin ra.str ec (.inl (.inl hp)) hrs hl hz rfl
    · cases hr
  · rename_i z ys
    obtain ⟨l, hl, hr⟩ := Option.bind_eq_some_iff.mp hr
    split at hr
    · rename_i hz
      cases hr
      obtain ⟨p, vs, ec, hp, hrs⟩ := rb.tup
      exact fin ra.str ec (.inr (hK ▸ hp)) hrs hl hz rfl
    · cases hr
  · cases hr
theorem occ_stay (s sub : Str) (hi : Nat) : ∀ (l : List Nat) (st : Array Nat × Nat), 1 ≤ st.fst.size → (forIn l st (StrLaws.occBody s sub hi 1)).run.fst = st.fst
  | [], st, _ => rfl
  | a :: l, st, h => by
    rw [List.forIn_cons]
    unfold StrLaws.occBody
    rw [if_neg (by omega)]
    exact occ_stay s sub hi l _ h
theorem occ_first (s sub : Str) (hi : Nat) : ∀ (l : List Nat) (free : Nat), (∀ i ∈ l, free ≤ i) →
    (forIn l ((#[] : Array Nat), free) (StrLaws.occBody s sub hi 1)).run.fst.toList.head? = l.find? fun i => decide (i + sub.length ≤ hi) && Builtin.Str.subAt s sub i
  | [], free, _ => rfl
  | a :: l, free, hf => by
    rw [List.forIn_cons]
    have ha : free ≤ a := hf a List.mem_cons_self
    by_cases hc : a + sub.length ≤ hi ∧ Builtin.Str.subAt s sub a = true
    · have e1 : StrLaws.occBody s sub hi 1 a (#[], free) = pure (ForInStep.yield (#[a], a + sub.length)) := by
        unfold StrLaws.occBody
        rw [if_pos ⟨⟨⟨by simp, ha⟩, hc.1⟩, hc.2⟩]; rfl
      rw [e1, List.find?_cons_of_pos (by simp [hc.1, hc.2])]
      have e2 := occ_stay s sub hi l (#[a], a + sub.length) (by simp)
      show ((forIn l (#[a], a + sub.length) (StrLaws.occBody s sub hi 1)).run.fst.toList).head? = some a
      rw [e2]; rfl
    · have e1 : StrLaws.occBody s sub hi 1 a (#[], free) = pure (ForInStep.yield (#[], free)) := by
        unfold StrLaws.occBody
        rw [if_neg (fun h => hc ⟨h.1.2, h.2⟩)]
      rw [e1, List.find?_cons_of_neg (by simpa using hc)]
      exact occ_first s sub hi l free fun i hi' => hf i (List.mem_cons_of_mem _ hi')
theorem occ_one (z : List Nat) (c n : Nat) (h : (z.findIdx? fun d => d == c) = some n) : Txt.index0 (toS z) (toS [c]) = some n := by
  unfold Txt.index0
  rw [StrLaws.occ_eq, occ_first _ _ _ _ _ (fun i _ => Nat.zero_le i)]
  obtain ⟨h1, h2, h3⟩ := List.findIdx?_eq_some_iff_getElem.mp h
  have key : ∀ i, (decide (i + (toS [c]).length ≤ (toS z).length) && Builtin.Str.subAt (toS z) (toS [c]) i) = decide (z[i]? = some c) := fun i => by
    rw [Bool.eq_iff_iff, Bool.and_eq_true, decide_eq_true_eq, decide_eq_true_eq]
    exact StrLaws.subAt_one (toS z) c i
  simp only [key]
  rw [List.find?_range'_eq_some]
  refine ⟨?_, ?_, fun j _ hj => ?_⟩
  · rw [decide_eq_true_eq, List.getElem?_eq_getElem h1]
    exact congrArg some (by simpa using h2)
  · rw [List.mem_range'_1, toS_len]; omega
  · have hj1 : j < z.length := by omega
    have := h3 j hj
    rw [Bool.not_eq_true', decide_eq_false_iff_not]
    rw [List.getElem?_eq_getElem hj1]
    intro e
    cases e
    simp at this
theorem mt_sfind' (hc : X.calm = true) : MtR X "str.index" (fun x xs H Q => ∃ a b c r, xs = [c] ∧ Rn B H x a ∧ Rn B H c b ∧ b2 .sfind a b = some r ∧ ∀ c H', Same H H' → Res B H H' c r → Q c H') := by
  intro pn s σ H x xs v us Q I rx rs h
  obtain ⟨a, b, c, r, rfl, ra, rb, hr, q⟩ := h
  change bSfind a b = some r at hr
  unfold bSfind at hr
  split at hr
  · rename_i z y
    split at hr
    · rename_i d
      obtain ⟨n, hn, rfl⟩ := Option.map_eq_some_iff.mp hr
      have e := occ_one z d n hn
      refine mt_sindex pn s σ H x [c] v us Q I rx rs ?_
      unfold Txt.index0 at e
      obtain ⟨rest, er⟩ : ∃ rest, Builtin.Str.occurrences (toS z) (toS [d]) 0 (toS z).length 1 = n :: rest := by
        cases q2 : Builtin.Str.occurrences (toS z) (toS [d]) 0 (toS z).length 1 with
        | nil => rw [q2] at e; cases e
        | cons m rest => rw [q2] at e; cases e; exact ⟨rest, rfl⟩
      exact ⟨toS z, toS [d], n, rest, ra.str, by rw [rb.str], er, q _ H (Same.refl H) (Rp.int _)⟩
    · cases hr
  · cases hr
theorem findEq_at {y : PV} : ∀ {xs : List PV} {k n : Nat}, findEq y xs k = some n → ∃ j x, n = k + j ∧ xs[j]? = some x ∧ eqv x y = true ∧ ∀ m z, m < j → xs[m]? = some z → eqv z y = false
  | [], k, n, h => by cases h
  | x :: xs, k, n, h => by
    rw [findEq] at h
    split at h
    · rename_i hq
      cases h
      exact ⟨0, x, rfl, rfl, hq, fun m z hm => by omega⟩
    · rename_i hq
      obtain ⟨j, x', e, h1, h2, h3⟩ := findEq_at h
      refine ⟨j + 1, x', by omega, by simpa using h1, h2, fun m z hm hz => ?_⟩
      cases m with
      | zero =>
        simp at hz
        subst hz
        simpa using hq
      | succ m => exact h3 m z (by omega) (by simpa using hz)
theorem mt_lfind' (hK : B.K = X.K) (hu : X.A.units + 66 < cLine) : MtR X "list.index" (fun x xs H Q => ∃ a b c r, xs = [c] ∧ Rn B H x a ∧ Rn B H c b ∧ b2 .lfind a b = some r ∧ ∀ c H', Same H H' → Res B H H' c r → Q c H') := by
  intro pn s σ H x xs v us Q I rx rs h
  obtain ⟨a, b, c, r, rfl, ra, rb, hr, q⟩ := h
  change bLfind a b = some r at hr
  unfold bLfind at hr
  split at hr
  · rename_i ys
    split at hr
    · rename_i hcnd
      simp only [Bool.and_eq_true, decide_eq_true_eq] at hcnd
      obtain ⟨⟨hp, hps⟩, hd⟩ := hcnd
      obtain ⟨n, hn, rfl⟩ := Option.map_eq_some_iff.mp hr
      obtain ⟨j, w, en, hw, hwe, hno⟩ := findEq_at hn
      have en : n = j := by omega
      subst en
      obtain ⟨p, vs, rfl, hpl, hrs⟩ := ra.lst
      cases rx
      cases rs with
      | cons ry rt =>
        rename_i uy ut
        cases rt
        obtain ⟨bs, r1⟩ := Dp.reads I _ c uy (hK ▸ rb.dp hp) ry
        obtain ⟨z, its, k, rv, hl, e⟩ := lst_at I hpl
        obtain ⟨as, h4⟩ := Dp.readsAll I _ _ its (hK ▸ hrs.dp hps) rv
        have hxs := toDs_plain ys hps
        have hmap : its.map (SeqAt.readOf s.heap) = toDs ys := SeqAt.readsAll_map_plain _ its as hxs h4
        have l1 := hrs.length
        have hj1 : n < ys.length := (List.getElem?_eq_some_iff.mp hw).1
        have hjl : n < its.length := by omega
        have hj : n < its.toArray.size := by simpa using hjl
        have hsl := sizeLine_eq
        have dd := toD_deep b
        have at_ : ∀ (m : Nat) (hm : m < its.toArray.size) (z' : PV), ys[m]? = some z' → SeqAt.readOf s.heap its.toArray[m] = toD z' := by
          intro m hm z' hz'
          have hml : m < its.length := by rwa [List.size_toArray] at hm
          have e2 : (its.map (SeqAt.readOf s.heap))[m]? = (toDs ys)[m]? := by rw [hmap]
          rw [List.getElem?_map, List.getElem?_eq_getElem hml, toDs_map, List.getElem?_map, hz'] at e2
          simpa using e2
        have pl : ∀ (m : Nat) (z' : PV), ys[m]? = some z' → z'.plain = true := by
          have : ∀ (l : List PV), plainAll l = true → ∀ z ∈ l, z.plain = true := by
            intro l
            induction l with
            | nil => intro _ z hz; cases hz
            | cons a l ih =>
              intro h z hz
              rw [plainAll, Bool.and_eq_true] at h
              exact (List.mem_cons.mp hz).elim (fun e => e ▸ h.1) (ih h.2 z)
          intro m z' hz'
          exact this ys hps z' (List.mem_of_getElem? hz')
        refine call_meets PySem.F.slot_list_index ⟨_, e, rfl⟩ PySem.F.entry_list_index (PySem.F.args_list_index_2 _ _)
          (SeqAt.list_indexAt p its.toArray k none #[] uy (fun u => PyData.eqv (SeqAt.readOf s.heap u) (toD b)) n hj (by omega) ?_ ?_) ⟨e, SeqAt.items_plain (vs := its.toArray) (show ReadsAll s.heap its.toArray.toList (toDs ys) as from h4) r1 hxs (toD_plain b hp) (by omega), ?_⟩
        · show PyData.eqv (SeqAt.readOf s.heap its.toArray[n]) (toD b) = true
          rw [at_ n hj w hw, toD_eqv w b (pl n w hw) hp]
          exact hwe
        · intro m hm hmj
          have hml : m < ys.length := by omega
          have hz' : ys[m]? = some ys[m] := List.getElem?_eq_getElem hml
          show PyData.eqv (SeqAt.readOf s.heap its.toArray[m]) (toD b) = false
          rw [at_ m hm _ hz', toD_eqv _ b (pl m _ hz') hp]
          exact hno m _ hmj hz'
        · exact ⟨.int (n : Nat), H, I.tok _, ⟨_, rfl⟩, q _ H (Same.refl H) (Rp.int _)⟩
    · cases hr
  · cases hr
/-- a call of a built-in with two values -/
theorem call_min' (hc : X.calm = true) : CallR X (.builtin "min") (fun xs H Q => ∃ a b x y r, xs = [x, y] ∧ Rn B H x a ∧ Rn B H y b ∧ b2 .min2 a b = some r ∧ ∀ c H', Same H H' → Res B H H' c r → Q c H') := by
  intro pn s σ H xs us Q I rs h
  obtain ⟨a, b, x, y, r, rfl, ra, rb, hr, q⟩ := h
  obtain ⟨i, j, w, rfl, rfl, hg, rfl⟩ := bInt_inv hr
  cases hg
  refine call_min2 hc pn s σ H _ us Q I rs ⟨i, j, by rw [ra.int, rb.int], q _ H (Same.refl H) (Rp.int _)⟩
theorem call_max' (hc : X.calm = true) : CallR X (.builtin "max") (fun xs H Q => ∃ a b x y r, xs = [x, y] ∧ Rn B H x a ∧ Rn B H y b ∧ b2 .max2 a b = some r ∧ ∀ c H', Same H H' → Res B H H' c r → Q c H') := by
  intro pn s σ H xs us Q I rs h
  obtain ⟨a, b, x, y, r, rfl, ra, rb, hr, q⟩ := h
  obtain ⟨i, j, w, rfl, rfl, hg, rfl⟩ := bInt_inv hr
  cases hg
  refine call_max2 hc pn s σ H _ us Q I rs ⟨i, j, by rw [ra.int, rb.int], q _ H (Same.refl H) (Rp.int _)⟩

/-! ### one place -/
def C1 (X : Cx) (B : Tbl) (f : Value) (o : U1) : Prop := CallR X f (fun xs H Q => ∃ a x r, xs = [x] ∧ Rn B H x a ∧ u1 o a = some r ∧ ∀ c H', Same H H' → Res B H H' c r → Q c H')
theorem call_len' (hK : B.K = X.K) : C1 X B (.builtin "len") .len := by
  intro pn s σ H xs us Q I rs h
  obtain ⟨a, x, r, rfl, ra, hr, q⟩ := h
  cases a <;> first | (simp [u1] at hr; done) | skip
  · rename_i z
    simp only [u1] at hr
    split at hr
    · rename_i hz
      cases hr
      refine call_len pn s σ H _ us Q I rs ⟨x, z.length, rfl, ?_, q _ H (Same.refl H) (Rp.int _)⟩
      rw [ra.str]
      exact ⟨by rw [toS_len, ← line_eq]; exact hz, (toS_len z).symm⟩
    · cases hr
  · rename_i ys
    cases hr
    obtain ⟨p, vs, rfl, hp, hrs⟩ := ra.tup
    refine call_len pn s σ H _ us Q I rs ⟨_, ys.length, rfl, .inr ⟨vs, hK ▸ hp, hrs.length.symm⟩, q _ H (Same.refl H) (Rp.int _)⟩
  · rename_i ys
    cases hr
    obtain ⟨p, vs, rfl, hp, hrs⟩ := ra.lst
    refine call_len pn s σ H _ us Q I rs ⟨_, ys.length, rfl, .inl ⟨vs, .inl hp, hrs.length.symm⟩, q _ H (Same.refl H) (Rp.int _)⟩
  · rename_i ys
    cases hr
    obtain ⟨p, vs, rfl, hp, hrs⟩ := ra.scr
    refine call_len pn s σ H _ us Q I rs ⟨_, ys.length, rfl, .inl ⟨vs, hK ▸ hp, hrs.length.symm⟩, q _ H (Same.refl H) (Rp.int _)⟩
theorem call_tuple' (hK : B.K = X.K) : C1 X B (.type "tuple") .tuple := by
  intro pn s σ H xs us Q I rs h
  obtain ⟨a, x, r, rfl, ra, hr, q⟩ := h
  cases a <;> first | (simp [u1] at hr; done) | skip
  · rename_i ys
    cases hr
    obtain ⟨p, vs, rfl, hp, hrs⟩ := ra.tup
    exact call_tuple_of pn s σ H _ us Q I rs ⟨p, vs, rfl, .inr ⟨hK ▸ hp, q _ H (Same.refl H) (Rp.tup hp hrs)⟩⟩
  · rename_i ys
    cases hr
    obtain ⟨p, vs, rfl, hp, hrs⟩ := ra.lst
    exact call_tuple_of pn s σ H _ us Q I rs ⟨p, vs, rfl, .inl ⟨.inl hp, fun l hl => q _ _ (same_upd hl) (Rp.tup (.inl (.inl upd_same)) (hrs.keep (.same (same_upd hl))))⟩⟩
theorem call_int' : C1 X B (.type "int") .toint := by
  intro pn s σ H xs us Q I rs h
  obtain ⟨a, x, r, rfl, ra, hr, q⟩ := h
  cases a <;> first | (simp [u1] at hr; done) | skip
  · cases hr
    exact call_int1 pn s σ H _ us Q I rs (.inr ⟨_, by rw [ra.bl], q _ H (Same.refl H) (Rp.int _)⟩)
  · cases hr
    exact call_int1 pn s σ H _ us Q I rs (.inl ⟨_, by rw [ra.int], q _ H (Same.refl H) (Rp.int _)⟩)
theorem boolsOf_rel : ∀ {ys : List PV} {vs : List V} {l : List Bool}, Rps B H vs ys → boolsOf ys = some l → vs = l.map V.bl
  | [], _, _, h, e => by cases h; cases e; rfl
  | y :: ys, _, l, h, e => by
    cases h with
    | cons h1 h2 =>
      unfold boolsOf at e
      split at e
      · exact absurd ‹y :: ys = []› (by simp)
      · rename_i z r heq
        cases heq
        obtain ⟨l', h3, rfl⟩ := Option.map_eq_some_iff.mp e
        cases h1
        rw [boolsOf_rel h2 h3]; rfl
      · cases e
theorem call_all' (hc : X.calm = true) : C1 X B (.builtin "all") .all := by
  intro pn s σ H xs us Q I rs h
  obtain ⟨a, x, r, rfl, ra, hr, q⟩ := h
  cases a <;> first | (simp [u1] at hr; done) | skip
  rename_i ys
  obtain ⟨l, hl, rfl⟩ := Option.map_eq_some_iff.mp hr
  obtain ⟨p, vs, rfl, hp, hrs⟩ := ra.lst
  have e := boolsOf_rel hrs hl
  subst e
  exact cr_all hc pn s σ H _ us Q I rs ⟨p, l, rfl, .inl hp, q _ H (Same.refl H) (Rp.bl _)⟩
theorem call_any' (hc : X.calm = true) : C1 X B (.builtin "any") .any := by
  intro pn s σ H xs us Q I rs h
  obtain ⟨a, x, r, rfl, ra, hr, q⟩ := h
  cases a <;> first | (simp [u1] at hr; done) | skip
  rename_i ys
  obtain ⟨l, hl, rfl⟩ := Option.map_eq_some_iff.mp hr
  obtain ⟨p, vs, rfl, hp, hrs⟩ := ra.lst
  have e := boolsOf_rel hrs hl
  subst e
  exact cr_any hc pn s σ H _ us Q I rs ⟨p, l, rfl, .inl hp, q _ H (Same.refl H) (Rp.bl _)⟩
theorem un_neg' : UnR X (unaryOp .USub) (fun x H Q => ∃ a r, Rn B H x a ∧ u1 .neg a = some r ∧ ∀ c H', Same H H' → Res B H H' c r → Q c H') := by
  intro pins s σ H x v Q I rx h
  obtain ⟨a, r, ra, hr, q⟩ := h
  cases a <;> first | (simp [u1] at hr; done) | skip
  rename_i i
  cases hr
  exact un_neg pins s σ H x v Q I rx ⟨i, ra.int, q _ H (Same.refl H) (Rp.int _)⟩
/-- a value's truth -/
theorem truth_rel (hK : B.K = X.K) {c : V} {a : PV} {k : Bool} (h : Rn B H c a) (e : truth a = some k) : TruV X.K c H k := by
  cases a <;> first | (simp [truth] at e; done) | skip
  · cases e; rw [h.non]; rfl
  · cases e; rw [h.bl]; rfl
  · cases e; rw [h.int]; rfl
  · rename_i z
    simp only [truth] at e
    split at e
    · rename_i hz
      cases e
      rw [h.str]
      refine ⟨by rw [toS_len, ← line_eq]; exact hz, ?_⟩
      rw [toS_len]
      cases z <;> simp
      omega
    · cases e
  · rename_i ys
    cases e
    obtain ⟨p, vs, rfl, hp, hrs⟩ := h.tup
    refine .inr (.inl ⟨vs, hK ▸ hp, ?_⟩)
    cases hrs <;> rfl
  · rename_i ys
    cases e
    obtain ⟨p, vs, rfl, hp, hrs⟩ := h.lst
    refine .inl ⟨vs, .inl hp, ?_⟩
    cases hrs <;> rfl
end
end Pv

/-! PvSound4: the slots of a frame and the abstract heap. -/
namespace Pv
open PySem PyProof.Rows PySem.Spec L2

/-- the frame's ground: what was tracked at its entry, what was lent to it -/
structure Fx where
  H0 : Hp
  L : List Addr
abbrev Tabl := List (Addr × Str)
def NoT (o : HO) : Prop := ∀ ps, o ≠ .tbl ps
/-- nothing was tracked there at the entry, but a table perhaps -/
def New0 (H0 : Hp) (p : Addr) : Prop := ∀ o, H0 p = some o → ¬ NoT o
structure RelS (B : Tbl) (T : Tabl) (C : Fx) (H : Hp) (σ : L2.St) (s : Sl) : Prop where
  len : σ.length = s.length
  fz : ∀ (i : Nat) (v : PV), s[i]? = some (some (SV.fz v)) → ∃ c, σ[i]? = some (some c) ∧ Rp B H c v
  ow : ∀ (i : Nat) (v : PV), s[i]? = some (some (SV.own v)) → ∃ p, σ[i]? = some (some (V.ref p)) ∧ Cont B H p v ∧ (New0 C.H0 p ∨ p ∈ C.L)
  ne : ∀ (i j : Nat) (v w : PV) (p : Addr), s[i]? = some (some (SV.own v)) → s[j]? = some (some (SV.own w)) → σ[i]? = some (some (V.ref p)) → σ[j]? = some (some (V.ref p)) → i = j
  kept : ∀ b o, C.H0 b = some o → b ∉ C.L → NoT o → H b = some o
  lin : ∀ b, b ∈ C.L → ∃ o, H b = some o ∧ NoT o
  tabs : LamX.Tabs T H
section
variable {B : Tbl} {T : Tabl} {C : Fx} {H H' : Hp} {σ : L2.St} {s : Sl}
/-- an own thing is a list or a dict -/
structure IsOwn (u : HO) : Prop where
  mu : Mut (some u)
  tup : ∀ xs, u ≠ .tup xs
  frz : ∀ o u', u ≠ .frz o u'
  ext : ∀ φ, u ≠ .ext φ
  tbl : NoT u
theorem IsOwn.lst {xs : List V} : IsOwn (.lst xs) := ⟨trivial, fun _ z => (nomatch z), fun _ _ z => (nomatch z), fun _ z => (nomatch z), fun _ z => (nomatch z)⟩
theorem IsOwn.dK {xs : List (Key × V)} : IsOwn (.dK xs) := ⟨trivial, fun _ z => (nomatch z), fun _ _ z => (nomatch z), fun _ z => (nomatch z), fun _ z => (nomatch z)⟩
theorem noT_frz {o : Obj} {u : HO} : NoT (.frz o u) := fun _ z => nomatch z
theorem Cont.some {p : Addr} {v : PV} (h : Cont B H p v) : ∃ u, H p = some u ∧ IsOwn u := by
  cases v with
  | lst xs => obtain ⟨vs, h, _⟩ := h; exact ⟨_, h, .lst⟩
  | dct ks vs => obtain ⟨kvs, h, _⟩ := h; exact ⟨_, h, .dK⟩
  | _ => exact h.elim
theorem Cont.move {p : Addr} {v : PV} (h : Cont B H p v) (k : Keep H H') (e : H' p = H p) : Cont B H' p v := by
  cases v with
  | lst xs => obtain ⟨vs, h, r⟩ := h; exact ⟨vs, by rw [e]; exact h, r.keep k⟩
  | dct ks vs => obtain ⟨kvs, h, r⟩ := h; exact ⟨kvs, by rw [e]; exact h, r.keep k⟩
  | _ => exact h.elim
theorem keep_upd {p : Addr} {u o : HO} (h : H p = some u) (iu : IsOwn u) : Keep H (upd H p o) :=
  ⟨fun b xs e => by rw [upd_ne (ne_of e h (Ne.symm (iu.tup xs)))]; exact e, fun b o' u' e => by rw [upd_ne (ne_of e h (Ne.symm (iu.frz o' u')))]; exact e, fun b φ e => by rw [upd_ne (ne_of e h (Ne.symm (iu.ext φ)))]; exact e⟩
theorem tabs_upd {p : Addr} {u o : HO} (t : LamX.Tabs T H) (h : H p = some u) (iu : IsOwn u) : LamX.Tabs T (upd H p o) := fun q hq => by
  obtain ⟨ps, e1, e2, e3⟩ := t q hq
  refine ⟨ps, by rw [upd_ne (ne_of e1 h (Ne.symm (iu.tbl ps)))]; exact e1, e2, fun pos cv hc => ?_⟩
  obtain ⟨c, ec, eo⟩ := e3 pos cv hc
  exact ⟨c, ec, by rw [upd_ne (ne_of eo h (Ne.symm (iu.ext _)))]; exact eo⟩
theorem keep_extN (g : LamX.ExtN H H') : Keep H H' := ⟨fun b _ e => g b _ e (fun _ z => nomatch z), fun b _ _ e => g b _ e (fun _ z => nomatch z), fun b _ e => g b _ e (fun _ z => nomatch z)⟩
/-- the tables turn, new things -/
theorem RelS.extN (r : RelS B T C H σ s) (g : LamX.ExtN H H') (t : LamX.Tabs T H') : RelS B T C H' σ s where
  len := r.len
  fz := fun i v e => let ⟨c, h1, h2⟩ := r.fz i v e; ⟨c, h1, h2.keep (keep_extN g)⟩
  ow := fun i v e => by
    obtain ⟨p, h1, h2, h3⟩ := r.ow i v e
    obtain ⟨u, hu, iu⟩ := h2.some
    exact ⟨p, h1, h2.move (keep_extN g) (by rw [hu]; exact g _ _ hu iu.tbl), h3⟩
  ne := r.ne
  kept := fun b o e l n => g b o (r.kept b o e l n) n
  lin := fun b hb => let ⟨o, e, n⟩ := r.lin b hb; ⟨o, g b o e n, n⟩
  tabs := t
theorem RelS.grow (r : RelS B T C H σ s) (g : Same H H') : RelS B T C H' σ s := r.extN (.of g) (r.tabs.ext g)
/-- a new thing of one's own -/
structure Fresh (B : Tbl) (C : Fx) (H : Hp) (σ : L2.St) (s : Sl) (c : V) (v : PV) : Prop where
  ex : ∃ p, c = .ref p ∧ Cont B H p v ∧ New0 C.H0 p ∧ p ∉ C.L ∧ ∀ (j : Nat) (w : PV), s[j]? = some (some (SV.own w)) → σ[j]? ≠ some (some (V.ref p))
/-- an expression's value -/
def RR (B : Tbl) (C : Fx) (H : Hp) (σ : L2.St) (s : Sl) (c : V) : FV → Prop
  | (true, v) => Fresh B C H σ s c v
  | (false, v) => Rp B H c v
theorem RelS.fresh (r : RelS B T C H σ s) {p : Addr} (h : H p = none) : New0 C.H0 p ∧ p ∉ C.L ∧ ∀ (j : Nat) (w : PV), s[j]? = some (some (SV.own w)) → σ[j]? ≠ some (some (V.ref p)) := by
  have hl : p ∉ C.L := fun hm => by
    obtain ⟨o, e, _⟩ := r.lin p hm
    rw [h] at e; cases e
  refine ⟨fun o e n => ?_, hl, fun j w e1 e2 => ?_⟩
  · rw [r.kept p o e hl n] at h; cases h
  · obtain ⟨q, h1, h2, _⟩ := r.ow j w e1
    rw [e2] at h1
    cases h1
    obtain ⟨u, hu, _⟩ := h2.some
    rw [h] at hu; cases hu
theorem RelS.res (r : RelS B T C H σ s) {c : V} {x : FV} (h : Res B H H' c x) : RR B C H' σ s c x := by
  obtain ⟨fl, v⟩ := x
  cases fl with
  | false => exact h
  | true =>
    obtain ⟨p, e, hn, hc⟩ := h
    obtain ⟨h1, h2, h3⟩ := r.fresh hn
    exact ⟨p, e, hc, h1, h2, h3⟩
/-- what may be read now, by a place -/
def relP (B : Tbl) (p : P) (σ : L2.St) (H : Hp) (c : V) (v : PV) : Prop := match p with
  | .v i => σ[i]? = some (some c)
  | .e _ => Rp B H c v
theorem getS_some {i : Nat} {v : PV} (h : getS s i = some v) : s[i]? = some (some (SV.fz v)) ∨ s[i]? = some (some (SV.own v)) := by
  unfold getS at h
  split at h
  · rename_i x e
    cases h
    cases x with
    | fz v => exact .inl e
    | own v => exact .inr e
  · cases h
theorem RelS.rn (r : RelS B T C H σ s) {i : Nat} {v : PV} {c : V} (h : getS s i = some v) (e : σ[i]? = some (some c)) : Rn B H c v := by
  rcases getS_some h with h | h
  · obtain ⟨c', h1, h2⟩ := r.fz i v h
    rw [e] at h1; cases h1
    exact .inl h2
  · obtain ⟨p, h1, h2, _⟩ := r.ow i v h
    rw [e] at h1; cases h1
    exact .inr ⟨p, rfl, h2⟩
theorem RelS.slot (r : RelS B T C H σ s) {i : Nat} {v : PV} (h : getS s i = some v) : ∃ c, σ[i]? = some (some c) := by
  rcases getS_some h with h | h
  · obtain ⟨c', h1, h2⟩ := r.fz i v h; exact ⟨_, h1⟩
  · obtain ⟨p, h1, h2, _⟩ := r.ow i v h; exact ⟨_, h1⟩
theorem relP_fin {p : P} {v v' : PV} {c : V} {H1 : Hp} (r : RelS B T C H σ s) (k : Keep H1 H) (h : relP B p σ H1 c v) (e : reread p v s = some v') : Rn B H c v' := by
  cases p with
  | v i => exact r.rn e h
  | e x =>
    have e2 : v = v' := Option.some.inj e
    subst e2
    have h : Rp B H1 c v := h
    exact .inl (h.keep k)
theorem set_at {α : Type} {l : List α} {i j : Nat} {x y : α} (h : (l.set i x)[j]? = some y) : (j = i ∧ y = x) ∨ (j ≠ i ∧ l[j]? = some y) := by
  by_cases e : i = j
  · subst e
    by_cases hl : i < l.length
    · rw [List.getElem?_set_self hl] at h; cases h; exact .inl ⟨rfl, rfl⟩
    · rw [List.getElem?_eq_none (by simpa using hl)] at h; cases h
  · rw [List.getElem?_set_ne e] at h; exact .inr ⟨fun z => e z.symm, h⟩
/-- an own thing is written -/
theorem RelS.write (r : RelS B T C H σ s) {i : Nat} {v v' : PV} {p : Addr} {o : HO} (h : s[i]? = some (some (SV.own v))) (e : σ[i]? = some (some (V.ref p))) (hc : Cont B (upd H p o) p v') :
    RelS B T C (upd H p o) σ (s.set i (some (SV.own v'))) ∧ Keep H (upd H p o) := by
  obtain ⟨q, h1, h2, h3⟩ := r.ow i v h
  rw [e] at h1; cases h1
  obtain ⟨u, hu, iu⟩ := h2.some
  have kp := keep_upd (o := o) hu iu
  refine ⟨⟨by rw [List.length_set]; exact r.len, fun j w ej => ?_, fun j w ej => ?_, fun j k w x q e1 e2 e3 e4 => ?_, fun b ob eb l n => ?_, fun b hb => ?_, tabs_upd r.tabs hu iu⟩, kp⟩
  · rcases set_at ej with ⟨_, z⟩ | ⟨_, z⟩
    · cases z
    · obtain ⟨c, h5, h6⟩ := r.fz j w z
      exact ⟨c, h5, h6.keep kp⟩
  · rcases set_at ej with ⟨rfl, z⟩ | ⟨hne, z⟩
    · cases z
      exact ⟨p, e, hc, h3⟩
    · obtain ⟨q, h5, h6, h7⟩ := r.ow j w z
      have : q ≠ p := fun z2 => hne (r.ne j i w v p z h (z2 ▸ h5) e)
      exact ⟨q, h5, h6.move kp (upd_ne this), h7⟩
  · rcases set_at e1 with ⟨rfl, _⟩ | ⟨h5, z1⟩
    · rcases set_at e2 with ⟨rfl, _⟩ | ⟨_, z2⟩
      · rfl
      · exact r.ne _ _ _ _ q h z2 e3 e4
    · rcases set_at e2 with ⟨rfl, _⟩ | ⟨_, z2⟩
      · exact r.ne _ _ _ _ q z1 h e3 e4
      · exact r.ne _ _ _ _ q z1 z2 e3 e4
  · have : b ≠ p := fun z => by
      subst z
      rcases h3 with h3 | h3
      · exact h3 ob eb n
      · exact l h3
    rw [upd_ne this]
    exact r.kept b ob eb l n
  · by_cases z : b = p
    · subst z
      obtain ⟨u', hu', iu'⟩ := hc.some
      exact ⟨u', hu', iu'.tbl⟩
    · rw [upd_ne z]
      exact r.lin b hb
/-- an own thing is one's own no more -/
theorem RelS.lock (r : RelS B T C H σ s) {i : Nat} {v : PV} {p : Addr} {u : HO} {od : Obj} (h : s[i]? = some (some (SV.own v))) (e : σ[i]? = some (some (V.ref p))) (hu : H p = some u) :
    RelS B T C (upd H p (.frz od u)) σ (s.set i (some (SV.fz v))) ∧ Keep H (upd H p (.frz od u)) ∧ Rp B (upd H p (.frz od u)) (.ref p) v := by
  obtain ⟨q, h1, h2, h3⟩ := r.ow i v h
  rw [e] at h1; cases h1
  obtain ⟨u', hu', iu⟩ := h2.some
  rw [hu] at hu'; cases hu'
  have kp := keep_upd (o := .frz od u) hu iu
  have hr : Rp B (upd H p (.frz od u)) (.ref p) v := by
    cases v with
    | lst xs =>
      obtain ⟨vs, h4, h5⟩ := h2
      rw [hu] at h4; cases h4
      exact .lst upd_same (h5.keep kp)
    | dct ks vs =>
      obtain ⟨kvs, h4, h5⟩ := h2
      rw [hu] at h4; cases h4
      exact .dct upd_same (h5.keep kp)
    | _ => exact h2.elim
  refine ⟨⟨by rw [List.length_set]; exact r.len, fun j w ej => ?_, fun j w ej => ?_, fun j k w x q e1 e2 e3 e4 => ?_, fun b ob eb l n => ?_, fun b hb => ?_, tabs_upd r.tabs hu iu⟩, kp, hr⟩
  · rcases set_at ej with ⟨rfl, z⟩ | ⟨_, z⟩
    · cases z
      exact ⟨_, e, hr⟩
    · obtain ⟨c, h5, h6⟩ := r.fz j w z
      exact ⟨c, h5, h6.keep kp⟩
  · rcases set_at ej with ⟨rfl, z⟩ | ⟨hne, z⟩
    · cases z
    · obtain ⟨q, h5, h6, h7⟩ := r.ow j w z
      have : q ≠ p := fun z2 => hne (r.ne j i w v p z h (z2 ▸ h5) e)
      exact ⟨q, h5, h6.move kp (upd_ne this), h7⟩
  · rcases set_at e1 with ⟨_, z⟩ | ⟨h5, z1⟩
    · cases z
    · rcases set_at e2 with ⟨_, z⟩ | ⟨_, z2⟩
      · cases z
      · exact r.ne _ _ _ _ q z1 z2 e3 e4
  · have : b ≠ p := fun z => by
      subst z
      rcases h3 with h3 | h3
      · exact h3 ob eb n
      · exact l h3
    rw [upd_ne this]
    exact r.kept b ob eb l n
  · by_cases z : b = p
    · subst z
      exact ⟨_, upd_same, noT_frz⟩
    · rw [upd_ne z]
      exact r.lin b hb
/-- a new thing is locked: it stays from here on -/
theorem RelS.lockF (r : RelS B T C H σ s) {c : V} {v : PV} (f : Fresh B C H σ s c v) : ∃ p u, c = .ref p ∧ H p = some u ∧ Mut (some u) ∧ ∀ od, RelS B T C (upd H p (.frz od u)) σ s ∧ Keep H (upd H p (.frz od u)) ∧ Rp B (upd H p (.frz od u)) c v := by
  obtain ⟨p, rfl, hc, h0, hl, hn⟩ := f.ex
  obtain ⟨u, hu, iu⟩ := hc.some
  refine ⟨p, u, rfl, hu, iu.mu, fun od => ?_⟩
  have kp := keep_upd (o := .frz od u) hu iu
  have hr : Rp B (upd H p (.frz od u)) (.ref p) v := by
    cases v with
    | lst xs =>
      obtain ⟨vs, h4, h5⟩ := hc
      rw [hu] at h4; cases h4
      exact .lst upd_same (h5.keep kp)
    | dct ks vs =>
      obtain ⟨kvs, h4, h5⟩ := hc
      rw [hu] at h4; cases h4
      exact .dct upd_same (h5.keep kp)
    | _ => exact hc.elim
  refine ⟨⟨r.len, fun j w ej => ?_, fun j w ej => ?_, r.ne, fun b ob eb l n => ?_, fun b hb => ?_, tabs_upd r.tabs hu iu⟩, kp, hr⟩
  · obtain ⟨c, h5, h6⟩ := r.fz j w ej
    exact ⟨c, h5, h6.keep kp⟩
  · obtain ⟨q, h5, h6, h7⟩ := r.ow j w ej
    have : q ≠ p := fun z2 => hn j w ej (z2 ▸ h5)
    exact ⟨q, h5, h6.move kp (upd_ne this), h7⟩
  · have : b ≠ p := fun z => by subst z; exact h0 ob eb n
    rw [upd_ne this]
    exact r.kept b ob eb l n
  · rw [upd_ne (fun (z : b = p) => hl (z ▸ hb))]
    exact r.lin b hb
/-- a slot is stored to -/
theorem RelS.store (r : RelS B T C H σ s) {i : Nat} {c : V} {x : FV} (h : RR B C H σ s c x) : RelS B T C H (σ.set i (some c)) (s.set i (some (mkSV x))) := by
  obtain ⟨fl, v⟩ := x
  have other : ∀ {j : Nat} {y : Option SV}, j ≠ i → (σ.set i (some c))[j]? = σ[j]? := fun hj => List.getElem?_set_ne (Ne.symm hj)
  have here : ∀ {y : Option SV}, (s.set i (some (mkSV (fl, v))))[i]? = some y → (σ.set i (some c))[i]? = some (some c) := fun {y} e => by
    have hl : i < (s.set i (some (mkSV (fl, v)))).length := (List.getElem?_eq_some_iff.mp e).1
    rw [List.getElem?_set_self (by rw [r.len]; simpa using hl)]
  cases fl with
  | false =>
    refine ⟨by rw [List.length_set, List.length_set]; exact r.len, fun j w ej => ?_, fun j w ej => ?_, fun j k w y q e1 e2 e3 e4 => ?_, r.kept, r.lin, r.tabs⟩
    · rcases set_at ej with ⟨rfl, z⟩ | ⟨hne, z⟩
      · cases z
        exact ⟨c, here ej, h⟩
      · rw [other (y := none) hne]
        exact r.fz j w z
    · rcases set_at ej with ⟨rfl, z⟩ | ⟨hne, z⟩
      · cases z
      · rw [other (y := none) hne]
        exact r.ow j w z
    · rcases set_at e1 with ⟨_, z⟩ | ⟨h1, z1⟩
      · cases z
      · rcases set_at e2 with ⟨_, z⟩ | ⟨h2, z2⟩
        · cases z
        · rw [other (y := none) h1] at e3
          rw [other (y := none) h2] at e4
          exact r.ne _ _ _ _ q z1 z2 e3 e4
  | true =>
    obtain ⟨p, rfl, hc, h0, hl, hn⟩ := (show Fresh B C H σ s c v from h).ex
    refine ⟨by rw [List.length_set, List.length_set]; exact r.len, fun j w ej => ?_, fun j w ej => ?_, fun j k w y q e1 e2 e3 e4 => ?_, r.kept, r.lin, r.tabs⟩
    · rcases set_at ej with ⟨rfl, z⟩ | ⟨hne, z⟩
      · cases z
      · rw [other (y := none) hne]
        exact r.fz j w z
    · rcases set_at ej with ⟨rfl, z⟩ | ⟨hne, z⟩
      · cases z
        exact ⟨p, here ej, hc, .inl h0⟩
      · rw [other (y := none) hne]
        exact r.ow j w z
    · rcases set_at e1 with ⟨rfl, z⟩ | ⟨h1, z1⟩
      · have e3' := here e1
        rw [e3'] at e3; cases e3
        rcases set_at e2 with ⟨rfl, z⟩ | ⟨h2, z2⟩
        · rfl
        · rw [other (y := none) h2] at e4
          exact absurd e4 (hn _ _ z2)
      · rw [other (y := none) h1] at e3
        rcases set_at e2 with ⟨rfl, z⟩ | ⟨h2, z2⟩
        · have e4' := here e2
          rw [e4'] at e4; cases e4
          exact absurd e3 (hn _ _ z1)
        · rw [other (y := none) h2] at e4
          exact r.ne _ _ _ _ q z1 z2 e3 e4
/-- a slot that holds no own thing is forgotten -/
theorem RelS.wipe1 (r : RelS B T C H σ s) (i : Nat) : RelS B T C H (σ.set i none) (s.set i none) := by
  have other : ∀ {j : Nat}, j ≠ i → (σ.set i none)[j]? = σ[j]? := fun hj => List.getElem?_set_ne (Ne.symm hj)
  refine ⟨by rw [List.length_set, List.length_set]; exact r.len, fun j w ej => ?_, fun j w ej => ?_, fun j k w y q e1 e2 e3 e4 => ?_, r.kept, r.lin, r.tabs⟩
  · rcases set_at ej with ⟨rfl, z⟩ | ⟨hne, z⟩
    · cases z
    · rw [other hne]; exact r.fz j w z
  · rcases set_at ej with ⟨rfl, z⟩ | ⟨hne, z⟩
    · cases z
    · rw [other hne]; exact r.ow j w z
  · rcases set_at e1 with ⟨_, z⟩ | ⟨h1, z1⟩
    · cases z
    · rcases set_at e2 with ⟨_, z⟩ | ⟨h2, z2⟩
      · cases z
      · rw [other h1] at e3
        rw [other h2] at e4
        exact r.ne _ _ _ _ q z1 z2 e3 e4
/-- one more thing is kept -/
def Fx.add (C : Fx) (p : Addr) (o : HO) : Fx := ⟨upd C.H0 p o, C.L⟩
theorem RelS.add (r : RelS B T C H σ s) {p : Addr} {o : HO} (h : H p = some o) (hl : p ∉ C.L) (hn : ∀ (j : Nat) (w : PV), s[j]? = some (some (SV.own w)) → σ[j]? ≠ some (some (V.ref p))) : RelS B T (C.add p o) H σ s := by
  refine ⟨r.len, r.fz, fun j w ej => ?_, r.ne, fun b ob eb l n => ?_, r.lin, r.tabs⟩
  · obtain ⟨q, h1, h2, h3⟩ := r.ow j w ej
    refine ⟨q, h1, h2, h3.imp_left fun z ob eb => ?_⟩
    have : q ≠ p := fun z2 => hn j w ej (z2 ▸ h1)
    have eb : upd C.H0 p o q = some ob := eb
    rw [upd_ne this] at eb
    exact z ob eb
  · have eb : upd C.H0 p o b = some ob := eb
    by_cases hb : b = p
    · subst hb
      rw [upd_same] at eb; cases eb
      exact h
    · rw [upd_ne hb] at eb
      exact r.kept b ob eb l n
theorem RelS.unadd {p : Addr} {o : HO} (r : RelS B T (C.add p o) H σ s) (h0 : New0 C.H0 p) (hl : p ∉ C.L) (no : NoT o) : RelS B T C H σ s ∧ H p = some o ∧ ∀ (j : Nat) (w : PV), s[j]? = some (some (SV.own w)) → σ[j]? ≠ some (some (V.ref p)) := by
  have key : ∀ (q : Addr), (New0 (C.add p o).H0 q ∨ q ∈ C.L) → q ≠ p := fun q h z => by
    subst z
    rcases h with h | h
    · exact h o upd_same no
    · exact hl h
  refine ⟨⟨r.len, r.fz, fun j w ej => ?_, r.ne, fun b ob eb l n => ?_, r.lin, r.tabs⟩, r.kept p o upd_same hl no, fun j w ej e2 => ?_⟩
  · obtain ⟨q, h1, h2, h3⟩ := r.ow j w ej
    have hq := key q h3
    refine ⟨q, h1, h2, h3.imp_left fun z ob eb => z ob ?_⟩
    show upd C.H0 p o q = some ob
    rw [upd_ne hq]
    exact eb
  · refine r.kept b ob ?_ l n
    show upd C.H0 p o b = some ob
    rw [upd_ne (fun z => by subst z; exact h0 ob eb n)]
    exact eb
  · obtain ⟨q, h1, h2, h3⟩ := r.ow j w ej
    rw [e2] at h1; cases h1
    exact key _ h3 rfl
end
end Pv

/-! PvSound5: what a run of the small language says of the program's text: expressions. -/
namespace Pv
open PySem PyProof.Rows PySem.Spec L2

/-- an exception out of the run, as the context wishes it -/
def ErrOk (B : Tbl) (W : WX) (σ : L2.St) (H : Hp) (k : Nat) (d : List PV) : Prop := d = [] ∧ ∃ C, B.clA k = some C ∧ W (.ref C) none σ H
/-- a run's answer, and what is wanted of it -/
def Kq (B : Tbl) (T : Tabl) (W : WX) (C : Fx) (σ : L2.St) (H : Hp) {α γ : Type} (rel : Hp → Sl → α → γ → Prop) (K : γ → Hp → Prop) : R α → Prop
  | .ok a s => ∀ c H', Keep H H' → RelS B T C H' σ s → rel H' s a c → K c H'
  | .err k d s => ∀ H', Keep H H' → RelS B T C H' σ s → ErrOk B W σ H' k d
  | .bad => False
section
variable {Q : Env} {B : Tbl} {T : Tabl} {W : WX} {C : Fx} {σ : L2.St} {H H1 : Hp} {α β γ δ : Type}
theorem Kq.later {rel : Hp → Sl → α → γ → Prop} {K : γ → Hp → Prop} {x : R α} (h : Kq B T W C σ H rel K x) (k : Keep H H1) : Kq B T W C σ H1 rel K x := by
  cases x with
  | ok a s => exact fun c H' k' r q => h c H' (k.trans k') r q
  | err n d s => exact fun H' k' r => h H' (k.trans k') r
  | bad => exact h
theorem Kq.bind {rel : Hp → Sl → α → γ → Prop} {rel' : Hp → Sl → β → δ → Prop} {K : δ → Hp → Prop} {x : R α} {f : α → Sl → R β} (h : Kq B T W C σ H rel' K (x.bind f)) :
    Kq B T W C σ H rel (fun c H1 => ∃ a s1, RelS B T C H1 σ s1 ∧ rel H1 s1 a c ∧ Keep H H1 ∧ Kq B T W C σ H1 rel' K (f a s1)) x := by
  cases x with
  | ok a s => exact fun c H' k r q => ⟨a, s, r, q, k, Kq.later (show Kq B T W C σ H rel' K (f a s) from h) k⟩
  | err n d s => exact h
  | bad => exact h
theorem Kq.liftO {rel : Hp → Sl → α → γ → Prop} {K : γ → Hp → Prop} {x : Option α} {s : Sl} (h : Kq B T W C σ H rel K (liftO x s)) : ∃ a, x = some a ∧ Kq B T W C σ H rel K (.ok a s) := by
  cases x with
  | none => exact h.elim
  | some a => exact ⟨a, rfl, h⟩
/-- the value may be read, by a place -/
def relPn (B : Tbl) (p : P) (σ : L2.St) (H : Hp) (s : Sl) (v : PV) (c : V) : Prop := match p with
  | .v i => σ[i]? = some (some c) ∧ getS s i = some v
  | .e _ => Rp B H c v
theorem relPn_p {p : P} {s : Sl} {v : PV} {c : V} (h : relPn B p σ H s v c) : relP B p σ H c v := by
  cases p with
  | v i => exact h.1
  | e x => exact h
theorem relPn_now {p : P} {s : Sl} {v : PV} {c : V} (r : RelS B T C H σ s) (h : relPn B p σ H s v c) : Rn B H c v := by
  cases p with
  | v i => exact r.rn h.2 h.1
  | e x => exact .inl h
end
/-! ### readings -/
section
variable (Q : Env) (B : Tbl) (T : Tabl) (W : WX)
def tR (e : E) : TE := fun σ H K => ∃ C s, RelS B T C H σ s ∧ Kq B T W C σ H (fun H' s' x c => RR B C H' σ s' c x) K (evR Q e s)
def tE (e : E) : TE := fun σ H K => ∃ C s, RelS B T C H σ s ∧ Kq B T W C σ H (fun H' _ (x : FV) c => Rp B H' c x.2) K (evR Q e s)
def tP (p : P) : TE := fun σ H K => ∃ C s, RelS B T C H σ s ∧ Kq B T W C σ H (fun H' s' v c => relPn B p σ H' s' v c) K (evP Q p s)
def tT (t : Pv.T) : TT := fun σ H K => ∃ C s, RelS B T C H σ s ∧ Kq B T W C σ H (fun _ _ a c => a = c) K (evT Q t s)
def tEs (es : Es) : TA := fun σ H K => ∃ C s, RelS B T C H σ s ∧ Kq B T W C σ H (fun H' _ xs vs => Rps B H' vs xs) K (evEs Q es s)
end
section
variable {Q : Env} {B : Tbl} {T : Tabl} {W : WX} {X : Cx}
/-- a new thing is locked -/
theorem lockR {e : E} {x : Expr} (h : PE X x (tR Q B T W e)) : PE X x (tE Q B T W e) := by
  refine ⟨fun pins s σ H K I hk => ?_⟩
  obtain ⟨C, sl, r, hk⟩ := hk
  have run := h.run pins s σ H (fun c H1 => ∃ x s1, RelS B T C H1 σ s1 ∧ RR B C H1 σ s1 c x ∧ ∀ H2, Keep H1 H2 → RelS B T C H2 σ s1 → Rp B H2 c x.2 → K c H2) I ⟨C, sl, r, ?_⟩
  · refine thn run fun v s1 ⟨c, H1, I1, rv, x, s1l, r1, rr, hk⟩ => ?_
    obtain ⟨fl, w⟩ := x
    cases fl with
    | false => exact ⟨c, H1, I1, rv, hk H1 (Keep.refl _) r1 rr⟩
    | true =>
      obtain ⟨p, u, ec, hu, mu, hl⟩ := r1.lockF (show Fresh B C H1 σ s1l c w from rr)
      obtain ⟨od, I2⟩ := I1.lock hu mu
      obtain ⟨r2, k2, rp⟩ := hl od
      exact ⟨c, _, I2, rv, hk _ k2 r2 rp⟩
  · cases q : evR Q e sl with
    | ok x s1 =>
      rw [q] at hk
      exact fun c H' k r' rr => ⟨x, s1, r', rr, fun H2 k2 r2 rp => hk c H2 (k.trans k2) r2 rp⟩
    | err n d s1 => rw [q] at hk; exact hk
    | bad => rw [q] at hk; exact hk
theorem snd_e {e : E} {x : Expr} (h : PE X x (tR Q B T W e)) : PE X x (tP Q B T W (.e e)) := by
  refine ⟨fun pins s σ H K I hk => ?_⟩
  obtain ⟨C, sl, r, hk⟩ := hk
  rw [evP] at hk
  refine thn ((lockR h).run pins s σ H _ I ⟨C, sl, r, hk.bind⟩) fun v s1 ⟨c, H1, I1, rv, a, s1l, r1, rp, k1, h1⟩ => ?_
  exact ⟨c, H1, I1, rv, h1 c H1 (Keep.refl _) r1 rp⟩
/-- a value that is read off at once -/
theorem snd_leaf {e : E} {x : Expr} {v : PV} {c : V} (he : ∀ s, evR Q e s = .ok (false, v) s) (hc : ∀ H, Rp B H c v) (h : PE X x (tC c)) : PE X x (tR Q B T W e) := by
  refine ⟨fun pins s σ H K I hk => ?_⟩
  obtain ⟨C, sl, r, hk⟩ := hk
  rw [he] at hk
  exact h.run pins s σ H K I (hk c H (Keep.refl _) r (hc H))
theorem snd_dead {x : Expr} : PE X x (tR Q B T W .dead) := ⟨fun pins s σ H K I hk => by
  obtain ⟨C, sl, r, hk⟩ := hk
  rw [evR] at hk
  exact hk.elim⟩
theorem snd_v {i : Nat} {x : Expr} (h : PE X x (tVar i)) : PE X x (tP Q B T W (.v i)) := by
  refine ⟨fun pins s σ H K I hk => ?_⟩
  obtain ⟨C, sl, r, hk⟩ := hk
  rw [evP] at hk
  obtain ⟨v, hv, hk⟩ := hk.liftO
  obtain ⟨c, hc⟩ := r.slot hv
  exact h.run pins s σ H K I ⟨c, hc, hk c H (Keep.refl _) r ⟨hc, hv⟩⟩
theorem snd_var {i : Nat} {x : Expr} (h : PE X x (tVar i)) : PE X x (tR Q B T W (.var i)) := by
  refine ⟨fun pins s σ H K I hk => ?_⟩
  obtain ⟨C, sl, r, hk⟩ := hk
  rw [evR] at hk
  unfold keepS at hk
  split at hk
  · rename_i v e
    obtain ⟨c, hc, rp⟩ := r.fz i v e
    exact h.run pins s σ H K I ⟨c, hc, hk c H (Keep.refl _) r rp⟩
  · rename_i v e
    obtain ⟨p, hp, hc, _⟩ := r.ow i v e
    obtain ⟨u, hu, iu⟩ := hc.some
    obtain ⟨od, I2⟩ := I.lock hu iu.mu
    obtain ⟨r2, k2, rp⟩ := r.lock (od := od) e hp hu
    exact thn (h.run pins s σ _ K I2 ⟨_, hp, hk _ _ k2 r2 rp⟩) fun _ _ q => q
  · exact hk.elim
/-- two operands, an operation by values -/
theorem snd_two {o : B2} {p q : P} {a b : Expr} (ha : PE X a (tP Q B T W p)) (hb : PE X b (tP Q B T W q)) {pins : List (Addr × Obj)} {s : Shared} {σ : L2.St} {H : Hp} {C : Fx} {sl : Sl} {K : VK} (I : Inv X pins σ H s) (r : RelS B T C H σ sl)
    (h : Kq B T W C σ H (fun H' s' x c => RR B C H' σ s' c x) K (evR Q (.bin o p q) sl)) {f : Value → Value → Sem Value}
    (ho : ∀ (s : Shared) (H : Hp) (x y : V) (v u : Value) (a b : PV) (r : FV), Inv X pins σ H s → RelV x v → RelV y u → Rn B H x a → Rn B H y b → b2 o a b = some r → (∀ c H', Same H H' → Res B H H' c r → K c H') →
      wpAny (model X.prog X.w) X.A (f v u) (EP X pins σ K) X.xe s) :
    wpAny (model X.prog X.w) X.A (eval a X.env) (fun v s₁ => wpAny (model X.prog X.w) X.A (eval b X.env) (fun u s₂ => wpAny (model X.prog X.w) X.A (f v u) (EP X pins σ K) X.xe s₂) X.xe s₁) X.xe s := by
  rw [evR] at h
  refine thn (ha.run pins s σ H _ I ⟨C, sl, r, h.bind⟩) fun v s1 ⟨x, H1, I1, rx, a', s1l, r1, relx, k1, h1⟩ => ?_
  refine thn (hb.run pins s1 σ H1 _ I1 ⟨C, s1l, r1, h1.bind⟩) fun u s2 ⟨y, H2, I2, ry, b', s2l, r2, rely, k2, h2⟩ => ?_
  split at h2
  · rename_i x' ex
    obtain ⟨z, hz, h2⟩ := h2.liftO
    exact ho s2 H2 x y v u x' b' z I2 rx ry (relP_fin r2 k2 (relPn_p relx) ex) (relPn_now r2 rely) hz fun c H' g hres => h2 c H' (.same g) (r2.grow g) (r2.res hres)
  · exact h2.elim
theorem snd_bin {o : B2} {op : Operator} {p q : P} {a b : Expr} {pos : Pos} (ho : OpP X B (binaryOp op) o) (ha : PE X a (tP Q B T W p)) (hb : PE X b (tP Q B T W q)) : PE X (.BinOp a op b pos) (tR Q B T W (.bin o p q)) := by
  refine ⟨fun pins s σ H K I hk => ?_⟩
  obtain ⟨C, sl, r, hk⟩ := hk
  exact wpAny_BinOp (snd_two ha hb I r hk fun s H x y v u a b r I rx ry ra rb hr q => ho pins s σ H x y v u a b r K I rx ry ra rb hr q)
theorem snd_cmp {o : B2} {op : CmpOp} {p q : P} {a b : Expr} {pos : Pos} (ho : OpP X B (compareOp op) o) (hm : behindInMarks op b = false) (ha : PE X a (tP Q B T W p)) (hb : PE X b (tP Q B T W q)) : PE X (.Compare a [op] [b] pos) (tR Q B T W (.bin o p q)) := by
  refine ⟨fun pins s σ H K I hk => ?_⟩
  obtain ⟨C, sl, r, hk⟩ := hk
  refine wpAny_Compare1 (snd_two ha hb I r hk fun s H x y v u a b r I rx ry ra rb hr q => ho pins s σ H x y v u a b r K I rx ry ra rb hr q) hm
theorem snd_ix {p q : P} {a b : Expr} {pos : Pos} (hK : B.K = X.K) (hu : X.A.units + 1 < cLine) (hs : PlainIx b) (ha : PE X a (tP Q B T W p)) (hb : PE X b (tP Q B T W q)) : PE X (.Subscript a b pos) (tR Q B T W (.bin .ix p q)) := by
  refine ⟨fun pins s σ H K I hk => ?_⟩
  obtain ⟨C, sl, r, hk⟩ := hk
  refine Subscript_ (snd_two (f := fun v u => subscriptTail a b v u) ha hb I r hk fun s H x y v u a' b' r I rx ry ra rb hr q => ?_)
  exact op_ix' hK hu a b pins s σ H x y v u K I rx ry ⟨a', b', r, ra, rb, hr, q⟩ (hs _ _)
/-- a test that compares -/
theorem snd_tcmp {o : B2} {op : CmpOp} {p q : P} {a b : Expr} {pos : Pos} (ho : OpP X B (compareOp op) o) (hm : behindInMarks op b = false) (ha : PE X a (tP Q B T W p)) (hb : PE X b (tP Q B T W q)) : PT X (.Compare a [op] [b] pos) (tT Q B T W (.cmp o p q)) := by
  refine ⟨fun pins s σ H K I hk => ?_⟩
  obtain ⟨C, sl, r, h⟩ := hk
  rw [evT] at h
  refine wpAny_isTrue_Compare1 ?_ hm
  refine thn (ha.run pins s σ H _ I ⟨C, sl, r, h.bind⟩) fun v s1 ⟨x, H1, I1, rx, a', s1l, r1, relx, k1, h1⟩ => ?_
  refine thn (hb.run pins s1 σ H1 _ I1 ⟨C, s1l, r1, h1.bind⟩) fun u s2 ⟨y, H2, I2, ry, b', s2l, r2, rely, k2, h2⟩ => ?_
  split at h2
  · rename_i x' ex
    split at h2
    · rename_i k hz
      refine thn (ho pins s2 σ H2 x y v u x' b' _ (fun c H' => c = .bl k ∧ K k H') I2 rx ry (relP_fin r2 k2 (relPn_p relx) ex) (relPn_now r2 rely) hz fun c H' g hres => ?_) fun c s3 ⟨z, H3, I3, rz, ez, q3⟩ => ?_
      · have hres : Rp B H' c (.bl k) := hres
        cases hres
        exact ⟨rfl, h2 k H' (.same g) (r2.grow g) rfl⟩
      · subst ez
        cases rz
        exact wpAny_truthy_bool (by exact ⟨_, I3, q3⟩)
    · exact h2.elim
  · exact h2.elim
end
end Pv

/-! PvSound6: calls of built-ins, isinstance, and, or, not, displays, slices. -/
namespace Pv
open PySem PyProof.Rows PySem.Spec L2
section
variable {Q : Env} {B : Tbl} {T : Tabl} {W : WX} {C : Fx} {σ : L2.St} {H H1 : Hp} {α β γ δ : Type} {X : Cx}
theorem PE.imp {x : Expr} {t t' : TE} (h : PE X x t) (hi : ∀ σ H K, t' σ H K → t σ H K) : PE X x t' := ⟨fun pins s σ H K I hk => h.run pins s σ H K I (hi σ H K hk)⟩
theorem PT.imp {x : Expr} {t t' : TT} (h : PT X x t) (hi : ∀ σ H K, t' σ H K → t σ H K) : PT X x t' := ⟨fun pins s σ H K I hk => h.run pins s σ H K I (hi σ H K hk)⟩
theorem PW.imp {x : Expr} {t t' : TT} (h : PW X x t) (hi : ∀ σ H K, t' σ H K → t σ H K) : PW X x t' := ⟨fun wh pins s σ H K I hk => h.run wh pins s σ H K I (hi σ H K hk)⟩
theorem Kq.mono {rel : Hp → Sl → α → γ → Prop} {K K' : γ → Hp → Prop} {x : R α} (h : Kq B T W C σ H rel K x) (hk : ∀ c H, K c H → K' c H) : Kq B T W C σ H rel K' x := by
  cases x with
  | ok a s => exact fun c H' k r q => hk _ _ (h c H' k r q)
  | err n d s => exact h
  | bad => exact h
/-- results by values -/
theorem Kq.res {K : VK} {s : Sl} {z : FV} (h : Kq B T W C σ H (fun H' s' x c => RR B C H' σ s' c x) K (.ok z s)) (r : RelS B T C H σ s) : ∀ c H', Same H H' → Res B H H' c z → K c H' := fun c H' g hres => h c H' (.same g) (r.grow g) (r.res hres)
theorem snd_un {o : U1} {p : P} {x a : Expr} {f : Value} (ho : C1 X B f o) (ha : PE X a (tP Q B T W p)) (hx : ∀ {t : TA} {r : List V → Hp → VK → Prop}, CallR X f r → PA X [a] t → PE X x (tCB r t)) (hs : starEach [a] X.env = (false, eval a X.env) :: starEach [] X.env) : PE X x (tR Q B T W (.un o p)) := by
  refine PE.imp (hx ho (pa_cons ha pa_nil hs)) fun σ H K hk => ?_
  obtain ⟨C, sl, r, hk⟩ := hk
  rw [evR] at hk
  refine ⟨C, sl, r, hk.bind.mono fun c H1 ⟨b, s1, r1, rl, k1, h1⟩ => ?_⟩
  obtain ⟨z, hz, h1⟩ := h1.liftO
  exact ⟨b, c, z, rfl, relPn_now r1 rl, hz, h1.res r1⟩
theorem snd_neg {p : P} {a : Expr} {pos : Pos} (ha : PE X a (tP Q B T W p)) : PE X (.UnaryOp .USub a pos) (tR Q B T W (.un .neg p)) := by
  refine PE.imp (pe_un (un_neg' (B := B)) ha) fun σ H K hk => ?_
  obtain ⟨C, sl, r, hk⟩ := hk
  rw [evR] at hk
  refine ⟨C, sl, r, hk.bind.mono fun c H1 ⟨b, s1, r1, rl, k1, h1⟩ => ?_⟩
  obtain ⟨z, hz, h1⟩ := h1.liftO
  exact ⟨b, z, relPn_now r1 rl, hz, h1.res r1⟩
/-- two arguments of a built-in -/
theorem snd_call2 {o : B2} {p q : P} {x a b : Expr} {f : Value}
    (ho : CallR X f (fun xs H K => ∃ a b x y r, xs = [x, y] ∧ Rn B H x a ∧ Rn B H y b ∧ b2 o a b = some r ∧ ∀ c H', Same H H' → Res B H H' c r → K c H'))
    (ha : PE X a (tP Q B T W p)) (hb : PE X b (tP Q B T W q)) (hx : ∀ {t : TA} {r : List V → Hp → VK → Prop}, CallR X f r → PA X [a, b] t → PE X x (tCB r t))
    (hs : starEach [a, b] X.env = (false, eval a X.env) :: starEach [b] X.env) (hs2 : starEach [b] X.env = (false, eval b X.env) :: starEach [] X.env) : PE X x (tR Q B T W (.bin o p q)) := by
  refine PE.imp (hx ho (pa_cons ha (pa_cons hb pa_nil hs2) hs)) fun σ H K hk => ?_
  obtain ⟨C, sl, r, hk⟩ := hk
  rw [evR] at hk
  refine ⟨C, sl, r, hk.bind.mono fun c H1 ⟨a', s1, r1, rl, k1, h1⟩ => ⟨C, s1, r1, h1.bind.mono fun c2 H2 ⟨b', s2, r2, rl2, k2, h2⟩ => ?_⟩⟩
  split at h2
  · rename_i x' ex
    obtain ⟨z, hz, h2⟩ := h2.liftO
    exact ⟨x', b', c, c2, z, rfl, relP_fin r2 k2 (relPn_p rl) ex, relPn_now r2 rl2, hz, h2.res r2⟩
  · exact h2.elim
/-- a method of a text with one argument -/
theorem snd_methS {o : B2} {e : E} {q : P} {x a b : Expr} {id : String}
    (ho : MtR X id (fun x xs H K => ∃ a b c r, xs = [c] ∧ Rn B H x a ∧ Rn B H c b ∧ b2 o a b = some r ∧ ∀ c H', Same H H' → Res B H H' c r → K c H')) (hr : ∀ v, recvOk o v = true → ∃ z, v = .str z)
    (ha : PE X a (tR Q B T W e)) (hb : PE X b (tP Q B T W q)) (hx : ∀ {r : V → List V → Hp → VK → Prop}, MtR X id r → PE X x (tM1 r (tE Q B T W e) (tP Q B T W q))) : PE X x (tR Q B T W (.meth o e q)) := by
  refine PE.imp (hx ho) fun σ H K hk => ?_
  obtain ⟨C, sl, r, hk⟩ := hk
  rw [evR] at hk
  refine ⟨C, sl, r, hk.bind.mono fun c H1 ⟨a', s1, r1, rl, k1, h1⟩ => ?_⟩
  split at h1
  · rename_i hv
    obtain ⟨z, hz⟩ := hr _ hv
    have rl : Rp B H1 c a'.2 := rl
    refine ⟨?_, C, s1, r1, h1.bind.mono fun c2 H2 ⟨b', s2, r2, rl2, k2, h2⟩ => ?_⟩
    · rw [hz] at rl
      cases rl
      exact ⟨_, rfl⟩
    · obtain ⟨w, hw, h2⟩ := h2.liftO
      exact ⟨a'.2, b', c2, w, rfl, .inl (rl.keep k2), relPn_now r2 rl2, hw, h2.res r2⟩
  · exact h1.elim
/-- a method of a list with one argument -/
theorem snd_methL {o : B2} {e : E} {q : P} {x a b : Expr} {id : String}
    (ho : MtR X id (fun x xs H K => ∃ a b c r, xs = [c] ∧ Rn B H x a ∧ Rn B H c b ∧ b2 o a b = some r ∧ ∀ c H', Same H H' → Res B H H' c r → K c H')) (hr : ∀ v, recvOk o v = true → ∃ z, v = .lst z)
    (ha : PE X a (tR Q B T W e)) (hb : PE X b (tP Q B T W q)) (hs : starEach [b] X.env = (false, eval b X.env) :: starEach [] X.env)
    (hx : ∀ {r : V → List V → Hp → VK → Prop} {t : TA}, MtR X id r → PA X [b] t → PE X x (tBM X.K "list" r (tE Q B T W e) t)) : PE X x (tR Q B T W (.meth o e q)) := by
  refine PE.imp (hx ho (pa_cons hb pa_nil hs)) fun σ H K hk => ?_
  obtain ⟨C, sl, r, hk⟩ := hk
  rw [evR] at hk
  refine ⟨C, sl, r, hk.bind.mono fun c H1 ⟨a', s1, r1, rl, k1, h1⟩ => ?_⟩
  split at h1
  · rename_i hv
    obtain ⟨z, hz⟩ := hr _ hv
    have rl : Rp B H1 c a'.2 := rl
    refine ⟨?_, C, s1, r1, h1.bind.mono fun c2 H2 ⟨b', s2, r2, rl2, k2, h2⟩ => ?_⟩
    · rw [hz] at rl
      cases rl with
      | lst h1 h2 => exact .inl ⟨rfl, _, .inl (.inr ⟨_, h1⟩)⟩
    · obtain ⟨w, hw, h2⟩ := h2.liftO
      exact ⟨a'.2, b', c2, w, rfl, .inl (rl.keep k2), relPn_now r2 rl2, hw, h2.res r2⟩
  · exact h1.elim
theorem snd_ite {t : Pv.T} {a b : E} {c x y : Expr} {pos : Pos} (hc : PT X c (tT Q B T W t)) (ha : PE X x (tR Q B T W a)) (hb : PE X y (tR Q B T W b)) : PE X (.IfExp c x y pos) (tR Q B T W (.ite t a b)) := by
  refine PE.imp (pe_ifExp hc ha hb) fun σ H K hk => ?_
  obtain ⟨C, sl, r, hk⟩ := hk
  rw [evR] at hk
  refine ⟨C, sl, r, hk.bind.mono fun k H1 ⟨k', s1, r1, e, k1, h1⟩ => ?_⟩
  subst e
  cases k' with
  | true => exact iteT ⟨C, s1, r1, h1⟩
  | false => exact iteF ⟨C, s1, r1, h1⟩
theorem snd_band {a b : E} {x y : Expr} {rest : List Expr} {pos : Pos} (ha : PE X x (tR Q B T W a)) (hb : PE X (.BoolOp .And (y :: rest) pos) (tR Q B T W b)) : PE X (.BoolOp .And (x :: y :: rest) pos) (tR Q B T W (.band a b)) := by
  refine PE.imp (pe_and ha hb) fun σ H K hk => ?_
  obtain ⟨C, sl, r, hk⟩ := hk
  rw [evR] at hk
  refine ⟨C, sl, r, hk.bind.mono fun c H1 ⟨z, s1, r1, e, k1, h1⟩ => ?_⟩
  split at h1
  · have e : Rp B H1 c (.bl true) := e
    cases e
    exact ⟨true, rfl, iteT ⟨C, s1, r1, h1⟩⟩
  · have e : Rp B H1 c (.bl false) := e
    cases e
    exact ⟨false, rfl, iteF (h1 _ H1 (Keep.refl _) r1 (Rp.bl false))⟩
  · exact h1.elim
theorem snd_bor {a b : E} {x y : Expr} {rest : List Expr} {pos : Pos} (ha : PE X x (tR Q B T W a)) (hb : PE X (.BoolOp .Or (y :: rest) pos) (tR Q B T W b)) : PE X (.BoolOp .Or (x :: y :: rest) pos) (tR Q B T W (.bor a b)) := by
  refine PE.imp (pe_or ha hb) fun σ H K hk => ?_
  obtain ⟨C, sl, r, hk⟩ := hk
  rw [evR] at hk
  refine ⟨C, sl, r, hk.bind.mono fun c H1 ⟨z, s1, r1, e, k1, h1⟩ => ?_⟩
  split at h1
  · have e : Rp B H1 c (.bl true) := e
    cases e
    exact ⟨true, rfl, iteT (h1 _ H1 (Keep.refl _) r1 (Rp.bl true))⟩
  · have e : Rp B H1 c (.bl false) := e
    cases e
    exact ⟨false, rfl, iteF ⟨C, s1, r1, h1⟩⟩
  · exact h1.elim
theorem snd_bnot {a : E} {x : Expr} {pos : Pos} (ha : PE X x (tR Q B T W a)) : PE X (.UnaryOp .Not x pos) (tR Q B T W (.bnot a)) := by
  refine PE.imp (pe_not ha) fun σ H K hk => ?_
  obtain ⟨C, sl, r, hk⟩ := hk
  rw [evR] at hk
  refine ⟨C, sl, r, hk.bind.mono fun c H1 ⟨z, s1, r1, e, k1, h1⟩ => ?_⟩
  split at h1
  · rename_i k
    have e : Rp B H1 c (.bl k) := e
    cases e
    exact ⟨k, rfl, h1 _ H1 (Keep.refl _) r1 (Rp.bl _)⟩
  · exact h1.elim
theorem snd_tand {a b : Pv.T} {x y : Expr} {rest : List Expr} {pos : Pos} (ha : PT X x (tT Q B T W a)) (hb : PW X (.BoolOp .And (y :: rest) pos) (tT Q B T W b)) : PW X (.BoolOp .And (x :: y :: rest) pos) (tT Q B T W (.tand a b)) := by
  refine PW.imp (pw_and ha hb) fun σ H K hk => ?_
  obtain ⟨C, sl, r, hk⟩ := hk
  rw [evT] at hk
  refine ⟨C, sl, r, hk.bind.mono fun k H1 ⟨k', s1, r1, e, k1, h1⟩ => ?_⟩
  subst e
  cases k' with
  | true => exact iteT ⟨C, s1, r1, h1⟩
  | false => exact iteF (h1 _ H1 (Keep.refl _) r1 rfl)
theorem snd_tor {a b : Pv.T} {x y : Expr} {rest : List Expr} {pos : Pos} (ha : PT X x (tT Q B T W a)) (hb : PW X (.BoolOp .Or (y :: rest) pos) (tT Q B T W b)) : PW X (.BoolOp .Or (x :: y :: rest) pos) (tT Q B T W (.tor a b)) := by
  refine PW.imp (pw_or ha hb) fun σ H K hk => ?_
  obtain ⟨C, sl, r, hk⟩ := hk
  rw [evT] at hk
  refine ⟨C, sl, r, hk.bind.mono fun k H1 ⟨k', s1, r1, e, k1, h1⟩ => ?_⟩
  subst e
  cases k' with
  | true => exact iteT (h1 _ H1 (Keep.refl _) r1 rfl)
  | false => exact iteF ⟨C, s1, r1, h1⟩
theorem snd_tnot {a : Pv.T} {x : Expr} {pos : Pos} (ha : PT X x (tT Q B T W a)) : PT X (.UnaryOp .Not x pos) (tT Q B T W (.tnot a)) := by
  refine PT.imp (pt_not ha) fun σ H K hk => ?_
  obtain ⟨C, sl, r, hk⟩ := hk
  rw [evT] at hk
  refine ⟨C, sl, r, hk.bind.mono fun k H1 ⟨k', s1, r1, e, k1, h1⟩ => ?_⟩
  subst e
  exact h1 _ H1 (Keep.refl _) r1 rfl
theorem snd_tt {a : E} {x : Expr} (hK : B.K = X.K) (ha : PE X x (tR Q B T W a)) (he : ∀ whole, isTrue x X.env whole = (do let v ← whole; standAt x.pos; holding [v] (truthy v))) : PT X x (tT Q B T W (.tt a)) := by
  refine PT.imp (pt_truth (lockR ha) he) fun σ H K hk => ?_
  obtain ⟨C, sl, r, hk⟩ := hk
  rw [evT] at hk
  refine ⟨C, sl, r, hk.bind.mono fun c H1 ⟨z, s1, r1, e, k1, h1⟩ => ?_⟩
  obtain ⟨k, hk, h1⟩ := h1.liftO
  exact ⟨k, truth_rel hK (.inl e) hk, h1 k H1 (Keep.refl _) r1 rfl⟩
/-- displays -/
theorem snd_enil : PA X [] (tEs Q B T W .nil) := ⟨fun pos pins s σ H K I hk => by
  obtain ⟨C, sl, r, hk⟩ := hk
  rw [evEs] at hk
  exact pa_nil.run pos pins s σ H K I (hk [] H (Keep.refl _) r .nil)⟩
theorem PA.imp {x : List Expr} {t t' : TA} (h : PA X x t) (hi : ∀ σ H K, t' σ H K → t σ H K) : PA X x t' := ⟨fun pos pins s σ H K I hk => h.run pos pins s σ H K I (hi σ H K hk)⟩
theorem snd_econs {e : E} {es : Es} {x : Expr} {xs : List Expr} (he : PE X x (tR Q B T W e)) (hr : PA X xs (tEs Q B T W es)) (hs : starEach (x :: xs) X.env = (false, eval x X.env) :: starEach xs X.env) : PA X (x :: xs) (tEs Q B T W (.cons e es)) := by
  refine PA.imp (pa_cons (lockR he) hr hs) fun σ H K hk => ?_
  obtain ⟨C, sl, r, hk⟩ := hk
  rw [evEs] at hk
  refine ⟨C, sl, r, hk.bind.mono fun c H1 ⟨z, s1, r1, e, k1, h1⟩ => ⟨C, s1, r1, h1.bind.mono fun cs H2 ⟨zs, s2, r2, e2, k2, h2⟩ => ?_⟩⟩
  exact h2 (c :: cs) H2 (Keep.refl _) r2 (.cons (e.keep k2) e2)
theorem snd_tup {es : Es} {xs : List Expr} {k : Nat} {pos : Pos} (h : PA X xs (tEs Q B T W es)) : PE X (.Tuple xs k pos) (tR Q B T W (.tup es)) := by
  refine PE.imp (pe_tup h) fun σ H K hk => ?_
  obtain ⟨C, sl, r, hk⟩ := hk
  rw [evR] at hk
  refine ⟨C, sl, r, hk.bind.mono fun c H1 ⟨z, s1, r1, e, k1, h1⟩ => ?_⟩
  split at h1
  · rename_i hz
    refine ⟨by rw [e.length, ← line_eq]; exact hz, fun p hp => ?_⟩
    exact h1.res r1 _ _ (same_upd hp) (show Rp B _ _ _ from .tup (.inl (.inl upd_same)) (e.keep (.same (same_upd hp))))
  · exact h1.elim
theorem snd_lst {es : Es} {xs : List Expr} {pos : Pos} (h : PA X xs (tEs Q B T W es)) : PE X (.List xs pos) (tR Q B T W (.lst es)) := by
  refine PE.imp (pe_lst h) fun σ H K hk => ?_
  obtain ⟨C, sl, r, hk⟩ := hk
  rw [evR] at hk
  refine ⟨C, sl, r, hk.bind.mono fun c H1 ⟨z, s1, r1, e, k1, h1⟩ => ?_⟩
  split at h1
  · rename_i hz
    refine ⟨by rw [e.length, ← line_eq]; exact hz, fun p hp => ?_⟩
    exact h1.res r1 _ _ (same_upd hp) ⟨p, rfl, hp, c, upd_same, e.keep (.same (same_upd hp))⟩
  · exact h1.elim
end
end Pv

/-! PvSound7: chains, slices, displays of dicts, isinstance. -/
namespace Pv
open PySem PyProof.Rows PySem.Spec L2
section
variable {Q : Env} {B : Tbl} {T : Tabl} {W : WX} {C : Fx} {σ : L2.St} {H H1 : Hp} {α β γ δ : Type} {X : Cx}
/-- a op b op' c -/
theorem snd_chn {o o' : B2} {op op' : CmpOp} {p q z : P} {a b c : Expr} {pos : Pos} (ho : OpP X B (compareOp op) o) (ho' : OpP X B (compareOp op') o') (hm : lastMarks [op, op'] [b, c] = false)
    (ha : PE X a (tP Q B T W p)) (hb : PE X b (tP Q B T W q)) (hc : PE X c (tP Q B T W z)) : PE X (.Compare a [op, op'] [b, c] pos) (tR Q B T W (.chn o o' p q z)) := by
  refine ⟨fun pins s σ H K I hk => ?_⟩
  obtain ⟨C, sl, r, h⟩ := hk
  rw [evR] at h
  refine Compare_chain (thn (ha.run pins s σ H _ I ⟨C, sl, r, h.bind⟩) fun v s1 ⟨x, H1, I1, rx, a', s1l, r1, relx, k1, h1⟩ => chain_link (thn (hb.run pins s1 σ H1 _ I1 ⟨C, s1l, r1, h1.bind⟩) fun u s2 ⟨y, H2, I2, ry, b', s2l, r2, rely, k2, h2⟩ => ?_)) hm
  split at h2
  · rename_i x' ex
    cases e : b2 o x' b' with
    | none => rw [e] at h2; exact h2.elim
    | some w =>
      rw [e] at h2
      obtain ⟨fl, w⟩ := w
      refine thn (ho pins s2 σ H2 x y v u x' b' _ (fun c3 H3 => Same H2 H3 ∧ Res B H2 H3 c3 (fl, w)) I2 rx ry (relP_fin r2 k2 (relPn_p relx) ex) (relPn_now r2 rely) e fun c3 H3 g hres => ⟨g, hres⟩) fun d s3 ⟨c3, H3, I3, r3, g3, hres⟩ => ?_
      cases fl with
      | true => exact h2.elim
      | false =>
        cases w with
        | bl k =>
          have hres : Rp B H3 c3 (.bl k) := hres
          cases hres
          cases r3
          refine wpAny_truthy_bool ?_
          cases k with
          | false => exact ite_ff ⟨.bl false, H3, I3, rfl, h2 _ H3 (.same g3) (r2.grow g3) (Rp.bl false)⟩
          | true =>
            have h2 : Kq B T W C σ H2 (fun H' s' x c => RR B C H' σ s' c x) K ((evP Q z s2l).bind fun z s3 => match reread q b' s3 with
              | some y' => liftO (b2 o' y' z) s3
              | none => .bad) := h2
            refine ite_tt (chain_last (thn (hc.run pins s3 σ H3 _ I3 ⟨C, s2l, r2.grow g3, (h2.later (.same g3)).bind⟩) fun w' s4 ⟨z', H4, I4, r4, c', s4l, r4s, relz, k4, h4⟩ => ?_))
            split at h4
            · rename_i y' ey
              obtain ⟨w2, hw2, h4⟩ := h4.liftO
              exact ho' pins s4 σ H4 y z' u w' y' c' w2 K I4 ry r4 (relP_fin r4s ((Keep.same g3).trans k4) (relPn_p rely) ey) (relPn_now r4s relz) hw2 (h4.res r4s)
            · exact h4.elim
        | _ => exact h2.elim
  · exact h2.elim
theorem snd_tchn {o o' : B2} {op op' : CmpOp} {p q z : P} {a b c : Expr} {pos : Pos} (ho : OpP X B (compareOp op) o) (ho' : OpP X B (compareOp op') o') (hm : lastMarks [op, op'] [b, c] = false)
    (ha : PE X a (tP Q B T W p)) (hb : PE X b (tP Q B T W q)) (hc : PE X c (tP Q B T W z)) : PT X (.Compare a [op, op'] [b, c] pos) (tT Q B T W (.chn o o' p q z)) := by
  refine ⟨fun pins s σ H K I hk => ?_⟩
  obtain ⟨C, sl, r, h⟩ := hk
  rw [evT] at h
  refine isTrue_chain (thn (ha.run pins s σ H _ I ⟨C, sl, r, h.bind⟩) fun v s1 ⟨x, H1, I1, rx, a', s1l, r1, relx, k1, h1⟩ => test_link (thn (hb.run pins s1 σ H1 _ I1 ⟨C, s1l, r1, h1.bind⟩) fun u s2 ⟨y, H2, I2, ry, b', s2l, r2, rely, k2, h2⟩ => ?_)) hm
  split at h2
  · rename_i x' ex
    cases e : b2 o x' b' with
    | none => rw [e] at h2; exact h2.elim
    | some w =>
      rw [e] at h2
      obtain ⟨fl, w⟩ := w
      refine thn (ho pins s2 σ H2 x y v u x' b' _ (fun c3 H3 => Same H2 H3 ∧ Res B H2 H3 c3 (fl, w)) I2 rx ry (relP_fin r2 k2 (relPn_p relx) ex) (relPn_now r2 rely) e fun c3 H3 g hres => ⟨g, hres⟩) fun d s3 ⟨c3, H3, I3, r3, g3, hres⟩ => ?_
      cases fl with
      | true => exact h2.elim
      | false =>
        cases w with
        | bl k =>
          have hres : Rp B H3 c3 (.bl k) := hres
          cases hres
          cases r3
          refine wpAny_truthy_bool ?_
          cases k with
          | false => exact ite_ff ⟨H3, I3, h2 _ H3 (.same g3) (r2.grow g3) rfl⟩
          | true =>
            have h2 : Kq B T W C σ H2 (fun _ _ a c => a = c) K ((evP Q z s2l).bind fun z s3 => match reread q b' s3 with
              | some y' => (match b2 o' y' z with
                | some (false, .bl k) => .ok k s3
                | _ => .bad)
              | none => .bad) := h2
            refine ite_tt (test_last (thn (hc.run pins s3 σ H3 _ I3 ⟨C, s2l, r2.grow g3, (h2.later (.same g3)).bind⟩) fun w' s4 ⟨z', H4, I4, r4, c', s4l, r4s, relz, k4, h4⟩ => ?_))
            split at h4
            · rename_i y' ey
              split at h4
              · rename_i k2 hw2
                refine thn (ho' pins s4 σ H4 y z' u w' y' c' _ (fun c5 H5 => c5 = .bl k2 ∧ K k2 H5) I4 ry r4 (relP_fin r4s ((Keep.same g3).trans k4) (relPn_p rely) ey) (relPn_now r4s relz) hw2 fun c5 H5 g5 hres5 => ?_) fun d5 s5 ⟨c5, H5, I5, r5, e5, q5⟩ => ?_
                · have hres5 : Rp B H5 c5 (.bl k2) := hres5
                  cases hres5
                  exact ⟨rfl, h4 _ H5 (.same g5) (r4s.grow g5) rfl⟩
                · subst e5
                  cases r5
                  exact wpAny_truthy_bool (by exact ⟨_, I5, q5⟩)
              · exact h4.elim
            · exact h4.elim
        | _ => exact h2.elim
  · exact h2.elim
/-! ### slices -/
def tO (Q : Env) (B : Tbl) (T : Tabl) (W : WX) (o : O) : TO := fun σ H K => ∃ C s, RelS B T C H σ s ∧ Kq B T W C σ H (fun _ _ a c => a = c) K (evO Q o s)
theorem snd_ono : PO X none (tO Q B T W .no) := ⟨fun pins s σ H K I hk => by
  obtain ⟨C, sl, r, hk⟩ := hk
  rw [evO] at hk
  exact po_none.run pins s σ H K I (hk none H (Keep.refl _) r rfl)⟩
theorem snd_oso {e : E} {x : Expr} (h : PE X x (tR Q B T W e)) : PO X (some x) (tO Q B T W (.so e)) := ⟨fun pins s σ H K I hk => by
  obtain ⟨C, sl, r, hk⟩ := hk
  rw [evO] at hk
  refine (po_some (lockR h)).run pins s σ H K I ⟨C, sl, r, hk.bind.mono fun c H1 ⟨a, s1, r1, rp, k1, h1⟩ => ?_⟩
  split at h1
  · rename_i i e
    have rp : Rp B H1 c a.2 := rp
    rw [e] at rp
    cases rp
    exact ⟨i, rfl, h1 (some i) H1 (Keep.refl _) r1 rfl⟩
  · exact h1.elim⟩
theorem sIx_eq (n d : Nat) (o : Option Int) : sIx n d o = HT.sIx n d o := by
  cases o with
  | none => rfl
  | some v =>
    unfold sIx HT.sIx
    first | rfl | (split <;> omega)
theorem cut_rps {vs : List V} {xs : List PV} (h : Rps B H vs xs) (lo hi : Option Int) : Rps B H (cutV vs lo hi) (cutL xs lo hi) := by
  unfold cutV cutL
  rw [sIx_eq, sIx_eq, h.length]
  exact (h.drop _).take _
theorem cutS_eq (z : List Nat) (lo hi : Option Int) : cutS (toS z) lo hi = toS (cutL z lo hi) := by
  unfold cutS cutL toS
  rw [sIx_eq, sIx_eq]
  rfl
theorem sl_any (hK : B.K = X.K) : SlR X (fun x lo hi H K => ∃ a, Rn B H x a ∧ ((∃ xs, a = .lst xs ∧ ∀ c H', Same H H' → Res B H H' c (true, .lst (cutL xs lo hi)) → K c H') ∨
    (∃ xs, a = .str xs ∧ xs.length ≤ line ∧ ∀ c H', Same H H' → Res B H H' c (false, .str (cutL xs lo hi)) → K c H') ∨ (∃ xs, a = .tup xs ∧ ∀ c H', Same H H' → Res B H H' c (false, .tup (cutL xs lo hi)) → K c H'))) := by
  intro pins s σ H x v vl vu lo hi sl K I rx hs pl pu h
  obtain ⟨a, ra, h⟩ := h
  rcases h with ⟨xs, rfl, q⟩ | ⟨xs, rfl, hz, q⟩ | ⟨xs, rfl, q⟩
  · obtain ⟨p, vs, rfl, hp, hrs⟩ := ra.lst
    exact sl_list pins s σ H _ v vl vu lo hi sl K I rx hs pl pu ⟨p, vs, rfl, .inl hp, fun l hl => q _ _ (same_upd hl) ⟨l, rfl, hl, _, upd_same, (cut_rps hrs lo hi).keep (.same (same_upd hl))⟩⟩
  · exact sl_str pins s σ H _ v vl vu lo hi sl K I rx hs pl pu ⟨toS xs, ra.str, by rw [toS_len, ← line_eq]; exact hz, by rw [cutS_eq]; exact q _ H (Same.refl H) (Rp.str _)⟩
  · obtain ⟨p, vs, rfl, hp, hrs⟩ := ra.tup
    refine sl_tupA pins s σ H _ v vl vu lo hi sl K I rx hs pl pu ⟨p, vs, rfl, hK ▸ hp, fun hw => ?_, fun hw l hl => ?_⟩
    · refine q _ H (Same.refl H) (show Rp B H (.ref p) _ from ?_)
      have e : cutL xs lo hi = xs := by
        unfold cutL
        rw [sIx_eq, sIx_eq, ← hrs.length, hw.1, hw.2, List.drop_zero, Nat.sub_zero, hrs.length, List.take_length]
      rw [e]
      exact .tup hp hrs
    · exact q _ _ (same_upd hl) (show Rp B _ _ _ from .tup (.inl (.inl upd_same)) ((cut_rps hrs lo hi).keep (.same (same_upd hl))))
theorem snd_slc {p : P} {l u : O} {a : Expr} {lo hi : Option Expr} {pos p2 : Pos} (hK : B.K = X.K) (ha : PE X a (tP Q B T W p)) (hl : PO X lo (tO Q B T W l)) (hu : PO X hi (tO Q B T W u)) : PE X (.Subscript a (.Slice lo hi none p2) pos) (tR Q B T W (.slc p l u)) := by
  refine PE.imp (pe_slice (sl_any hK) ha hl hu) fun σ H K hk => ?_
  obtain ⟨C, sl, r, hk⟩ := hk
  rw [evR] at hk
  refine ⟨C, sl, r, hk.bind.mono fun c H1 ⟨a', s1, r1, rl, k1, h1⟩ => ⟨C, s1, r1, h1.bind.mono fun l' H2 ⟨lp, s2, r2, el, k2, h2⟩ => ⟨C, s2, r2, h2.bind.mono fun u' H3 ⟨up, s3, r3, eu, k3, h3⟩ => ?_⟩⟩⟩
  subst el
  subst eu
  split at h3
  · rename_i xs ex
    exact ⟨_, relP_fin r3 (k2.trans k3) (relPn_p rl) ex, .inl ⟨xs, rfl, h3.res r3⟩⟩
  · rename_i xs ex
    split at h3
    · rename_i hz
      exact ⟨_, relP_fin r3 (k2.trans k3) (relPn_p rl) ex, .inr (.inl ⟨xs, rfl, hz, h3.res r3⟩)⟩
    · exact h3.elim
  · rename_i xs ex
    exact ⟨_, relP_fin r3 (k2.trans k3) (relPn_p rl) ex, .inr (.inr ⟨xs, rfl, h3.res r3⟩)⟩
  · exact h3.elim
end
end Pv

/-! PvSound8: isinstance, displays of dicts. -/
namespace Pv
open PySem PyProof.Rows PySem.Spec L2
/-- a built-in type's name -/
def tyNm : Ty → Option String
  | .int => some "int"
  | .bool => some "bool"
  | .str => some "str"
  | .tuple => some "tuple"
  | .list => some "list"
  | .dict => some "dict"
  | .cls _ => none
def pvNm : PV → Option String
  | .non => some "NoneType"
  | .bl _ => some "bool"
  | .int _ => some "int"
  | .str _ => some "str"
  | .tup _ => some "tuple"
  | .lst _ => some "list"
  | .scr _ => some "list"
  | .dct _ _ => some "dict"
  | _ => none
def tyNames : List String := ["int", "bool", "str", "tuple", "list", "dict", "NoneType"]
/-- what the written part says of the program's exception classes -/
structure TyOk (B : Tbl) (sup : Nat → Nat → Bool) : Prop where
  bo : ∀ k C, B.clA k = some C → ∀ n ∈ tyNames, PySem.W.kitOne B.K (.type n) (.ref C) = some false
  ob : ∀ k C, B.clA k = some C → ∀ n ∈ tyNames, PySem.W.kitOne B.K (.ref C) (.type n) = some false
  oo : ∀ k C j D, B.clA k = some C → B.clA j = some D → PySem.W.kitOne B.K (.ref C) (.ref D) = some (sup k j)
  ex : ∀ k C, B.clA k = some C → ExcC B.K C
def tyVal (B : Tbl) : Ty → Option Value
  | .int => some (.type "int")
  | .bool => some (.type "bool")
  | .str => some (.type "str")
  | .tuple => some (.type "tuple")
  | .list => some (.type "list")
  | .dict => some (.type "dict")
  | .cls k => (B.clA k).map .ref
def pvVal (B : Tbl) : PV → Option Value
  | .exc k _ => (B.clA k).map .ref
  | .fn _ => none
  | .non => some (.type "NoneType")
  | .bl _ => some (.type "bool")
  | .int _ => some (.type "int")
  | .str _ => some (.type "str")
  | .tup _ => some (.type "tuple")
  | .lst _ => some (.type "list")
  | .scr _ => some (.type "list")
  | .dct _ _ => some (.type "dict")
section
variable {Q : Env} {B : Tbl} {T : Tabl} {W : WX} {C : Fx} {σ : L2.St} {H H1 : Hp} {X : Cx} {sup : Nat → Nat → Bool}
theorem kit_bb (K : PySem.W.Frag) : ∀ x : PV, ∀ t : Ty, ∀ n m, pvNm x = some n → tyNm t = some m → PySem.W.kitOne K (.type n) (.type m) = some (isTy sup x t) := by
  intro x t n m hn hm
  cases x <;> cases hn <;> cases t <;> cases hm <;> first | exact kit_ty (r := true) (by decide +kernel) | exact kit_ty (r := false) (by decide +kernel)
theorem kit_all (O : TyOk B sup) {x : PV} {t : Ty} {u v : Value} (hx : pvVal B x = some u) (ht : tyVal B t = some v) : PySem.W.kitOne B.K u v = some (isTy sup x t) := by
  have bb : ∀ n m, pvNm x = some n → tyNm t = some m → pvVal B x = some (.type n) → tyVal B t = some (.type m) → PySem.W.kitOne B.K u v = some (isTy sup x t) := fun n m h1 h2 h3 h4 => by
    rw [hx] at h3
    rw [ht] at h4
    cases h3
    cases h4
    exact kit_bb B.K x t n m h1 h2
  cases x with
  | fn i => cases hx
  | exc k d =>
    obtain ⟨D, hD, rfl⟩ := Option.map_eq_some_iff.mp hx
    cases t with
    | cls j =>
      obtain ⟨D', hD', rfl⟩ := Option.map_eq_some_iff.mp ht
      exact O.oo k D j D' hD hD'
    | _ => cases ht; exact O.ob k D hD _ (by decide)
  | _ =>
    cases t with
    | cls j =>
      obtain ⟨D', hD', rfl⟩ := Option.map_eq_some_iff.mp ht
      cases hx
      exact O.bo j D' hD' _ (by decide)
    | _ => exact bb _ _ rfl rfl rfl rfl
theorem kit_any (O : TyOk B sup) {x : PV} {u : Value} (hx : pvVal B x = some u) : ∀ {ts : List Ty} {vs : List Value}, ts.mapM (tyVal B) = some vs → PySem.W.kitAny B.K u vs = some (ts.any fun t => isTy sup x t)
  | [], vs, h => by
    simp at h
    subst h
    rfl
  | t :: ts, vs, h => by
    rw [List.mapM_cons] at h
    obtain ⟨v, h1, h⟩ := Option.bind_eq_some_iff.mp h
    obtain ⟨ws, h2, h⟩ := Option.bind_eq_some_iff.mp h
    cases h
    rw [List.any_cons]
    refine kitAny_cons (kit_all O hx h1) (fun e => ?_) (fun e => ?_)
    · rw [e, Bool.false_or]
      exact kit_any O hx h2
    · rw [e, Bool.true_or]
/-- what the library asks of a value whose class is asked -/
theorem kit_val {pins : List (Addr × Obj)} {s : Shared} {c : V} {u t : Value} {x : PV} (O : TyOk B sup) (hK : B.K = X.K) (I : Inv X pins σ H s) (r : RelV c u) (hr : Rn B H c x) (hx : pvVal B x = some t) :
    ∃ P : Heap → Prop, PySem.W.KitX X.K u t P ∧ P s.heap ∧ u ≠ .builtin "__main__.__loader__#opaque" := by
  cases x with
  | non => cases hx; rw [hr.non] at r; exact kit_of I r (.base .non)
  | bl b => cases hx; rw [hr.bl] at r; exact kit_of I r (.base (.bl b))
  | int i => cases hx; rw [hr.int] at r; exact kit_of I r (.base (.int i))
  | str z => cases hx; rw [hr.str] at r; exact kit_of I r (.base (.str _))
  | tup xs =>
    cases hx
    obtain ⟨p, vs, rfl, hp, _⟩ := hr.tup
    rcases hp with (hp | ⟨o, hp⟩) | ⟨o, its, n, h1, h2, _⟩
    · exact kit_of I r (.base (.tup hp))
    · exact kit_of I r (.fTuple hp)
    · exact kit_of I r (.kTuple (hK ▸ h1) h2)
  | lst xs =>
    cases hx
    obtain ⟨p, vs, rfl, hp, _⟩ := hr.lst
    rcases hp with hp | ⟨o, hp⟩
    · exact kit_of I r (.base (.lst hp))
    · exact kit_of I r (.base (.frz hp))
  | scr xs =>
    cases hx
    obtain ⟨p, vs, rfl, hp, _⟩ := hr.scr
    rcases hp with (hp | ⟨o, hp⟩) | ⟨o, its, n, h1, h2, _⟩
    · exact kit_of I r (.base (.lst hp))
    · exact kit_of I r (.base (.frz hp))
    · exact kit_of I r (.kList (hK ▸ h1) h2)
  | dct ks vs =>
    cases hx
    obtain ⟨p, kvs, rfl, hp, _⟩ := hr.dct
    rcases hp with hp | ⟨o, hp⟩
    · exact kit_of I r (.base (.dK hp))
    · exact kit_of I r (.fDict hp)
  | fn i => cases hx
  | exc k d =>
    obtain ⟨D, hD, rfl⟩ := Option.map_eq_some_iff.mp hx
    rcases hr with hr | ⟨_, _, hr⟩
    · cases hr with
      | exc h1 h2 =>
        rename_i a C'
        rw [hD] at h1; cases h1
        cases (show u = Value.ref a from r)
        obtain ⟨⟨oe, vs, hget, hz, hv⟩, _⟩ := (show ObjOk X.prog X.w H s.heap a (XcO (.ref D) a) from I.hok a _ h2)
        have inst : PySem.W.InstAt s.heap a oe D none := by
          rcases oe with ⟨_, _, _, _⟩
          cases hz.1
          cases hz.2
          cases hv
          exact ⟨by exact hget, by rfl, by rfl, by trivial⟩
        have E := O.ex k D hD
        rw [hK] at E
        exact ⟨_, PySem.W.handS_kitx_exc E.hg E.hk E.hs E.hd E.ha E.hn E.ht E.hm, inst, fun z => nomatch z⟩
    · exact hr.elim
/-- isinstance(x, T) -/
theorem call_isP (O : TyOk B sup) (hK : B.K = X.K) : CallR X (.builtin "isinstance") (fun xs H K => ∃ c x d t v u, xs = [c, d] ∧ Rn B H c x ∧ pvVal B x = some u ∧ tyVal B t = some v ∧ RelV d v ∧ (∀ w, RelV d w → w = v) ∧ K (.bl (isTy sup x t)) H) := by
  intro pins s σ H xs us K I r h
  obtain ⟨c, x, d, t, v, u, rfl, hr, hx, ht, hd, hu, q⟩ := h
  obtain ⟨w1, u2, rfl, r1, r2⟩ := vals2 r
  have e2 := hu _ r2
  subst e2
  obtain ⟨P, Z, p, hne⟩ := kit_val O hK I r1 hr hx
  exact PySem.W.kia_one Z I.kIn p (hK ▸ kit_all O hx ht) hne fun tk => ⟨.bl _, H, I.tok tk, rfl, q⟩
theorem call_isPT (O : TyOk B sup) (hK : B.K = X.K) : CallR X (.builtin "isinstance") (fun xs H K => ∃ (c : V) (x : PV) (tp : Addr) (cs : List V) (ts : List Ty) (vs : List Value) (u : Value), xs = [c, .ref tp] ∧ Rn B H c x ∧ pvVal B x = some u ∧ ts.mapM (tyVal B) = some vs ∧ H tp = some (.tup cs) ∧ (∀ ws, Vals cs ws → ws = vs) ∧ K (.bl (ts.any fun t => isTy sup x t)) H) := by
  intro pins s σ H xs us K I r h
  obtain ⟨c, x, tp, cs, ts, vs, u, rfl, hr, hx, ht, hT, hu, q⟩ := h
  obtain ⟨w1, u2, rfl, r1, r2⟩ := vals2 r
  have two : u2 = .ref tp := r2
  subst two
  obtain ⟨P, Z, p, hne⟩ := kit_val O hK I r1 hr hx
  have stands : ObjOk X.prog X.w H s.heap tp (.tup cs) := I.hok tp _ hT
  obtain ⟨_, ws, rw_, ⟨oc, od, dt, sl⟩, at_, h2, n, h3⟩ := stands
  cases hu ws rw_
  cases h2
  cases h3
  exact PySem.W.kia_tup Z I.kIn p at_ (hK ▸ kit_any O hx ht) hne fun tk => ⟨.bl _, H, I.tok tk, rfl, q⟩
theorem Rn.same {c : V} {x : PV} (h : Rn B H c x) (g : Same H H1) : Rn B H1 c x := by
  rcases h with h | ⟨p, e, h⟩
  · exact .inl (h.keep (.same g))
  · obtain ⟨u, hu, _⟩ := h.some
    exact .inr ⟨p, e, h.move (.same g) (by rw [hu]; exact g _ _ hu)⟩
theorem pvVal_of {c : V} {x : PV} (h : Rn B H c x) (hf : ∀ i, x ≠ .fn i) : ∃ u, pvVal B x = some u := by
  cases x <;> first | exact ⟨_, rfl⟩ | exact absurd rfl (hf _) | skip
  rcases h with h | ⟨_, _, h⟩
  · cases h with | exc h1 h2 => exact ⟨_, show Option.map _ _ = some _ by rw [h1]; rfl⟩
  · exact h.elim
/-- isinstance(x, T): T a class by its name -/
theorem snd_isi {p : P} {t : Ty} {x a b : Expr} {d : V} {v : Value} (O : TyOk B Q.sup) (hK : B.K = X.K) (ht : tyVal B t = some v) (hd : RelV d v) (hu : ∀ w, RelV d w → w = v) (ha : PE X a (tP Q B T W p)) (hb : PE X b (tC d))
    (hs : starEach [a, b] X.env = (false, eval a X.env) :: starEach [b] X.env) (hs2 : starEach [b] X.env = (false, eval b X.env) :: starEach [] X.env)
    (hx : ∀ {t : TA} {r : List V → Hp → VK → Prop}, CallR X (.builtin "isinstance") r → PA X [a, b] t → PE X x (tCB r t)) : PE X x (tR Q B T W (.isi p [t])) := by
  refine PE.imp (hx (call_isP O hK) (pa_cons ha (pa_cons hb pa_nil hs2) hs)) fun σ H K hk => ?_
  obtain ⟨C, sl, r, hk⟩ := hk
  rw [evR] at hk
  refine ⟨C, sl, r, hk.bind.mono fun c H1 ⟨a', s1, r1, rl, k1, h1⟩ => ?_⟩
  split at h1
  · exact h1.elim
  · rename_i hf
    have hn := relPn_now r1 rl
    obtain ⟨u, hu2⟩ := pvVal_of hn (fun i e => hf i e)
    refine ⟨c, a', d, t, v, u, rfl, hn, hu2, ht, hd, hu, ?_⟩
    have e : (([t] : List Ty).any fun t => isTy Q.sup a' t) = isTy Q.sup a' t := by simp
    rw [e] at h1
    exact h1.res r1 _ H1 (Same.refl _) (Rp.bl _)
/-- isinstance(x, (T1, T2, ..)) -/
theorem snd_isiT {p : P} {ts : List Ty} {x a : Expr} {bs : List Expr} {k : Nat} {bpos : Pos} {ds : List V} {vs : List Value} (O : TyOk B Q.sup) (hK : B.K = X.K) (ht : ts.mapM (tyVal B) = some vs) (hu : ∀ ws, Vals ds ws → ws = vs) (ha : PE X a (tP Q B T W p))
    (hb : PA X bs (fun _ H K => K ds H)) (hz : ds.length ≤ sizeLine)
    (hs : starEach [a, .Tuple bs k bpos] X.env = (false, eval a X.env) :: starEach [.Tuple bs k bpos] X.env) (hs2 : starEach [.Tuple bs k bpos] X.env = (false, eval (.Tuple bs k bpos) X.env) :: starEach [] X.env)
    (hx : ∀ {t : TA} {r : List V → Hp → VK → Prop}, CallR X (.builtin "isinstance") r → PA X [a, .Tuple bs k bpos] t → PE X x (tCB r t)) : PE X x (tR Q B T W (.isi p ts)) := by
  refine PE.imp (hx (call_isPT O hK) (pa_cons ha (pa_cons (pe_tup hb) pa_nil hs2) hs)) fun σ H K hk => ?_
  obtain ⟨C, sl, r, hk⟩ := hk
  rw [evR] at hk
  refine ⟨C, sl, r, hk.bind.mono fun c H1 ⟨a', s1, r1, rl, k1, h1⟩ => ?_⟩
  split at h1
  · exact h1.elim
  · rename_i hf
    have hn := relPn_now r1 rl
    refine ⟨hz, fun tp htp => ?_⟩
    have hn2 : Rn B (upd H1 tp (.tup ds)) c a' := hn.same (same_upd htp)
    obtain ⟨u, hu2⟩ := pvVal_of hn (fun i e => hf i e)
    exact ⟨c, a', tp, ds, ts, vs, u, rfl, hn2, hu2, ht, upd_same, hu, h1.res r1 _ _ (same_upd htp) (Rp.bl _)⟩
end
end Pv

/-! PvSound9: calls: own lists lent and given back. -/
namespace Pv
open PySem PyProof.Rows PySem.Spec L2
/-- the arguments' values -/
inductive AvR (B : Tbl) (σ : L2.St) (H : Hp) : List AV → List V → Prop
  | nil : AvR B σ H [] []
  | val {v : PV} {c : V} {l : List AV} {vs : List V} : Rp B H c v → AvR B σ H l vs → AvR B σ H (.val v :: l) (c :: vs)
  | lent {i : Nat} {c : V} {l : List AV} {vs : List V} : σ[i]? = some (some c) → AvR B σ H l vs → AvR B σ H (.lent i :: l) (c :: vs)
theorem AvR.keep {B : Tbl} {σ : L2.St} {H H' : Hp} (k : Keep H H') {l : List AV} {vs : List V} (h : AvR B σ H l vs) : AvR B σ H' l vs := by
  induction h with
  | nil => exact .nil
  | val h _ ih => exact .val (h.keep k) ih
  | lent h _ ih => exact .lent h ih
theorem AvR.len {B : Tbl} {σ : L2.St} {H : Hp} {l : List AV} {vs : List V} (h : AvR B σ H l vs) : vs.length = l.length := by
  induction h with
  | nil => rfl
  | val h _ ih => simp [ih]
  | lent h _ ih => simp [ih]
def AvAt (B : Tbl) (σ : L2.St) (H : Hp) (c : V) : AV → Prop
  | .val v => Rp B H c v
  | .lent i => σ[i]? = some (some c)
theorem AvR.at {B : Tbl} {σ : L2.St} {H : Hp} {l : List AV} {vs : List V} (h : AvR B σ H l vs) {k : Nat} {a : AV} (e : l[k]? = some a) : ∃ c, vs[k]? = some c ∧ AvAt B σ H c a := by
  induction h generalizing k with
  | nil => simp at e
  | val h _ ih =>
    cases k with
    | zero => simp at e; subst e; exact ⟨_, rfl, h⟩
    | succ k => simpa using ih (by simpa using e)
  | lent h _ ih =>
    cases k with
    | zero => simp at e; subst e; exact ⟨_, rfl, h⟩
    | succ k => simpa using ih (by simpa using e)
theorem args_len {s : Sl} : ∀ {l : List AV} {as : List SV}, argsOf s l = some as → as.length = l.length
  | [], as, h => by cases h; rfl
  | a :: l, as, h => by
    unfold argsOf at h
    split at h
    · rename_i v vs e1 e2
      cases h
      simp [args_len e2]
    · cases h
theorem args_at {s : Sl} : ∀ {l : List AV} {as : List SV}, argsOf s l = some as → ∀ {k : Nat} {x : SV}, as[k]? = some x → ∃ a, l[k]? = some a ∧ argOf s a = some x
  | [], as, h, k, x, e => by cases h; simp at e
  | a :: l, as, h, k, x, e => by
    unfold argsOf at h
    split at h
    · rename_i v vs e1 e2
      cases h
      cases k with
      | zero => simp at e; subst e; exact ⟨a, rfl, e1⟩
      | succ k => simpa using args_at e2 (by simpa using e)
    · cases h
theorem arg_own {s : Sl} {a : AV} {v : PV} (h : argOf s a = some (.own v)) : ∃ i, a = .lent i ∧ s[i]? = some (some (.own v)) := by
  cases a with
  | val w => cases h
  | lent i =>
    unfold argOf at h
    dsimp only at h
    split at h
    · rename_i w e; cases h; exact ⟨i, rfl, e⟩
    · cases h
theorem isOwn_iff {s : Sl} {i : Nat} : isOwn s i = true ↔ ∃ v, s[i]? = some (some (.own v)) := by
  unfold isOwn
  split
  · rename_i v e; exact ⟨fun _ => ⟨v, e⟩, fun _ => rfl⟩
  · rename_i h
    exact ⟨fun z => (nomatch z), fun ⟨v, e⟩ => absurd e (h v)⟩
theorem mem_lent {s : Sl} {i : Nat} : ∀ {l : List AV} {k : Nat}, l[k]? = some (.lent i) → isOwn s i = true → (lentOf s l).elem i = true
  | [], k, e, _ => by simp at e
  | a :: l, 0, e, h => by
    simp at e
    subst e
    unfold lentOf
    rw [if_pos h]
    simp
  | a :: l, k + 1, e, h => by
    have ih := mem_lent (l := l) (k := k) (by simpa using e) h
    unfold lentOf
    cases a with
    | val _ => exact ih
    | lent j =>
      dsimp only
      split
      · simp only [List.elem_eq_mem] at ih ⊢
        simp only [List.mem_cons]
        exact decide_eq_true (.inr (of_decide_eq_true ih))
      · exact ih
theorem lent_one {s : Sl} {i : Nat} : ∀ {l : List AV}, noDup (lentOf s l) = true → ∀ {k k' : Nat}, l[k]? = some (.lent i) → l[k']? = some (.lent i) → isOwn s i = true → k = k'
  | [], _, k, k', e, _, _ => by simp at e
  | a :: l, nd, k, k', e, e', h => by
    unfold lentOf at nd
    cases a with
    | val _ =>
      cases k with
      | zero => simp at e
      | succ k => cases k' with
        | zero => simp at e'
        | succ k' => exact congrArg (· + 1) (lent_one (l := l) nd (by simpa using e) (by simpa using e') h)
    | lent j =>
      dsimp only at nd
      have key : j = i → ∀ n : Nat, l[n]? = some (AV.lent i) → False := fun ej n en => by
        subst ej
        rw [if_pos h] at nd
        unfold noDup at nd
        rw [mem_lent en h] at nd
        exact absurd nd (by simp)
      have nd2 : noDup (lentOf s l) = true := by
        split at nd
        · unfold noDup at nd
          exact (Bool.and_eq_true _ _ ▸ nd).2
        · exact nd
      cases k with
      | zero =>
        simp at e
        cases k' with
        | zero => rfl
        | succ k' => exact (key e k' (by simpa using e')).elim
      | succ k => cases k' with
        | zero => simp at e'; exact (key e' k (by simpa using e)).elim
        | succ k' => exact congrArg (· + 1) (lent_one (l := l) nd2 (by simpa using e) (by simpa using e') h)
/-- the lent things' addresses -/
def lentA (σ : L2.St) (s : Sl) : List AV → List Addr
  | [] => []
  | .val _ :: r => lentA σ s r
  | .lent i :: r => match isOwn s i, σ[i]? with
    | true, some (some (.ref p)) => p :: lentA σ s r
    | _, _ => lentA σ s r
theorem mem_lentA {σ : L2.St} {s : Sl} {p : Addr} : ∀ {l : List AV}, p ∈ lentA σ s l → ∃ i : Nat, isOwn s i = true ∧ σ[i]? = some (some (V.ref p))
  | [], h => by simp [lentA] at h
  | .val _ :: r, h => mem_lentA (l := r) h
  | .lent i :: r, h => by
    unfold lentA at h
    split at h
    · rename_i q e1 e2
      exact (List.mem_cons.mp h).elim (fun z => ⟨i, e1, z ▸ e2⟩) mem_lentA
    · exact mem_lentA h
theorem lentA_mem {σ : L2.St} {s : Sl} {p : Addr} {i : Nat} : ∀ {l : List AV} {k : Nat}, l[k]? = some (.lent i) → isOwn s i = true → σ[i]? = some (some (V.ref p)) → p ∈ lentA σ s l
  | [], k, e, _, _ => by simp at e
  | a :: l, 0, e, h, h2 => by
    simp at e
    subst e
    unfold lentA
    rw [h, h2]
    exact List.mem_cons_self
  | a :: l, k + 1, e, h, h2 => by
    have ih := lentA_mem (l := l) (k := k) (by simpa using e) h h2
    unfold lentA
    cases a with
    | val _ => exact ih
    | lent j =>
      dsimp only
      split
      · exact List.mem_cons_of_mem _ ih
      · exact ih
theorem map_some_at {α : Type} {l : List α} {i : Nat} {x : Option α} (h : (l.map some)[i]? = some x) : ∃ y, l[i]? = some y ∧ x = some y := by
  rw [List.getElem?_map] at h
  cases e : l[i]? with
  | none => exact nomatch (e ▸ h : Option.map some none = some x)
  | some y => rw [e] at h; cases h; exact ⟨y, rfl, rfl⟩
theorem at_map_some {α : Type} {l : List α} {i : Nat} {y : α} (h : l[i]? = some y) : (l.map some)[i]? = some (some y) := by
  rw [List.getElem?_map, h]; rfl
section
variable {B : Tbl} {T : Tabl} {C : Fx} {H H' : Hp} {σ : L2.St} {s : Sl} {l : List AV} {vs : List V} {as os : List SV}
/-- own things are lent -/
theorem RelS.lend (r : RelS B T C H σ s) (a : AvR B σ H l vs) (e : argsOf s l = some as) (nd : noDup (lentOf s l) = true) : RelS B T ⟨H, lentA σ s l⟩ H (vs.map some) (as.map some) where
  len := by rw [List.length_map, List.length_map, a.len, args_len e]
  fz := fun k v ek => by
    obtain ⟨y, hy, ey⟩ := map_some_at ek
    cases ey
    obtain ⟨b, hb, ab⟩ := args_at e hy
    obtain ⟨c, hc, av⟩ := a.at hb
    refine ⟨c, at_map_some hc, ?_⟩
    cases b with
    | val w => cases ab; exact av
    | lent i =>
      have av : σ[i]? = some (some c) := av
      unfold argOf at ab
      dsimp only at ab
      split at ab
      · rename_i w ew
        cases ab
        obtain ⟨c', h1, h2⟩ := r.fz i v ew
        rw [av] at h1; cases h1
        exact h2
      · cases ab
  ow := fun k v ek => by
    obtain ⟨y, hy, ey⟩ := map_some_at ek
    cases ey
    obtain ⟨b, hb, ab⟩ := args_at e hy
    obtain ⟨c, hc, av⟩ := a.at hb
    obtain ⟨i, rfl, ei⟩ := arg_own ab
    have av : σ[i]? = some (some c) := av
    obtain ⟨p, h1, h2, h3⟩ := r.ow i v ei
    rw [av] at h1; cases h1
    exact ⟨p, at_map_some hc, h2, .inr (lentA_mem hb (isOwn_iff.mpr ⟨v, ei⟩) av)⟩
  ne := fun k k' v w p e1 e2 e3 e4 => by
    obtain ⟨y, hy, ey⟩ := map_some_at e1
    cases ey
    obtain ⟨y', hy', ey'⟩ := map_some_at e2
    cases ey'
    obtain ⟨b, hb, ab⟩ := args_at e hy
    obtain ⟨b', hb', ab'⟩ := args_at e hy'
    obtain ⟨i, rfl, ei⟩ := arg_own ab
    obtain ⟨i', rfl, ei'⟩ := arg_own ab'
    obtain ⟨c, hc, av⟩ := a.at hb
    obtain ⟨c', hc', av'⟩ := a.at hb'
    have av : σ[i]? = some (some c) := av
    have av' : σ[i']? = some (some c') := av'
    obtain ⟨z, hz, ez⟩ := map_some_at e3
    cases ez
    obtain ⟨z', hz', ez'⟩ := map_some_at e4
    cases ez'
    rw [hc] at hz; cases hz
    rw [hc'] at hz'; cases hz'
    have : i = i' := r.ne i i' v w p ei ei' av av'
    subst this
    exact lent_one nd hb hb' (isOwn_iff.mpr ⟨v, ei⟩)
  kept := fun b o h _ _ => h
  lin := fun b hb => by
    obtain ⟨i, h1, h2⟩ := mem_lentA hb
    obtain ⟨v, h1⟩ := isOwn_iff.mp h1
    obtain ⟨p, h3, h4, _⟩ := r.ow i v h1
    rw [h2] at h3; cases h3
    obtain ⟨u, hu, iu⟩ := h4.some
    exact ⟨u, hu, iu.tbl⟩
  tabs := r.tabs
theorem lent_set {i : Nat} {x : Option SV} : ∀ {l : List AV} {s : Sl}, (∀ k : Nat, l[k]? ≠ some (.lent i)) → lentOf (s.set i x) l = lentOf s l
  | [], _, _ => rfl
  | .val _ :: l, s, h => lent_set (l := l) fun k z => h (k + 1) (by simpa using z)
  | .lent j :: l, s, h => by
    have hj : i ≠ j := fun z => h 0 (by simp [z])
    have ih := lent_set (l := l) (s := s) (x := x) fun k z => h (k + 1) (by simpa using z)
    unfold lentOf
    have e : isOwn (s.set i x) j = isOwn s j := by
      unfold isOwn
      rw [List.getElem?_set_ne hj]
    rw [e, ih]
theorem back_len : ∀ {l : List AV} {os : List SV} {s : Sl}, (backS s l os).length = s.length
  | [], os, s => by unfold backS; rfl
  | .lent i :: l, [], s => by unfold backS; rfl
  | .val _ :: l, [], s => by unfold backS; rfl
  | .lent i :: l, v :: os, s => by
    unfold backS
    rw [back_len]
    split
    · rw [List.length_set]
    · rfl
  | .val _ :: l, v :: os, s => by
    unfold backS
    rw [back_len]
theorem back_at : ∀ {l : List AV} {os : List SV} {s : Sl}, noDup (lentOf s l) = true → os.length = l.length → ∀ j : Nat,
    (∃ (k : Nat) (v : SV), l[k]? = some (.lent j) ∧ isOwn s j = true ∧ os[k]? = some v ∧ (backS s l os)[j]? = some (some v)) ∨ ((backS s l os)[j]? = s[j]? ∧ ∀ k : Nat, l[k]? = some (.lent j) → isOwn s j = false)
  | [], os, s, _, _, j => .inr ⟨by unfold backS; rfl, fun k e => by simp at e⟩
  | a :: l, [], s, _, h, j => by simp at h
  | .val w :: l, v :: os, s, nd, h, j => by
    unfold lentOf at nd
    unfold backS
    rcases back_at nd (by simpa using h) j with ⟨k, v', h1, h2, h3, h4⟩ | ⟨h1, h2⟩
    · exact .inl ⟨k + 1, v', by simpa using h1, h2, by simpa using h3, h4⟩
    · refine .inr ⟨h1, fun k e => ?_⟩
      cases k with
      | zero => simp at e
      | succ k => exact h2 k (by simpa using e)
  | .lent i :: l, v :: os, s, nd, h, j => by
    have one := @lent_one s i _ nd 0
    unfold lentOf at nd
    unfold backS
    skip
    cases q : isOwn s i with
    | false =>
      rw [q, if_neg Bool.false_ne_true] at nd
      rw [if_neg (fun z => nomatch z)]
      rcases back_at nd (by simpa using h) j with ⟨k, v', h1, h2, h3, h4⟩ | ⟨h1, h2⟩
      · exact .inl ⟨k + 1, v', by simpa using h1, h2, by simpa using h3, h4⟩
      · refine .inr ⟨h1, fun k e => ?_⟩
        cases k with
        | zero => simp at e; subst e; exact q
        | succ k => exact h2 k (by simpa using e)
    | true =>
      rw [q, if_pos rfl] at nd
      rw [if_pos rfl]
      have no : ∀ k : Nat, l[k]? ≠ some (.lent i) := fun k z => by
        have := one (k' := k + 1) (by simp) (by simpa using z) q
        omega
      unfold noDup at nd
      rw [Bool.and_eq_true] at nd
      have nd2 : noDup (lentOf (s.set i (some v)) l) = true := by rw [lent_set no]; exact nd.2
      have hlt : i < s.length := by
        obtain ⟨w, ew⟩ := isOwn_iff.mp q
        exact (List.getElem?_eq_some_iff.mp ew).1
      rcases back_at nd2 (by simpa using h) j with ⟨k, v', h1, h2, h3, h4⟩ | ⟨h1, h2⟩
      · have hj : j ≠ i := fun z => no k (z ▸ h1)
        refine .inl ⟨k + 1, v', by simpa using h1, ?_, by simpa using h3, h4⟩
        unfold isOwn at h2 ⊢
        rwa [List.getElem?_set_ne (Ne.symm hj)] at h2
      · by_cases hj : j = i
        · subst hj
          refine .inl ⟨0, v, by simp, q, by simp, ?_⟩
          rw [h1, List.getElem?_set_self hlt]
        · refine .inr ⟨by rw [h1, List.getElem?_set_ne (Ne.symm hj)], fun k e => ?_⟩
          cases k with
          | zero => simp at e; exact absurd e.symm hj
          | succ k =>
            have := h2 k (by simpa using e)
            unfold isOwn at this ⊢
            rwa [List.getElem?_set_ne (Ne.symm hj)] at this
/-- what was lent comes back -/
theorem RelS.back (r : RelS B T C H σ s) (a : AvR B σ H l vs) (e : argsOf s l = some as) (nd : noDup (lentOf s l) = true) (k : Keep H H') (q : RelS B T ⟨H, lentA σ s l⟩ H' (vs.map some) (os.map some)) : RelS B T C H' σ (backS s l os) := by
  have hl : os.length = l.length := by
    have := q.len
    rw [List.length_map, List.length_map, a.len] at this
    exact this.symm
  have at_ := back_at nd hl
  -- an own slot as it was
  have stay : ∀ (j : Nat) (v : PV), s[j]? = some (some (SV.own v)) → (∀ k : Nat, l[k]? = some (.lent j) → isOwn s j = false) → ∃ p, σ[j]? = some (some (V.ref p)) ∧ Cont B H' p v ∧ (New0 C.H0 p ∨ p ∈ C.L) := fun j v ej no => by
    obtain ⟨p, h1, h2, h3⟩ := r.ow j v ej
    obtain ⟨u, hu, iu⟩ := h2.some
    refine ⟨p, h1, h2.move k ?_, h3⟩
    rw [hu]
    refine q.kept p u hu (fun hm => ?_) iu.tbl
    obtain ⟨i, g1, g2⟩ := mem_lentA hm
    obtain ⟨w, g1'⟩ := isOwn_iff.mp g1
    have : i = j := r.ne i j w v p g1' ej g2 h1
    subst this
    -- i is lent: find its place
    have find : ∀ {l' : List AV}, p ∈ lentA σ s l' → ∃ (n : Nat) (i' : Nat), l'[n]? = some (.lent i') ∧ isOwn s i' = true ∧ σ[i']? = some (some (V.ref p)) := by
      intro l'
      induction l' with
      | nil => intro h; simp [lentA] at h
      | cons b l' ih =>
        intro h
        cases b with
        | val w =>
          obtain ⟨n, i', z1, z2, z3⟩ := ih h
          exact ⟨n + 1, i', by simpa using z1, z2, z3⟩
        | lent i' =>
          unfold lentA at h
          split at h
          · rename_i q' e1 e2
            rcases (List.mem_cons.mp h) with z | z
            · subst z; exact ⟨0, i', by simp, e1, e2⟩
            · obtain ⟨n, i'', z1, z2, z3⟩ := ih z
              exact ⟨n + 1, i'', by simpa using z1, z2, z3⟩
          · obtain ⟨n, i'', z1, z2, z3⟩ := ih h
            exact ⟨n + 1, i'', by simpa using z1, z2, z3⟩
    obtain ⟨n, i', z1, z2, z3⟩ := find hm
    obtain ⟨w', z2'⟩ := isOwn_iff.mp z2
    have : i' = i := r.ne i' i w' v p z2' ej z3 h1
    subst this
    have := no n z1
    rw [z2] at this
    cases this
  -- an own slot behind the call was own before
  have was : ∀ (j : Nat) (v : PV), (backS s l os)[j]? = some (some (SV.own v)) → ∃ w, s[j]? = some (some (SV.own w)) := fun j v ej => by
    rcases at_ j with ⟨n, x, h1, h2, h3, h4⟩ | ⟨h1, h2⟩
    · exact isOwn_iff.mp h2
    · rw [h1] at ej; exact ⟨v, ej⟩
  refine ⟨by rw [back_len]; exact r.len, fun j v ej => ?_, fun j v ej => ?_, fun i j v w p e1 e2 e3 e4 => ?_, fun b o eb hb n => ?_, fun b hb => ?_, q.tabs⟩
  · rcases at_ j with ⟨n, x, h1, h2, h3, h4⟩ | ⟨h1, h2⟩
    · rw [h4] at ej; cases ej
      obtain ⟨c, g1, g2⟩ := q.fz n v (at_map_some h3)
      obtain ⟨c', g3, g4⟩ := a.at h1
      have g4 : σ[j]? = some (some c') := g4
      rw [at_map_some g3] at g1; cases g1
      exact ⟨c, g4, g2⟩
    · rw [h1] at ej
      obtain ⟨c, g1, g2⟩ := r.fz j v ej
      exact ⟨c, g1, g2.keep k⟩
  · rcases at_ j with ⟨n, x, h1, h2, h3, h4⟩ | ⟨h1, h2⟩
    · rw [h4] at ej; cases ej
      obtain ⟨p, g1, g2, g3⟩ := q.ow n v (at_map_some h3)
      obtain ⟨c', g5, g4⟩ := a.at h1
      have g4 : σ[j]? = some (some c') := g4
      rw [at_map_some g5] at g1; cases g1
      obtain ⟨w, hw⟩ := isOwn_iff.mp h2
      obtain ⟨p', z1, _, z3⟩ := r.ow j w hw
      rw [g4] at z1; cases z1
      exact ⟨p, g4, g2, z3⟩
    · rw [h1] at ej
      exact stay j v ej h2
  · obtain ⟨v', e1'⟩ := was i v e1
    obtain ⟨w', e2'⟩ := was j w e2
    exact r.ne i j v' w' p e1' e2' e3 e4
  · refine q.kept b o (r.kept b o eb hb n) (fun hm => ?_) n
    obtain ⟨i, g1, g2⟩ := mem_lentA hm
    obtain ⟨w, g1⟩ := isOwn_iff.mp g1
    obtain ⟨p, h1, _, h3⟩ := r.ow i w g1
    rw [g2] at h1; cases h1
    rcases h3 with h3 | h3
    · exact h3 o eb n
    · exact hb h3
  · obtain ⟨o, ho, no⟩ := r.lin b hb
    by_cases hm : b ∈ lentA σ s l
    · exact q.lin b hm
    · exact ⟨o, q.kept b o ho hm no, no⟩
/-- a new thing that a call made -/
theorem RelS.backF (r : RelS B T C H σ s) (a : AvR B σ H l vs) {x : FV} {c : V} (h : RR B ⟨H, lentA σ s l⟩ H' (vs.map some) (os.map some) c x) (was : ∀ (j : Nat) (v : PV), (backS s l os)[j]? = some (some (SV.own v)) → ∃ w, s[j]? = some (some (SV.own w))) : RR B C H' σ (backS s l os) c x := by
  obtain ⟨fl, v⟩ := x
  cases fl with
  | false => exact h
  | true =>
    obtain ⟨p, rfl, hc, h0, hl, hn⟩ := (show Fresh B ⟨H, lentA σ s l⟩ H' (vs.map some) (os.map some) c v from h).ex
    have h0 : New0 H p := h0
    refine (show Fresh B C H' σ (backS s l os) (.ref p) v from ⟨p, rfl, hc, fun o eo no => ?_, fun hm => ?_, fun j w ej eσ => ?_⟩)
    · by_cases hm : p ∈ C.L
      · obtain ⟨o', h1, h2⟩ := r.lin p hm
        exact h0 o' h1 h2
      · exact h0 o (r.kept p o eo hm no) no
    · obtain ⟨o', h1, h2⟩ := r.lin p hm
      exact h0 o' h1 h2
    · obtain ⟨w', hw'⟩ := was j w ej
      obtain ⟨q, g1, g2, _⟩ := r.ow j w' hw'
      rw [eσ] at g1; cases g1
      obtain ⟨u, hu, iu⟩ := g2.some
      exact h0 u hu iu.tbl
end
/-! ### the promise of a def -/
def RcOk (B : Tbl) (T : Tabl) (C : Fx) (vs : List V) (H : Hp) (K : VK) (E : XK) : RC → Prop
  | .ok v os => ∀ c H', Keep H H' → RelS B T C H' (vs.map some) (os.map some) → RR B C H' (vs.map some) (os.map some) c v → K c H'
  | .err k d os => ∀ H', Keep H H' → RelS B T C H' (vs.map some) (os.map some) → d = [] ∧ ∃ D, B.clA k = some D ∧ E (.ref D) none H'
  | .bad => False
def spI (B : Tbl) (T : Tabl) (f : List SV → RC) : Sp := fun vs H Q E => ∃ as L, RelS B T ⟨H, L⟩ H (vs.map some) (as.map some) ∧ RcOk B T ⟨H, L⟩ vs H Q E (f as)
def tAs (Q : Env) (B : Tbl) (T : Tabl) (W : WX) (as : As) : TA := fun σ H K => ∃ C s, RelS B T C H σ s ∧ Kq B T W C σ H (fun H' _ l vs => AvR B σ H' l vs) K (evAs Q as s)
section
variable {Q : Env} {B : Tbl} {T : Tabl} {W : WX} {C : Fx} {σ : L2.St} {s : Sl} {H H1 : Hp} {X : Cx} {K : VK} {l : List AV} {vs : List V} {f : Nat}
/-- what a call in the small language says of the def that is called -/
theorem call_sp (r : RelS B T C H σ s) (a : AvR B σ H l vs) (h : Kq B T W C σ H (fun H' s' x c => RR B C H' σ s' c x) K (runCall Q f l s)) : spI B T (Q.call f) vs H K (WE W σ) := by
  unfold runCall at h
  split at h
  · exact h.elim
  · rename_i as e
    split at h
    · rename_i nd
      refine ⟨as, lentA σ s l, r.lend a e nd, ?_⟩
      have wasO : ∀ os : List SV, (vs.map some).length = (os.map some).length → ∀ (j : Nat) (v : PV), (backS s l os)[j]? = some (some (SV.own v)) → ∃ w, s[j]? = some (some (SV.own w)) := fun os hl j v ej => by
        rw [List.length_map, List.length_map, a.len] at hl
        rcases back_at nd hl.symm j with ⟨n, x, h1, h2, h3, h4⟩ | ⟨h1, h2⟩
        · exact isOwn_iff.mp h2
        · rw [h1] at ej; exact ⟨v, ej⟩
      cases q : Q.call f as with
      | ok v os =>
        rw [q] at h
        exact fun c H' k r' rr => h c H' k (r.back a e nd k r') (r.backF a rr (wasO os r'.len))
      | err k d os =>
        rw [q] at h
        have h : ∀ H', Keep H H' → RelS B T C H' σ (backS s l os) → ErrOk B W σ H' k d := h
        exact fun H' k r' => h H' k (r.back a e nd k r')
      | bad => rw [q] at h; exact h.elim
    · exact h.elim
end
end Pv

/-! PvSound10: calls by name, by keywords, of a local name; displays of dicts. -/
namespace Pv
open PySem PyProof.Rows PySem.Spec L2
section
variable {Q : Env} {B : Tbl} {T : Tabl} {W : WX} {C : Fx} {σ : L2.St} {s : Sl} {H H1 : Hp} {X : Cx} {K : VK} {l : List AV} {vs : List V} {f k : Nat} {a : Addr} {fd : FuncData} {ps : List Str}
/-- argument lists -/
theorem snd_anil : PA X [] (tAs Q B T W .nil) := ⟨fun pos pins s σ H K I hk => by
  obtain ⟨C, sl, r, hk⟩ := hk
  rw [evAs] at hk
  exact pa_nil.run pos pins s σ H K I (hk [] H (Keep.refl _) r .nil)⟩
theorem snd_ae {e : E} {es : As} {x : Expr} {xs : List Expr} (he : PE X x (tR Q B T W e)) (hr : PA X xs (tAs Q B T W es)) (hs : starEach (x :: xs) X.env = (false, eval x X.env) :: starEach xs X.env) : PA X (x :: xs) (tAs Q B T W (.e e es)) := by
  refine PA.imp (pa_cons (lockR he) hr hs) fun σ H K hk => ?_
  obtain ⟨C, sl, r, hk⟩ := hk
  rw [evAs] at hk
  refine ⟨C, sl, r, hk.bind.mono fun c H1 ⟨z, s1, r1, e, k1, h1⟩ => ⟨C, s1, r1, h1.bind.mono fun cs H2 ⟨zs, s2, r2, e2, k2, h2⟩ => ?_⟩⟩
  exact h2 (c :: cs) H2 (Keep.refl _) r2 (.val (e.keep k2) e2)
theorem snd_al {i : Nat} {es : As} {x : Expr} {xs : List Expr} (he : PE X x (tVar i)) (hr : PA X xs (tAs Q B T W es)) (hs : starEach (x :: xs) X.env = (false, eval x X.env) :: starEach xs X.env) : PA X (x :: xs) (tAs Q B T W (.l i es)) := by
  refine PA.imp (pa_cons he hr hs) fun σ H K hk => ?_
  obtain ⟨C, sl, r, hk⟩ := hk
  rw [evAs] at hk
  split at hk
  · rename_i v hv
    obtain ⟨c, hc⟩ := r.slot hv
    refine ⟨c, hc, C, sl, r, hk.bind.mono fun cs H2 ⟨zs, s2, r2, e2, k2, h2⟩ => ?_⟩
    exact h2 (c :: cs) H2 (Keep.refl _) r2 (.lent hc e2)
  · exact hk.elim
/-- f(e, ..), f a def of the module -/
theorem snd_call {x : Str} {p pos : Pos} {e : Expr} {es : List Expr} {as : As} (tk : Takes X W) (F : FnOk X.prog X.w X.K X.mg X.base (L2.CX X.prog X.w) k a fd ps (spI B T (Q.call f))) (hb : Binds X.K fd ps []) (hk : PySem.W.keepIn X.K (.ref a) = true) (hm : X.mg x = some (.ref a)) (hr : Room k X.A) (hg : Gl X x)
    (ha : PA X (e :: es) (tAs Q B T W as)) (hdb : (x == ("__debug__" : Str)) = false := by decide) (he : starEach (e :: es) X.env = (false, eval e X.env) :: starEach es X.env := by rfl) (hpl : (backTo pos (starEach es X.env)).any (·.1) = false := by rfl) :
    PE X (.Call (.Name x p) (e :: es) [] pos) (tR Q B T W (.call f as)) := by
  refine PE.imp (pe_callS (E := WE W) F hr hg hm hk hb (passAt tk) ha hdb he hpl) fun σ H K hk => ?_
  obtain ⟨C, sl, r, hk⟩ := hk
  rw [evR] at hk
  exact ⟨C, sl, r, hk.bind.mono fun vs H1 ⟨l, s1, r1, av, k1, h1⟩ => call_sp r1 av h1⟩
theorem snd_call0 {x : Str} {p pos : Pos} (tk : Takes X W) (F : FnOk X.prog X.w X.K X.mg X.base (L2.CX X.prog X.w) k a fd ps (spI B T (Q.call f))) (hb : Binds X.K fd ps []) (hk : PySem.W.keepIn X.K (.ref a) = true) (hm : X.mg x = some (.ref a)) (hr : Room k X.A) (hg : Gl X x)
    (hdb : (x == ("__debug__" : Str)) = false := by decide) : PE X (.Call (.Name x p) [] [] pos) (tR Q B T W (.call f .nil)) := by
  refine ⟨fun pins s σ H K I hq => ?_⟩
  obtain ⟨C, sl, r, hq⟩ := hq
  rw [evR, evAs] at hq
  have h : spI B T (Q.call f) [] H K (WE W σ) := call_sp (l := []) r .nil hq
  refine wpAny_Call_Name_kw ((ld_glob I hg hm · hdb) ?_)
  exact PySem.W.callWith_K0 I.kIn hk (run_fnS (E := WE W) (us := []) F hr hb (passAt tk σ) I .nil h)
/-- x(e, ..), x a local name that holds a def -/
theorem snd_callv {i : Nat} {x : Str} {p pos : Pos} {e : Expr} {es : List Expr} {as : As} (tk : Takes X W)
    (FA : ∀ f a, B.fnA f = some a → ∃ fd ps, FnOk X.prog X.w X.K X.mg X.base (L2.CX X.prog X.w) k a fd ps (spI B T (Q.call f)) ∧ Binds X.K fd ps [] ∧ PySem.W.keepIn X.K (.ref a) = true) (hr : Room k X.A) (hN : X.N[i]? = some x) (hv : Vis X.env.scope x)
    (ha : PA X (e :: es) (tAs Q B T W as)) (hdb : (x == ("__debug__" : Str)) = false := by decide) (hcd : (x == ("__classdict__" : Str)) = false := by decide)
    (he : starEach (e :: es) X.env = (false, eval e X.env) :: starEach es X.env := by rfl) (hpl : (backTo pos (starEach es X.env)).any (·.1) = false := by rfl) : PE X (.Call (.Name x p) (e :: es) [] pos) (tR Q B T W (.callv i as)) := by
  refine ⟨fun pins s σ H K I hq => ?_⟩
  obtain ⟨C, sl, r, hq⟩ := hq
  rw [evR] at hq
  split at hq
  · rename_i f hf
    obtain ⟨c, hc⟩ := r.slot hf
    have hn := r.rn hf hc
    have ex : ∃ a, c = .ref a ∧ B.fnA f = some a := by
      rcases hn with hn | ⟨_, _, hn⟩
      · cases hn with | fn h => exact ⟨_, rfl, h⟩
      · exact hn.elim
    obtain ⟨a, rfl, hfa⟩ := ex
    obtain ⟨fd, ps, F, hb, hk⟩ := FA f a hfa
    refine wpAny_Call_Name_kw (thn ((pe_var (pos := p) hN hv hdb hcd).run pins s σ H (fun v H1 => v = .ref a ∧ H1 = H) I ⟨.ref a, hc, rfl, rfl⟩) fun u s1 ⟨v, H1, I1, r1, q1⟩ => ?_)
    obtain ⟨rfl, rfl⟩ := q1
    cases r1
    refine PySem.W.callWith_K (h₀ := X.base) I.ok.mod.kin hk (thn (ha.run pos pins s1 σ _ _ I1 ⟨C, sl, r, hq.bind⟩) fun us s2 ⟨vs, H2, I2, rv, l, s3, r3, av, k3, h3⟩ => ⟨I2.kIn, ?_⟩) he hpl
    exact run_fnS (E := WE W) F hr hb (passAt tk σ) I2 rv (call_sp r3 av h3)
  · exact hq.elim
/-! ### keywords alone -/
def tAk (Q : Env) (B : Tbl) (T : Tabl) (W : WX) (as : As) : TA := tAs Q B T W as
theorem snd_knil : PK X [] (tAs Q B T W .nil) := ⟨fun pos pins s σ H K I hk => by
  obtain ⟨C, sl, r, hk⟩ := hk
  rw [evAs] at hk
  exact pk_nil.run pos pins s σ H K I (hk [] H (Keep.refl _) r .nil)⟩
theorem PK.imp {x : List Keyword} {t t' : TA} (h : PK X x t) (hi : ∀ σ H K, t' σ H K → t σ H K) : PK X x t' := ⟨fun pos pins s σ H K I hk => h.run pos pins s σ H K I (hi σ H K hk)⟩
theorem snd_ke {e : E} {es : As} {x : Expr} {xs : List Keyword} {nm : Option Str} {kp : Pos} (he : PE X x (tR Q B T W e)) (hr : PK X xs (tAs Q B T W es)) : PK X (⟨nm, x, kp⟩ :: xs) (tAs Q B T W (.e e es)) := by
  refine PK.imp (pk_cons (lockR he) hr) fun σ H K hk => ?_
  obtain ⟨C, sl, r, hk⟩ := hk
  rw [evAs] at hk
  refine ⟨C, sl, r, hk.bind.mono fun c H1 ⟨z, s1, r1, e, k1, h1⟩ => ⟨C, s1, r1, h1.bind.mono fun cs H2 ⟨zs, s2, r2, e2, k2, h2⟩ => ?_⟩⟩
  exact h2 (c :: cs) H2 (Keep.refl _) r2 (.val (e.keep k2) e2)
theorem snd_kl {i : Nat} {es : As} {x : Expr} {xs : List Keyword} {nm : Option Str} {kp : Pos} (he : PE X x (tVar i)) (hr : PK X xs (tAs Q B T W es)) : PK X (⟨nm, x, kp⟩ :: xs) (tAs Q B T W (.l i es)) := by
  refine PK.imp (pk_cons he hr) fun σ H K hk => ?_
  obtain ⟨C, sl, r, hk⟩ := hk
  rw [evAs] at hk
  split at hk
  · rename_i v hv
    obtain ⟨c, hc⟩ := r.slot hv
    refine ⟨c, hc, C, sl, r, hk.bind.mono fun cs H2 ⟨zs, s2, r2, e2, k2, h2⟩ => ?_⟩
    exact h2 (c :: cs) H2 (Keep.refl _) r2 (.lent hc e2)
  · exact hk.elim
/-- the keywords' values in the parameters' order -/
def permA {α : Type} (p : List Nat) (as : List α) : List α := p.filterMap fun i => as[i]?
theorem perm_av {l : List AV} {vs : List V} (h : AvR B σ H l vs) : ∀ p : List Nat, AvR B σ H (permL l p) (permA p vs)
  | [] => .nil
  | i :: p => by
    have ih := perm_av h p
    unfold permL permA at ih ⊢
    cases e : l[i]? with
    | none =>
      have e2 : vs[i]? = none := by rw [List.getElem?_eq_none_iff] at e ⊢; rw [h.len]; exact e
      rw [List.filterMap_cons_none e, List.filterMap_cons_none e2]
      exact ih
    | some a =>
      obtain ⟨c, hc, av⟩ := h.at e
      rw [List.filterMap_cons_some e, List.filterMap_cons_some hc]
      cases a with
      | val v => exact .val av ih
      | lent j => exact .lent av ih
/-- how a call by keywords ks binds: p the order -/
structure KwB (K : PySem.W.Frag) (fd : FuncData) (ps ks : List Str) (p : List Nat) : Prop where
  to : ∀ (s : Shared) (ws : List Value), K.In s.heap → ws.length = ks.length → BindsTo s fd ⟨[], ks.zip ws⟩ (ps.zip (permA p ws))
  len : ks.length = p.length
theorem permA_vals (p : List Nat) {zs : List V} {ws : List Value} (r : Vals zs ws) : Vals (permA p zs) (permA p ws) := by
  induction p with
  | nil => exact .nil
  | cons i p ih =>
    unfold permA at ih ⊢
    cases e : zs[i]? with
    | none =>
      rw [List.filterMap_cons_none e, List.filterMap_cons_none (r.none_of e)]
      exact ih
    | some c =>
      obtain ⟨u, hu, ru⟩ := r.get e
      rw [List.filterMap_cons_some e, List.filterMap_cons_some hu]
      exact .cons ru ih
theorem snd_callk {x : Str} {p pos : Pos} {kws : List Keyword} {as : As} {w : Nat} {ks : List Str} (tk : Takes X W) (F : FnOk X.prog X.w X.K X.mg X.base (L2.CX X.prog X.w) k a fd ps (spI B T (Q.call f))) (hb : KwB X.K fd ps ks (Q.perm w)) (hk : PySem.W.keepIn X.K (.ref a) = true) (hm : X.mg x = some (.ref a)) (hr : Room k X.A) (hg : Gl X x)
    (ha : PK X kws (tAs Q B T W as)) (hall : (backToKw pos (keywordEach kws X.env)).all (·.1.isSome) = true := by rfl) (hks : (backToKw pos (keywordEach kws X.env)).filterMap (·.1) = ks := by rfl) (hdb : (x == ("__debug__" : Str)) = false := by decide)
    (hpl : ((backTo pos (starEach [] X.env)).any (·.1) || (backToKw pos (keywordEach kws X.env)).any (·.1.isNone)) = false := by rfl) : PE X (.Call (.Name x p) [] kws pos) (tR Q B T W (.callk f as w)) := by
  refine ⟨fun pins s σ H K I hq => ?_⟩
  obtain ⟨C, sl, r, hq⟩ := hq
  rw [evR] at hq
  refine wpAny_Call_Name_kw ((ld_glob I hg hm · hdb) ?_)
  refine PySem.W.callWith_KW0 (first := []) (h₀ := X.base) I.ok.mod.kin hk hall (thn (ha.run pos pins s σ H _ I ⟨C, sl, r, hq.bind⟩) fun ws s2 ⟨vs, H2, I2, rv, l, s3, r3, av, k3, h3⟩ => ⟨I2.kIn, ?_⟩) hpl
  rw [hks]
  split at h3
  · rename_i hl
    have h := call_sp r3 (perm_av av _) h3
    have r2 := permA_vals (Q.perm w) rv
    have hw : ws.length = ks.length := by rw [← rv.length, av.len, hl, hb.len]
    show wpAny _ _ (call (.ref a) [] (ks.zip ws)) _ _ _
    refine wpAny_call (codeAny_mono (F.run X.A X.stack s2 H2 ⟨[], ks.zip ws⟩ (permA (Q.perm w) ws) (permA (Q.perm w) vs) K (WE W σ) hr I2.env0 (hb.to s2 ws I2.kIn hw) r2 h) fun r s' hq => ?_)
    cases r with
    | error e => exact passAt tk σ pins H2 s2 e s' I2 hq
    | ok fl =>
      cases fl with
      | ret u => exact I2.after hq
      | next => exact False.elim hq
      | brk => exact False.elim hq
      | cont => exact False.elim hq
  · exact h3.elim
/-! ### displays of dicts -/
def trD (Q : Env) (B : Tbl) (T : Tabl) (W : WX) : Ds → List (TE × TE)
  | .nil => []
  | .cons k v r => (tE Q B T W k, tE Q B T W v) :: trD Q B T W r
theorem snd_dnil {pos : Pos} : PPs X pos [] [] (trD Q B T W .nil) := pps_nil
theorem snd_dcons {pos : Pos} {k v : Expr} {ks : List (Option Expr)} {vs : List Expr} {a b : E} {r : Ds} (hk : PE X k (tR Q B T W a)) (hv : PE X v (tR Q B T W b)) (hr : PPs X pos ks vs (trD Q B T W r)) : PPs X pos (some k :: ks) (v :: vs) (trD Q B T W (.cons a b r)) := pps_cons (lockR hk) (lockR hv) hr
/-- pairs of values -/
inductive PrR (B : Tbl) (H : Hp) : List (V × V) → List PV → List PV → Prop
  | nil : PrR B H [] [] []
  | cons {c d : V} {x y : PV} {ps : List (V × V)} {xs ys : List PV} : Rp B H c x → Rp B H d y → PrR B H ps xs ys → PrR B H ((c, d) :: ps) (x :: xs) (y :: ys)
theorem snd_pairs : ∀ {d : Ds} {C : Fx} {sl : Sl} {H : Hp} {K : List (V × V) → Hp → Prop}, RelS B T C H σ sl → Kq B T W C σ H (fun H' _ (p : List PV × List PV) ps => PrR B H' ps p.1 p.2) K (evD Q d sl) → tPairs (trD Q B T W d) σ H K
  | .nil, C, sl, H, K, r, h => by
    rw [evD] at h
    exact h [] H (Keep.refl _) r .nil
  | .cons k v d, C, sl, H, K, r, h => by
    rw [evD] at h
    refine ⟨C, sl, r, h.bind.mono fun c H1 ⟨x, s1, r1, rx, k1, h1⟩ => ⟨C, s1, r1, h1.bind.mono fun e H2 ⟨y, s2, r2, ry, k2, h2⟩ => ?_⟩⟩
    refine snd_pairs (d := d) r2 (h2.bind.mono fun ps H3 ⟨p, s3, r3, rp, k3, h3⟩ => ?_)
    exact h3 ((c, e) :: ps) H3 (Keep.refl _) r3 (.cons (rx.keep (k2.trans k3)) (ry.keep k3) rp)
theorem key_rp {B : Tbl} {H : Hp} {c : V} {x : PV} (h : Rp B H c x) (hk : isKey x = true) : ∃ k : Key, keyP x = some k ∧ c = kV k := by
  cases x <;> first | (cases h; exact ⟨_, rfl, rfl⟩) | exact absurd hk (by simp [isKey])
theorem any_key {kvs : List (Key × V)} {ks vs : List PV} (h : KvP B H kvs ks vs) {x : PV} {k : Key} (hx : keyP x = some k) : (kvs.any fun kv => decide (kv.1 = k)) = ks.any fun y => keyEq y x := by
  induction kvs generalizing ks vs with
  | nil => cases h; rfl
  | cons p r ih => cases h with
    | cons h0 h1 h2 => rw [List.any_cons, List.any_cons, ih h2, keyEq_iff h0 hx]
theorem KvP.app {kvs : List (Key × V)} {ks vs : List PV} (h : KvP B H kvs ks vs) {x y : PV} {k : Key} {c : V} (hx : keyP x = some k) (hy : Rp B H c y) : KvP B H (kvs ++ [(k, c)]) (ks ++ [x]) (vs ++ [y]) := by
  induction kvs generalizing ks vs with
  | nil => cases h; exact .cons hx hy .nil
  | cons p r ih => cases h with
    | cons h0 h1 h2 => exact .cons h0 h1 (ih h2)
theorem KvP.len {kvs : List (Key × V)} {ks vs : List PV} (h : KvP B H kvs ks vs) : ks.length = vs.length ∧ kvs.length = ks.length := by
  induction kvs generalizing ks vs with
  | nil => cases h; exact ⟨rfl, rfl⟩
  | cons p r ih => cases h with
    | cons h0 h1 h2 => obtain ⟨a, b⟩ := ih h2; exact ⟨by simp [a], by simp [b]⟩
theorem KvP.set {x y : PV} {k : Key} {c : V} (hx : keyP x = some k) (hy : Rp B H c y) : ∀ {kvs : List (Key × V)} {ks vs : List PV}, KvP B H kvs ks vs → KvP B H (kvs.map fun kv => if kv.1 = k then (kv.1, c) else kv) ks (dset x y ks vs)
  | [], _, _, h => by cases h; exact .nil
  | (k', c') :: r, _, _, h => by
    cases h with
    | @cons _ _ x' y' _ ks vs h0 h1 h2 =>
    rw [List.map_cons]
    unfold dset
    by_cases e : k' = k
    · have e2 : keyEq x' x = true := by rw [keyEq_iff h0 hx]; exact decide_eq_true e
      rw [if_pos e, if_pos e2]
      exact .cons h0 hy (KvP.set hx hy h2)
    · have e2 : ¬ keyEq x' x = true := by rw [keyEq_iff h0 hx]; simpa using e
      rw [if_neg e, if_neg e2]
      exact .cons h0 h1 (KvP.set hx hy h2)
theorem KvP.put {x y : PV} {k : Key} {c : V} (hx : keyP x = some k) (hy : Rp B H c y) {kvs : List (Key × V)} {ks vs : List PV} (h : KvP B H kvs ks vs) : KvP B H (putK kvs k c) (dput x y ks vs).1 (dput x y ks vs).2 := by
  unfold putK dput
  rw [any_key h hx]
  split
  · exact h.set hx hy
  · exact h.app hx hy
theorem KvP.puts : ∀ {ps : List (V × V)} {xs ys : List PV} {kvs : List (Key × V)} {ks vs : List PV}, PrR B H ps xs ys → xs.all isKey = true → KvP B H kvs ks vs →
    ∃ more : List (Key × V), ps = more.map (fun kv => (kV kv.1, kv.2)) ∧ more.length = xs.length ∧ KvP B H (mergeK kvs more) (dputs xs ys (ks, vs)).1 (dputs xs ys (ks, vs)).2
  | [], _, _, kvs, ks, vs, h, _, hk => by
    cases h
    refine ⟨[], rfl, rfl, ?_⟩
    unfold dputs
    exact hk
  | p :: ps, _, _, kvs, ks, vs, h, ha, hk => by
    cases h with
    | @cons c d x y _ xs ys h1 h2 h3 =>
    have ha := (Bool.and_eq_true _ _).mp (List.all_cons ▸ ha)
    obtain ⟨k, hx, rfl⟩ := key_rp h1 ha.1
    obtain ⟨more, e1, e2, e3⟩ := KvP.puts h3 ha.2 (hk.put hx h2)
    refine ⟨(k, d) :: more, by rw [List.map_cons, e1], by simp [e2], ?_⟩
    unfold dputs
    exact e3
theorem snd_dic {d : Ds} {keys : List (Option Expr)} {values : List Expr} {pos : Pos} (h : PPs X pos keys values (trD Q B T W d)) (hall : keys.all (·.isSome) = true) (hl : keys.length = values.length) (h0 : keys ≠ []) (h15 : keys.length ≤ 15) : PE X (.Dict keys values pos) (tR Q B T W (.dic d)) := by
  refine PE.imp (pe_disp h hall hl h0 h15) fun σ H K hk => ?_
  obtain ⟨C, sl, r, hk⟩ := hk
  rw [evR] at hk
  intro p hp
  have g : Same H (upd H p (.dK [])) := same_upd hp
  obtain ⟨f1, f2, f3⟩ := r.fresh hp
  have r1 := (r.grow g).add (p := p) (o := .dK []) upd_same f2 f3
  have noT : NoT (HO.dK []) := fun _ z => nomatch z
  cases q : evD Q d sl with
  | bad => rw [q] at hk; exact hk.elim
  | err n e s1 =>
    rw [q] at hk
    refine snd_pairs r1 ?_
    rw [q]
    exact fun H' k r' => hk H' ((Keep.same g).trans k) (r'.unadd f1 f2 noT).1
  | ok pr s1 =>
    rw [q] at hk
    refine snd_pairs r1 ?_
    rw [q]
    intro ps H2 k r2 rp
    obtain ⟨r3, e3, n3⟩ := r2.unadd f1 f2 noT
    refine ⟨e3, ?_⟩
    have hk : Kq B T W C σ H (fun H' s' x c => RR B C H' σ s' c x) K (if pr.1.all isKey && decide (pr.1.length ≤ 15) then (let r := dputs pr.1 pr.2 ([], []); .ok (true, .dct r.1 r.2) s1) else .bad) := hk
    split at hk
    · rename_i hc
      have hc := ((Bool.and_eq_true _ _).mp hc).imp_right of_decide_eq_true
      obtain ⟨more, e1, e2, e4⟩ := KvP.puts rp hc.1 (KvP.nil (B := B))
      refine ⟨more, e1, by rw [e2]; exact hc.2, ?_⟩
      have iu : IsOwn (HO.dK []) := .dK
      have kp := keep_upd (o := .dK (mergeK [] more)) e3 iu
      -- a new thing that is written
      have r4 : RelS B T C (upd H2 p (.dK (mergeK [] more))) σ s1 := by
        refine ⟨r3.len, fun i v e => ?_, fun i v e => ?_, r3.ne, fun b o eb hb n => ?_, fun b hb => ?_, tabs_upd r3.tabs e3 iu⟩
        · obtain ⟨c, g1, g2⟩ := r3.fz i v e
          exact ⟨c, g1, g2.keep kp⟩
        · obtain ⟨z, g1, g2, g3⟩ := r3.ow i v e
          have : z ≠ p := fun z2 => n3 i v e (z2 ▸ g1)
          exact ⟨z, g1, g2.move kp (upd_ne this), g3⟩
        · have : b ≠ p := fun z => by subst z; exact f1 o eb n
          rw [upd_ne this]
          exact r3.kept b o eb hb n
        · rw [upd_ne (fun (z : b = p) => f2 (z ▸ hb))]
          exact r3.lin b hb
      exact hk (.ref p) _ ((Keep.same g).trans (k.trans kp)) r4 (show Fresh B C _ σ s1 (.ref p) _ from ⟨p, rfl, ⟨_, upd_same, e4.keep kp⟩, f1, f2, n3⟩)
    · exact hk.elim
end
end Pv

/-! PvSound11: statements. -/
namespace Pv
open PySem PyProof.Rows PySem.Spec L2
/-- what is kept from one state to the next: the slots ro hold the same -/
structure StepS (ro : List Nat) (σ : L2.St) (H : Hp) (σ' : L2.St) (H' : Hp) : Prop where
  keep : Keep H H'
  par : ∀ (i : Nat), ro.elem i = true → σ'[i]? = σ[i]?
theorem StepS.refl {ro : List Nat} {σ : L2.St} {H : Hp} : StepS ro σ H σ H := ⟨Keep.refl _, fun _ _ => rfl⟩
theorem StepS.trans {ro : List Nat} {σ σ1 σ2 : L2.St} {H H1 H2 : Hp} (a : StepS ro σ H σ1 H1) (b : StepS ro σ1 H1 σ2 H2) : StepS ro σ H σ2 H2 := ⟨a.keep.trans b.keep, fun i h => (b.par i h).trans (a.par i h)⟩
theorem StepS.of {ro : List Nat} {σ : L2.St} {H H1 : Hp} (k : Keep H H1) : StepS ro σ H σ H1 := ⟨k, fun _ _ => rfl⟩
def XKq (B : Tbl) (T : Tabl) (W : WX) (C : Fx) (ro : List Nat) (D : Ends) (σ : L2.St) (H : Hp) : XR → Prop
  | .next s => ∀ σ' H', StepS ro σ H σ' H' → RelS B T C H' σ' s → D.nx σ' H'
  | .brk s => ∀ σ' H', StepS ro σ H σ' H' → RelS B T C H' σ' s → D.bk σ' H'
  | .cont s => ∀ σ' H', StepS ro σ H σ' H' → RelS B T C H' σ' s → D.ct σ' H'
  | .ret v s => ∀ c σ' H', StepS ro σ H σ' H' → RelS B T C H' σ' s → RR B C H' σ' s c v → D.rt c H'
  | .err k d s => ∀ σ' H', StepS ro σ H σ' H' → RelS B T C H' σ' s → ErrOk B W σ' H' k d
  | .bad => False
def tS (Q : Env) (B : Tbl) (T : Tabl) (W : WX) (ro : List Nat) (st : S) : TS := fun D σ H => ∃ C s, RelS B T C H σ s ∧ XKq B T W C ro D σ H (exS Q ro st s)
def tSs (Q : Env) (B : Tbl) (T : Tabl) (W : WX) (ro : List Nat) (st : Ss) : TS := fun D σ H => ∃ C s, RelS B T C H σ s ∧ XKq B T W C ro D σ H (exSs Q ro st s)
section
variable {Q : Env} {B : Tbl} {T : Tabl} {W : WX} {C : Fx} {σ σ1 : L2.St} {s : Sl} {H H1 : Hp} {X : Cx} {ro : List Nat} {D D' : Ends} {α γ : Type}
theorem XKq.later {x : XR} (h : XKq B T W C ro D σ H x) (k : StepS ro σ H σ1 H1) : XKq B T W C ro D σ1 H1 x := by
  cases x with
  | next s => exact fun σ' H' k' r => h σ' H' (k.trans k') r
  | brk s => exact fun σ' H' k' r => h σ' H' (k.trans k') r
  | cont s => exact fun σ' H' k' r => h σ' H' (k.trans k') r
  | ret v s => exact fun c σ' H' k' r => h c σ' H' (k.trans k') r
  | err n d s => exact fun σ' H' k' r => h σ' H' (k.trans k') r
  | bad => exact h
theorem XKq.ofR {rel : Hp → Sl → α → γ → Prop} {x : R α} {f : α → Sl → XR} (h : XKq B T W C ro D σ H (ofR x f)) :
    Kq B T W C σ H rel (fun c H1 => ∃ a s1, RelS B T C H1 σ s1 ∧ rel H1 s1 a c ∧ Keep H H1 ∧ XKq B T W C ro D σ H1 (f a s1)) x := by
  cases x with
  | ok a s => exact fun c H' k r q => ⟨a, s, r, q, k, XKq.later (show XKq B T W C ro D σ H (f a s) from h) (.of k)⟩
  | err n d s => exact fun H' k r => h σ H' (.of k) r
  | bad => exact h
theorem XKq.ofO {x : Option α} {f : α → XR} (h : XKq B T W C ro D σ H (ofO x f)) : ∃ a, x = some a ∧ XKq B T W C ro D σ H (f a) := by
  cases x with
  | none => exact h.elim
  | some a => exact ⟨a, rfl, h⟩
theorem PS.imp {x : Stmt} {t t' : TS} (h : PS X x t) (hi : ∀ D σ H, t' D σ H → t D σ H) : PS X x t' := ⟨fun pins s σ H D I hk => h.run pins s σ H D I (hi D σ H hk)⟩
theorem PSs.imp {x : List Stmt} {t t' : TS} (h : PSs X x t) (hi : ∀ D σ H, t' D σ H → t D σ H) : PSs X x t' := ⟨fun pins s σ H D I hk => h.run pins s σ H D I (hi D σ H hk)⟩
/-! ### blocks -/
theorem snd_snil : PSs X [] (tSs Q B T W ro .nil) := PSs.imp pss_nil fun D σ H hk => by
  obtain ⟨C, sl, r, hk⟩ := hk
  rw [exSs] at hk
  exact hk σ H .refl r
theorem snd_scons {st : Stmt} {rest : List Stmt} {a : S} {b : Ss} (h1 : PS X st (tS Q B T W ro a)) (h2 : PSs X rest (tSs Q B T W ro b)) : PSs X (st :: rest) (tSs Q B T W ro (.cons a b)) := PSs.imp (pss_cons h1 h2) fun D σ H hk => by
  obtain ⟨C, sl, r, hk⟩ := hk
  rw [exSs] at hk
  refine ⟨C, sl, r, ?_⟩
  cases e : exS Q ro a sl with
  | next s1 => rw [e] at hk; exact fun σ' H' k r' => ⟨C, s1, r', XKq.later (show XKq B T W C ro D σ H (exSs Q ro b s1) from hk) k⟩
  | brk s1 => rw [e] at hk; exact hk
  | cont s1 => rw [e] at hk; exact hk
  | ret v s1 => rw [e] at hk; exact hk
  | err n d s1 => rw [e] at hk; exact hk
  | bad => rw [e] at hk; exact hk
/-- a docstring is nothing -/
theorem snd_doc {x : Str} {j : Option Nat} {pos pos' : Pos} {rest : List Stmt} {b : Ss} (h : PSs X rest (tSs Q B T W ro b)) {st : Stmt} (hd : PS X st tNext) : PSs X (st :: rest) (tSs Q B T W ro b) := PSs.imp (pss_cons hd h) fun D σ H hk => hk
theorem snd_sdead {st : Stmt} : PS X st (tS Q B T W ro .dead) := ⟨fun pins s σ H D I hk => by
  obtain ⟨C, sl, r, hk⟩ := hk
  rw [exS] at hk
  exact hk.elim⟩
theorem snd_pass {pos : Pos} : PS X (.Pass pos) (tS Q B T W ro .pass) := PS.imp ps_pass fun D σ H hk => by
  obtain ⟨C, sl, r, hk⟩ := hk
  rw [exS] at hk
  exact hk σ H .refl r
theorem snd_brk {pos : Pos} : PS X (.Break pos) (tS Q B T W ro .brk) := PS.imp ps_break fun D σ H hk => by
  obtain ⟨C, sl, r, hk⟩ := hk
  rw [exS] at hk
  exact hk σ H .refl r
theorem snd_cont {pos : Pos} : PS X (.Continue pos) (tS Q B T W ro .cont) := PS.imp ps_continue fun D σ H hk => by
  obtain ⟨C, sl, r, hk⟩ := hk
  rw [exS] at hk
  exact hk σ H .refl r
theorem snd_retN {pos : Pos} : PS X (.Return none pos) (tS Q B T W ro .retN) := PS.imp ps_retN fun D σ H hk => by
  obtain ⟨C, sl, r, hk⟩ := hk
  rw [exS] at hk
  exact hk .non σ H .refl r (show Rp B H .non .non from .non)
theorem snd_ret {e : E} {x : Expr} {pos : Pos} (h : PE X x (tR Q B T W e)) : PS X (.Return (some x) pos) (tS Q B T W ro (.ret e)) := PS.imp (ps_ret h) fun D σ H hk => by
  obtain ⟨C, sl, r, hk⟩ := hk
  rw [exS] at hk
  exact ⟨C, sl, r, hk.ofR.mono fun c H1 ⟨a, s1, r1, rr, k1, h1⟩ => h1 c σ H1 .refl r1 rr⟩
theorem snd_expr {e : E} {x : Expr} {pos : Pos} (h : PE X x (tR Q B T W e)) (hs : swapsWith x none pos.line X.env = pure false) : PS X (.Expr x pos) (tS Q B T W ro (.expr e)) := PS.imp (ps_expr h hs) fun D σ H hk => by
  obtain ⟨C, sl, r, hk⟩ := hk
  rw [exS] at hk
  exact ⟨C, sl, r, hk.ofR.mono fun c H1 ⟨a, s1, r1, rr, k1, h1⟩ => h1 σ H1 .refl r1⟩
theorem snd_if {t : Pv.T} {x : Expr} {as bs : List Stmt} {a b : Ss} {pos : Pos} (hc : PT X x (tT Q B T W t)) (ha : PSs X as (tSs Q B T W ro a)) (hb : PSs X bs (tSs Q B T W ro b)) : PS X (.If x as bs pos) (tS Q B T W ro (.if_ t a b)) := PS.imp (ps_if hc ha hb) fun D σ H hk => by
  obtain ⟨C, sl, r, hk⟩ := hk
  rw [exS] at hk
  refine ⟨C, sl, r, hk.ofR.mono fun k H1 ⟨k', s1, r1, e, k1, h1⟩ => ?_⟩
  subst e
  cases k' with
  | true => exact iteT ⟨C, s1, r1, h1⟩
  | false => exact iteF ⟨C, s1, r1, h1⟩
/-! ### stores -/
theorem setS_some {ro : List Nat} {s s' : Sl} {i : Nat} {v : SV} (h : setS ro s i v = some s') : s' = s.set i (some v) ∧ ro.elem i = false := by
  unfold setS at h
  split at h
  · cases h
  · rename_i hn
    cases h
    rw [Bool.or_eq_true] at hn
    refine ⟨rfl, ?_⟩
    cases q : ro.elem i with
    | false => rfl
    | true => exact absurd (.inl q) hn
theorem StepS.set {i : Nat} {x : Option V} (h : ro.elem i = false) : StepS ro σ H (σ.set i x) H := ⟨Keep.refl _, fun j hj => by
  rw [List.getElem?_set_ne (fun e => by subst e; rw [h] at hj; cases hj)]⟩
/-- name = value, whatever the value's reading -/
theorem asg_of {i : Nat} {e : E} {D : Ends} (hk : tS Q B T W ro (.asg i e) D σ H) : tAsg (tR Q B T W e) (gName i) D σ H := by
  obtain ⟨C, sl, r, hk⟩ := hk
  rw [exS] at hk
  refine ⟨C, sl, r, hk.ofR.mono fun c H1 ⟨a, s1, r1, rr, k1, h1⟩ => ?_⟩
  obtain ⟨s2, e2, h2⟩ := h1.ofO
  obtain ⟨rfl, hi⟩ := setS_some e2
  exact h2 (σ.set i (some c)) H1 (.set hi) (r1.store rr)
theorem snd_asg {i : Nat} {e : E} {x : Str} {y : Expr} {pos pos' : Pos} (hN : X.N.Nodup) (hi : X.N[i]? = some x) (hx : Loc X.env.scope x) (he : PE X y (tR Q B T W e)) (hs : swapsWith y (some (.Name x pos')) pos.line X.env = pure false) (hf : X.fn x = true ∨ X.env.scope.names.lookup x = some .local) :
    PS X (.Assign [.Name x pos'] y pos) (tS Q B T W ro (.asg i e)) := PS.imp (ps_set hN hi hx he hs hf) fun D σ H hk => asg_of hk
/-- names in a row -/
def gAll : List Nat → TGs
  | [] => gNil
  | i :: r => gCons (gName i) (gAll r)
def gTg (K : PySem.W.Frag) : Tg → TG
  | .nm i => gName i
  | .tp is => gTup K is.length (gAll is)
theorem gAll_set {K : L2.St → Hp → Prop} : ∀ {is : List Nat} {vs : List V} {xs : List PV} {σ : L2.St} {s s' : Sl}, Rps B H vs xs → setAll ro s is xs = some s' → RelS B T C H σ s → (∀ σ', StepS ro σ H σ' H → RelS B T C H σ' s' → K σ' H) → gAll is vs σ H K
  | [], vs, xs, σ, s, s', h, e, r, q => by
    cases xs with
    | nil => cases h; cases e; exact ⟨rfl, q σ .refl r⟩
    | cons x xs => cases e
  | i :: is, vs, xs, σ, s, s', h, e, r, q => by
    cases xs with
    | nil => cases e
    | cons x xs =>
      cases h with
      | @cons c _ cs _ h1 h2 =>
      unfold setAll at e
      obtain ⟨s1, e1, e⟩ := Option.bind_eq_some_iff.mp e
      obtain ⟨rfl, hi⟩ := setS_some e1
      have r1 := r.store (i := i) (c := c) (x := (false, x)) h1
      exact ⟨c, cs, rfl, gAll_set (is := is) h2 e r1 fun σ' k r' => q σ' ((StepS.set hi).trans k) r'⟩
theorem setAll_len : ∀ {is : List Nat} {xs : List PV} {s s' : Sl}, setAll ro s is xs = some s' → is.length = xs.length
  | [], [], _, _, _ => rfl
  | [], _ :: _, _, _, h => by cases h
  | _ :: _, [], _, _, h => by cases h
  | i :: is, x :: xs, s, s', h => by
    unfold setAll at h
    obtain ⟨s1, _, h⟩ := Option.bind_eq_some_iff.mp h
    simp [setAll_len h]
theorem gTg_set (hK : B.K = X.K) {t : Tg} {c : V} {x : PV} {s' : Sl} {K : L2.St → Hp → Prop} (h : Rp B H c x) (e : tgSet ro s t x = some s') (r : RelS B T C H σ s) (q : ∀ σ', StepS ro σ H σ' H → RelS B T C H σ' s' → K σ' H) : gTg X.K t c σ H K := by
  cases t with
  | nm i =>
    obtain ⟨rfl, hi⟩ := setS_some (show setS ro s i (.fz x) = some s' from e)
    exact q _ (.set hi) (r.store (x := (false, x)) h)
  | tp is =>
    cases x with
    | tup vs =>
      have e : setAll ro s is vs = some s' := e
      cases h with
      | @tup p cs _ h1 h2 => exact ⟨p, cs, rfl, hK ▸ h1, by rw [h2.length, setAll_len e], gAll_set h2 e r q⟩
    | _ => cases e
theorem snd_asgT {is : List Nat} {e : E} {y tg : Expr} {pos : Pos} (hK : B.K = X.K) (he : PE X y (tR Q B T W e)) (hg : PG X tg (gTup X.K is.length (gAll is))) (hs : swapsWithSole [tg] y pos.line X.env = pure false) (hw : swappedStores [tg] y X.env = pure none)
    (h1 : (assignEach [tg] X.env).map (·.2) = [assign tg X.env]) : PS X (.Assign [tg] y pos) (tS Q B T W ro (.asgT is e)) := PS.imp (ps_asg (lockR he) hg hs hw h1) fun D σ H hk => by
  obtain ⟨C, sl, r, hk⟩ := hk
  rw [exS] at hk
  refine ⟨C, sl, r, hk.ofR.mono fun c H1 ⟨a, s1, r1, rr, k1, h1⟩ => ?_⟩
  have rr : Rp B H1 c a.2 := rr
  split at h1
  · rename_i vs ev
    rw [ev] at rr
    obtain ⟨s2, e2, h2⟩ := h1.ofO
    exact gTg_set (t := .tp is) hK rr e2 r1 fun σ' k r' => h2 σ' H1 k r'
  · exact h1.elim
theorem snd_raise {k : Nat} {A : Addr} {bm : List Value} {Bs newId initId : String} {x m : Str} {j : Nat} {p p2 pos pos' : Pos} (hc : X.calm = true) (tk : Takes X W) (F : ExcBaseFacts Bs newId initId bm) (q : PySem.W.excIn X.K A bm newId = true) (gC : X.mg x = some (.ref A)) (kC : PySem.W.keepIn X.K (.ref A) = true) (r : Raises X (.ref A)) (hg : Gl X x)
    (hA : B.clA k = some A) (hdb : (x == ("__debug__" : Str)) = false := by decide) : PS X (.Raise (some (.Call (.Name x p) [.Constant (.str m) j p2] [] pos)) none pos') (tS Q B T W ro (.raise k)) := PS.imp (ps_raise hc tk (pmk_own F q gC kC r hg hdb)) fun D σ H hk => by
  obtain ⟨C, sl, r, hk⟩ := hk
  rw [exS] at hk
  obtain ⟨_, D', h1, h2⟩ := hk σ H .refl r
  rw [hA] at h1
  cases h1
  exact h2
end
end Pv

/-! PvSound12: names stored together; append, extend, o[i] = v. -/
namespace Pv
open PySem PyProof.Rows PySem.Spec L2
/-- values side by side; new things apart -/
inductive FvR (B : Tbl) (C : Fx) (σ : L2.St) (s : Sl) (H : Hp) : List FV → List V → Prop
  | nil : FvR B C σ s H [] []
  | cons {x : FV} {c : V} {xs : List FV} {cs : List V} : RR B C H σ s c x → (x.1 = true → ∀ (j : Nat) (v : PV), xs[j]? = some (true, v) → cs[j]? ≠ some c) → FvR B C σ s H xs cs → FvR B C σ s H (x :: xs) (c :: cs)
theorem FvR.len {B : Tbl} {C : Fx} {σ : L2.St} {s : Sl} {H : Hp} {xs : List FV} {cs : List V} (h : FvR B C σ s H xs cs) : cs.length = xs.length := by
  induction h with
  | nil => rfl
  | cons _ _ _ ih => simp [ih]
theorem FvR.at {B : Tbl} {C : Fx} {σ : L2.St} {s : Sl} {H : Hp} {xs : List FV} {cs : List V} (h : FvR B C σ s H xs cs) {j : Nat} {x : FV} {c : V} (e : xs[j]? = some x) (e2 : cs[j]? = some c) : RR B C H σ s c x := by
  induction h generalizing j with
  | nil => simp at e
  | cons h1 _ _ ih =>
    cases j with
    | zero => simp at e e2; subst e; subst e2; exact h1
    | succ j => exact ih (by simpa using e) (by simpa using e2)
theorem FvR.of {B : Tbl} {C C' : Fx} {σ σ' : L2.St} {s s' : Sl} {H H' : Hp} {xs : List FV} {cs : List V} (h : FvR B C σ s H xs cs) (q : ∀ (j : Nat) (x : FV) (c : V), xs[j]? = some x → cs[j]? = some c → RR B C H σ s c x → RR B C' H' σ' s' c x) : FvR B C' σ' s' H' xs cs := by
  induction h with
  | nil => exact .nil
  | cons h1 h2 _ ih => exact .cons (q 0 _ _ rfl rfl h1) h2 (ih fun j x c e1 e2 => q (j + 1) x c (by simpa using e1) (by simpa using e2))
theorem RR.same {B : Tbl} {C : Fx} {σ : L2.St} {s : Sl} {H H' : Hp} {c : V} {x : FV} (h : RR B C H σ s c x) (g : Same H H') : RR B C H' σ s c x := by
  obtain ⟨fl, v⟩ := x
  cases fl with
  | false => exact Rp.keep (.same g) (show Rp B H c v from h)
  | true =>
    obtain ⟨p, e, hc, h0, hl, hn⟩ := (show Fresh B C H σ s c v from h).ex
    obtain ⟨u, hu, iu⟩ := hc.some
    exact (show Fresh B C H' σ s c v from ⟨p, e, hc.move (.same g) (by rw [hu]; exact g _ _ hu), h0, hl, hn⟩)
def tFs (Q : Env) (B : Tbl) (T : Tabl) (W : WX) (es : Es) : TA := fun σ H K => ∃ C s, RelS B T C H σ s ∧ Kq B T W C σ H (fun H' s' xs cs => FvR B C σ s' H' xs cs) K (evFs Q es s)
section
variable {Q : Env} {B : Tbl} {T : Tabl} {W : WX} {C : Fx} {σ σ1 : L2.St} {s : Sl} {H H1 : Hp} {X : Cx} {ro : List Nat} {D D' : Ends}
theorem snd_fnil : PA X [] (tFs Q B T W .nil) := ⟨fun pos pins s σ H K I hk => by
  obtain ⟨C, sl, r, hk⟩ := hk
  rw [evFs] at hk
  exact pa_nil.run pos pins s σ H K I (hk [] H (Keep.refl _) r .nil)⟩
theorem snd_fcons {e : E} {es : Es} {x : Expr} {xs : List Expr} (he : PE X x (tR Q B T W e)) (hr : PA X xs (tFs Q B T W es)) (hs : starEach (x :: xs) X.env = (false, eval x X.env) :: starEach xs X.env) : PA X (x :: xs) (tFs Q B T W (.cons e es)) := by
  refine PA.imp (pa_cons he hr hs) fun σ H K hk => ?_
  obtain ⟨C, sl, r, hk⟩ := hk
  rw [evFs] at hk
  refine ⟨C, sl, r, hk.bind.mono fun c H1 ⟨z, s1, r1, rz, k1, h1⟩ => ?_⟩
  obtain ⟨fl, v⟩ := z
  cases fl with
  | false =>
    refine ⟨C, s1, r1, h1.bind.mono fun cs H2 ⟨zs, s2, r2, e2, k2, h2⟩ => ?_⟩
    exact h2 (c :: cs) H2 (Keep.refl _) r2 (.cons (Rp.keep k2 (show Rp B H1 c v from rz)) (fun z => nomatch z) e2)
  | true =>
    obtain ⟨p, rfl, hc, h0, hl, hn⟩ := (show Fresh B C H1 σ s1 c v from rz).ex
    obtain ⟨u, hu, iu⟩ := hc.some
    refine ⟨C.add p u, s1, r1.add hu hl hn, ?_⟩
    have key : ∀ (q : Addr), New0 (C.add p u).H0 q → q ≠ p := fun q h z => by
      subst z
      exact h u upd_same iu.tbl
    cases q : evFs Q es s1 with
    | bad => rw [q] at h1; exact h1
    | err n d s2 =>
      rw [q] at h1
      exact fun H' k r' => h1 H' k (r'.unadd h0 hl iu.tbl).1
    | ok zs s2 =>
      rw [q] at h1
      intro cs H' k r' fv
      obtain ⟨r3, e3, n3⟩ := r'.unadd h0 hl iu.tbl
      refine h1 (.ref p :: cs) H' k r3 (.cons (show Fresh B C H' σ s2 (.ref p) v from ⟨p, rfl, hc.move k (by rw [e3, hu]), h0, hl, n3⟩) (fun _ j w ej ec => ?_) (fv.of fun j x c ej ec h => ?_))
      · obtain ⟨p', e', _, h0', _⟩ := (show Fresh B (C.add p u) H' σ s2 (.ref p) w from fv.at ej ec).ex
        cases e'
        exact key p h0' rfl
      · obtain ⟨fl, w⟩ := x
        cases fl with
        | false => exact h
        | true =>
          obtain ⟨q, e', hc', h0', hl', hn'⟩ := (show Fresh B (C.add p u) H' σ s2 c w from h).ex
          have nq := key q h0'
          refine (show Fresh B C H' σ s2 c w from ⟨q, e', hc', fun o eo no => h0' o ?_ no, hl', hn'⟩)
          show upd C.H0 p u q = some o
          rw [upd_ne nq]
          exact eo
theorem FvR.store {xs : List FV} {cs : List V} {x : FV} {c : V} {i : Nat} (h : FvR B C σ s H xs cs) (hx : RR B C H σ s c x) (hd : x.1 = true → ∀ (j : Nat) (v : PV), xs[j]? = some (true, v) → cs[j]? ≠ some c) : FvR B C (σ.set i (some c)) (s.set i (some (mkSV x))) H xs cs := by
  refine h.of fun j y d ej ed hy => ?_
  obtain ⟨fl, w⟩ := y
  cases fl with
  | false => exact hy
  | true =>
    obtain ⟨q, rfl, hc', h0', hl', hn'⟩ := (show Fresh B C H σ s d w from hy).ex
    refine (show Fresh B C H _ _ (.ref q) w from ⟨q, rfl, hc', h0', hl', fun n z en eσ => ?_⟩)
    rcases set_at en with ⟨rfl, ez⟩ | ⟨hne, ez⟩
    · obtain ⟨fx, vx⟩ := x
      cases fx with
      | false => cases ez
      | true =>
        rcases set_at eσ with ⟨_, e2⟩ | ⟨hne, _⟩
        · cases e2
          exact hd rfl j w ej ed
        · exact hne rfl
    · rcases set_at eσ with ⟨e1, _⟩ | ⟨_, e2⟩
      · exact hne e1
      · exact hn' n z ez e2
theorem gAll_setF {K : L2.St → Hp → Prop} : ∀ {is : List Nat} {vs : List V} {xs : List FV} {σ : L2.St} {s s' : Sl}, FvR B C σ s H xs vs → setFs ro s is xs = some s' → RelS B T C H σ s → (∀ σ', StepS ro σ H σ' H → RelS B T C H σ' s' → K σ' H) → gAll is vs σ H K
  | [], vs, xs, σ, s, s', h, e, r, q => by
    cases xs with
    | nil => cases h; cases e; exact ⟨rfl, q σ .refl r⟩
    | cons x xs => cases e
  | i :: is, vs, xs, σ, s, s', h, e, r, q => by
    cases xs with
    | nil => cases e
    | cons x xs =>
      cases h with
      | @cons _ c _ cs h1 h2 h3 =>
      unfold setFs at e
      obtain ⟨s1, e1, e⟩ := Option.bind_eq_some_iff.mp e
      obtain ⟨rfl, hi⟩ := setS_some e1
      exact ⟨c, cs, rfl, gAll_setF (is := is) (h3.store h1 h2) e (r.store h1) fun σ' k r' => q σ' ((StepS.set hi).trans k) r'⟩
theorem setFs_len : ∀ {is : List Nat} {xs : List FV} {s s' : Sl}, setFs ro s is xs = some s' → is.length = xs.length
  | [], [], _, _, _ => rfl
  | [], _ :: _, _, _, h => by cases h
  | _ :: _, [], _, _, h => by cases h
  | i :: is, x :: xs, s, s', h => by
    unfold setFs at h
    obtain ⟨s1, _, h⟩ := Option.bind_eq_some_iff.mp h
    simp [setFs_len h]
/-- two plain local names at once -/
theorem snd_par2 {i j : Nat} {es : Es} {x y : Str} {a b : Expr} {px py pt pos : Pos} {kt k2 : Nat} {pt2 : Pos} (hc : X.calm = true) (hN : X.N.Nodup) (hi : X.N[i]? = some x) (hj : X.N[j]? = some y) (hij : i ≠ j)
    (hx : X.env.scope.names.lookup x = some .local) (hy : X.env.scope.names.lookup y = some .local) (ha : PA X [a, b] (tFs Q B T W es))
    (hw : swappedStores [.Tuple [.Name x px, .Name y py] kt pt] (.Tuple [a, b] k2 pt2) X.env = pure (some [x, y])) (hs : swapsWithSole [.Tuple [.Name x px, .Name y py] kt pt] (.Tuple [a, b] k2 pt2) pos.line X.env = pure false) :
    PS X (.Assign [.Tuple [.Name x px, .Name y py] kt pt] (.Tuple [a, b] k2 pt2) pos) (tS Q B T W ro (.par [i, j] es)) := PS.imp (ps_par hc hN hi hj hij hx hy ha hw hs) fun D σ H hk => by
  obtain ⟨C, sl, r, hk⟩ := hk
  rw [exS] at hk
  refine ⟨C, sl, r, hk.ofR.mono fun cs H1 ⟨xs, s1, r1, fv, k1, h1⟩ => ?_⟩
  split at h1
  · obtain ⟨s2, e2, h2⟩ := h1.ofO
    obtain ⟨c, r', rfl, d, r'', rfl, rfl, q⟩ := gAll_setF (K := D.nx) fv e2 r1 fun σ' k r' => h2 σ' H1 k r'
    exact ⟨c, d, rfl, q⟩
  · exact h1.elim
/-- names at once by a tuple -/
theorem snd_parT {is : List Nat} {es : Es} {ts as : List Expr} {kt k2 : Nat} {pt pt2 pos : Pos} (hK : B.K = X.K) (ha : PA X as (tFs Q B T W es)) (hg : PG X (.Tuple ts kt pt) (gTup X.K is.length (gAll is)))
    (hs : swapsWithSole [.Tuple ts kt pt] (.Tuple as k2 pt2) pos.line X.env = pure false) (hw : swappedStores [.Tuple ts kt pt] (.Tuple as k2 pt2) X.env = pure none)
    (h1 : (assignEach [.Tuple ts kt pt] X.env).map (·.2) = [assign (.Tuple ts kt pt) X.env]) (hz : is.length ≤ sizeLine) : PS X (.Assign [.Tuple ts kt pt] (.Tuple as k2 pt2) pos) (tS Q B T W ro (.par is es)) := PS.imp (ps_asg (pe_tup ha) hg hs hw h1) fun D σ H hk => by
  obtain ⟨C, sl, r, hk⟩ := hk
  rw [exS] at hk
  refine ⟨C, sl, r, hk.ofR.mono fun cs H1 ⟨xs, s1, r1, fv, k1, h1⟩ => ?_⟩
  split at h1
  · obtain ⟨s2, e2, h2⟩ := h1.ofO
    have hl : cs.length = is.length := by rw [fv.len, setFs_len e2]
    refine ⟨by rw [hl]; exact hz, fun p hp => ?_⟩
    have g := same_upd (o := .tup cs) hp
    refine ⟨p, cs, rfl, .inl (.inl upd_same), hl, ?_⟩
    exact gAll_setF (fv.of fun j x c _ _ h => h.same g) e2 (r1.grow g) fun σ' k r' => h2 σ' _ ((StepS.of (.same g)).trans k) r'
  · exact h1.elim
/-! ### append, extend -/
theorem tyV_list {p : Addr} {vs : List V} (h : H p = some (.lst vs)) : tyV X.K "list" (.ref p) H := .inl ⟨rfl, _, .inl (.inl h)⟩
theorem mt_ext' : MtR X "list.extend" (fun x vs H K => ∃ l b xs zs, x = .ref l ∧ vs = [.ref b] ∧ H l = some (.lst xs) ∧ L2.Rd H b (.lst zs) ∧ xs.length + zs.length ≤ sizeLine ∧ K .non (upd H l (.lst (xs ++ zs)))) := by
  intro pins s σ H x vs v us K I rx rv h
  obtain ⟨lst, other, xs, zs, rfl, rfl, mine, its, fits, k⟩ := h
  obtain ⟨arg, rfl, hv⟩ := rv.one
  cases hv
  cases rx
  obtain ⟨_, us, n, r, eq1, at1⟩ := I.lstM mine
  obtain ⟨_, ws, m, r', eq2, at2⟩ := lst_at I its
  have sz : us.toArray.size = xs.length ∧ ws.toArray.size = zs.length := ⟨eq1.symm, eq2.symm⟩
  have now : EP X pins σ K .none { s with heap := s.heap.update lst (Obj.mapSeq fun a => a ++ ws.toArray) } := by
    refine ⟨.non, _, ?_, rfl, k⟩
    refine I.lset (t' := s.toks) (its' := us ++ ws) (f := fun a => a ++ ws.toArray) mine at1 (List.append_toArray us ws) (r.append r') ?_
    rwa [List.length_append]
  have door := PyProof.Rows.extend_door (a := us.toArray) (b := ws.toArray) (by omega)
  have fitting := AutoSeq1.list_extend_list_list_0 lst us.toArray n other ws.toArray m door (by omega) (by omega)
  exact call_meets F.slot_list_extend ⟨_, at1, rfl⟩ F.entry_list_extend (F.args_list_extend_2 _ _) fitting ⟨at1, at2, now⟩
theorem snd_app {i : Nat} {e : E} {o a : Expr} {apos cpos pos : Pos} (ho : PE X o (tVar i)) (ha : PE X a (tR Q B T W e)) (hs : starEach [a] X.env = (false, eval a X.env) :: starEach [] X.env)
    (hx : ∀ {r : V → List V → Hp → VK → Prop} {t : TA} {to : TE}, MtR X "list.append" r → PE X o to → PA X [a] t → PE X (.Call (.Attribute o "append" apos) [a] [] cpos) (tBM X.K "list" r to t)) (hsw : swapsWith (.Call (.Attribute o "append" apos) [a] [] cpos) none pos.line X.env = pure false) :
    PS X (.Expr (.Call (.Attribute o "append" apos) [a] [] cpos) pos) (tS Q B T W ro (.app i e)) := PS.imp (ps_expr (hx mt_append ho (pa_cons (lockR ha) pa_nil hs)) hsw) fun D σ H hk => by
  obtain ⟨C, sl, r, hk⟩ := hk
  rw [exS] at hk
  split at hk
  · rename_i xs0 e0
    obtain ⟨p, hp, ⟨vs0, hc0, _⟩, _⟩ := r.ow i _ e0
    refine ⟨.ref p, hp, tyV_list hc0, C, sl, r, hk.ofR.mono fun c H1 ⟨x, s1, r1, rx, k1, h1⟩ => ?_⟩
    split at h1
    · rename_i xs e1
      split at h1
      · rename_i hz
        obtain ⟨p', hp', ⟨vs, hc, hrs⟩, _⟩ := r1.ow i _ e1
        rw [hp] at hp'; cases hp'
        have rx : Rp B H1 c x.2 := rx
        have w := r1.write (v' := .lst (xs ++ [x.2])) (o := .lst (vs ++ [c])) e1 hp ⟨vs ++ [c], upd_same, (hrs.app (.cons rx .nil)).keep (keep_upd hc .lst)⟩
        exact ⟨p, vs, c, rfl, rfl, hc, by rw [hrs.length, ← line_eq]; exact hz, h1 σ _ (.of w.2) w.1⟩
      · exact h1.elim
    · exact h1.elim
  · exact hk.elim
theorem snd_ext {i : Nat} {e : E} {o a : Expr} {apos cpos pos : Pos} (ho : PE X o (tVar i)) (ha : PE X a (tR Q B T W e)) (hs : starEach [a] X.env = (false, eval a X.env) :: starEach [] X.env)
    (hx : ∀ {r : V → List V → Hp → VK → Prop} {t : TA} {to : TE}, MtR X "list.extend" r → PE X o to → PA X [a] t → PE X (.Call (.Attribute o "extend" apos) [a] [] cpos) (tBM X.K "list" r to t)) (hsw : swapsWith (.Call (.Attribute o "extend" apos) [a] [] cpos) none pos.line X.env = pure false) :
    PS X (.Expr (.Call (.Attribute o "extend" apos) [a] [] cpos) pos) (tS Q B T W ro (.ext i e)) := PS.imp (ps_expr (hx mt_ext' ho (pa_cons (lockR ha) pa_nil hs)) hsw) fun D σ H hk => by
  obtain ⟨C, sl, r, hk⟩ := hk
  rw [exS] at hk
  split at hk
  · rename_i xs0 e0
    obtain ⟨p, hp, ⟨vs0, hc0, _⟩, _⟩ := r.ow i _ e0
    refine ⟨.ref p, hp, tyV_list hc0, C, sl, r, hk.ofR.mono fun c H1 ⟨x, s1, r1, rx, k1, h1⟩ => ?_⟩
    split at h1
    · rename_i xs ys e1 ex
      split at h1
      · rename_i hz
        obtain ⟨p', hp', ⟨vs, hc, hrs⟩, _⟩ := r1.ow i _ e1
        rw [hp] at hp'; cases hp'
        have rx : Rp B H1 c x.2 := rx
        rw [ex] at rx
        obtain ⟨b, zs, rfl, hb, hzs⟩ := (Rn.of rx).lst
        have w := r1.write (v' := .lst (xs ++ ys)) (o := .lst (vs ++ zs)) e1 hp ⟨vs ++ zs, upd_same, (hrs.app hzs).keep (keep_upd hc .lst)⟩
        exact ⟨p, b, vs, zs, rfl, rfl, hc, hb, by rw [hrs.length, hzs.length, ← line_eq]; exact hz, h1 σ _ (.of w.2) w.1⟩
      · exact h1.elim
    · exact h1.elim
  · exact hk.elim
/-! ### o[i] = v -/
theorem set_any (hu : X.A.units + 1 < cLine) : PSet X (fun o i v H K => ∃ a H', o = .ref a ∧ ((∃ kvs k, H a = some (.dK kvs) ∧ i = kV k ∧ kvs.length < sizeLine ∧ H' = upd H a (.dK (putK kvs k v))) ∨ ∃ xs k j, i = .int k ∧ H a = some (.lst xs) ∧ ixN xs.length k = some j ∧ H' = upd H a (.lst (xs.set j v))) ∧ K H') := by
  intro pins s σ H o i v ov iv u K I ro ri rv h
  obtain ⟨a, H', rfl, h | h, q⟩ := h
  · obtain rfl : ov = Value.ref a := ro
    exact d_setItem hu I (.inl h) ri rv fun s' I' => ⟨H', I', q⟩
  · obtain ⟨xs, k, j, rfl, h1, h2, rfl⟩ := h
    exact set_list pins s σ H _ _ v ov iv u K I ro ri rv ⟨a, xs, k, j, rfl, rfl, h1, h2, q⟩
theorem snd_put {i : Nat} {k v : E} {o x y : Expr} {pos p1 : Pos} (hu : X.A.units + 1 < cLine) (ho : PE X o (tVar i)) (hk : PE X x (tR Q B T W k)) (hv : PE X y (tR Q B T W v))
    (hg : ∀ {to ti : TE} {t : TSet}, PE X o to → PE X x ti → PSet X t → PG X (.Subscript o x p1) (gSub to ti t)) (hs : swapsWithSole [.Subscript o x p1] y pos.line X.env = pure false) (hw : swappedStores [.Subscript o x p1] y X.env = pure none)
    (h1 : (assignEach [.Subscript o x p1] X.env).map (·.2) = [assign (.Subscript o x p1) X.env]) : PS X (.Assign [.Subscript o x p1] y pos) (tS Q B T W ro (.put i k v)) := PS.imp (ps_asg (lockR hv) (hg ho (lockR hk) (set_any hu)) hs hw h1) fun D σ H hk => by
  obtain ⟨C, sl, r, hk⟩ := hk
  rw [exS] at hk
  refine ⟨C, sl, r, hk.ofR.mono fun c H1 ⟨y', s1, r1, ry, k1, h1⟩ => ?_⟩
  have ry : Rp B H1 c y'.2 := ry
  split at h1
  · exact h1.elim
  · rename_i v0 e0
    obtain ⟨d, hd⟩ := r1.slot e0
    refine ⟨d, hd, C, s1, r1, h1.ofR.mono fun c2 H2 ⟨x', s2, r2, rx, k2, h2⟩ => ?_⟩
    have rx : Rp B H2 c2 x'.2 := rx
    have ry2 := ry.keep k2
    split at h2
    · rename_i ks vs e2
      split at h2
      · rename_i hcn
        rw [Bool.and_eq_true, decide_eq_true_eq] at hcn
        obtain ⟨p, hp, ⟨kvs, hc, hrs⟩, _⟩ := r2.ow i _ e2
        rw [hd] at hp; cases hp
        obtain ⟨key, hkey, rfl⟩ := key_rp rx hcn.1
        have w := r2.write (v' := .dct (dput x'.2 y'.2 ks vs).1 (dput x'.2 y'.2 ks vs).2) (o := .dK (putK kvs key c)) e2 hd ⟨_, upd_same, (hrs.put hkey ry2).keep (keep_upd hc .dK)⟩
        exact ⟨p, _, rfl, .inl ⟨kvs, key, hc, rfl, by rw [hrs.len.2, ← line_eq]; exact hcn.2, rfl⟩, h2 σ _ (.of w.2) w.1⟩
      · exact h2.elim
    · rename_i xs e2
      split at h2
      · rename_i n en
        obtain ⟨m, em, h2⟩ := h2.ofO
        obtain ⟨p, hp, ⟨vs, hc, hrs⟩, _⟩ := r2.ow i _ e2
        rw [hd] at hp; cases hp
        rw [en] at rx
        cases rx
        have w := r2.write (v' := .lst (xs.set m y'.2)) (o := .lst (vs.set m c)) e2 hd ⟨_, upd_same, (hrs.set ry2 m).keep (keep_upd hc .lst)⟩
        exact ⟨p, _, rfl, .inr ⟨vs, n, m, rfl, hc, by rw [hrs.length, ← ixAt_eq]; exact em, rfl⟩, h2 σ _ (.of w.2) w.1⟩
      · exact h2.elim
    · exact h2.elim
end
end Pv

/-! PvSound13: what is walked: lists, tuples, texts, ranges; zip and enumerate of them. -/
namespace Pv
open PySem PyProof.Rows PySem.Spec L2
/-- a thing that is walked -/
inductive SK where
  | lst (a : Addr) | tup (a : Addr) | str (x : Str) (t : Tok)
def SK.st : SK → Addr → Nat → Heap → Prop
  | .lst a, it, i, h => h.IsListIter it a i
  | .tup a, it, i, h => h.IsTupleIter it a i
  | .str x t, it, i, h => h.IsStrIter it (strIterType x) x t i
def SK.has : SK → List Value → Heap → Prop
  | .lst a, its, h => h.IsList a its.toArray
  | .tup a, its, h => h.IsTuple a its.toArray
  | .str _ _, _, _ => True
def SK.n : SK → List Value → Nat
  | .lst _, its => its.toArray.size
  | .tup _, its => its.toArray.size
  | .str x _, _ => x.cps.size
def SK.P : SK → List Value → Nat → Value → Prop
  | .lst _, its, i, v => its.toArray[i]? = some v
  | .tup _, its, i, v => its.toArray[i]? = some v
  | .str x _, _, i, v => ∃ c u, x.cps[i]? = some c ∧ v = .str ⟨#[c]⟩ u
def SK.fp : SK → List Addr
  | .lst a => [a]
  | .tup a => [a]
  | .str _ _ => []
def SK.obj : SK → Obj
  | .lst a => { cls := .type "list_iterator", data := .fields #[.ref a, .int 0 0] }
  | .tup a => { cls := .type "tuple_iterator", data := .fields #[.ref a, .int 0 0] }
  | .str x t => { cls := .type (strIterType x), data := .fields #[.str x t, .int 0 0] }
def SK.val : SK → Value
  | .lst a => .ref a
  | .tup a => .ref a
  | .str x t => .str x t
/-- its items, in the abstract heap -/
def SK.stands (K : PySem.W.Frag) (H : Hp) (vs : List V) : SK → Prop
  | .lst a => SqL K H a vs
  | .tup a => SqT K H a vs
  | .str x _ => vs = x.cps.toList.map fun c => V.str ⟨#[c]⟩
theorem SK.st_keep {k : SK} {it : Addr} {i : Nat} {h h' : Heap} (s : k.st it i h) (q : ∀ o, h.get? it = some o → h'.get? it = some o) : k.st it i h' := by
  cases k with
  | lst a => exact Heap.IsListIter.at s q
  | tup a => exact Heap.IsTupleIter.at s q
  | str x t => obtain ⟨o, ho, r⟩ := s; exact ⟨o, q o ho, r⟩
theorem SK.st_obj {k : SK} {it : Addr} {i : Nat} {h : Heap} (s : k.st it i h) : ∃ o, h.get? it = some o ∧ ∀ v, o.data ≠ .cell v := by
  cases k with
  | lst a => obtain ⟨o, e, c, d⟩ := s; exact ⟨o, e, fun v z => by rw [d] at z; cases z⟩
  | tup a => obtain ⟨o, e, c, d⟩ := s; exact ⟨o, e, fun v z => by rw [d] at z; cases z⟩
  | str x t => obtain ⟨o, e, c, d⟩ := s; exact ⟨o, e, fun v z => by rw [d] at z; cases z⟩
theorem SK.draws {prog : Program} {w : World} {A : Around} (hh : A.handled = none) (k : SK) (it : Addr) (hne : it ∉ k.fp) (its : List Value) : Draws prog w A it (it :: k.fp) (k.n its) (k.P its) (fun i h => k.st it i h ∧ k.has its h) := by
  cases k with
  | lst a => exact .list hh it a (fun e => hne (by simp [SK.fp, e])) its.toArray
  | tup a => exact .tuple hh it a (fun e => hne (by simp [SK.fp, e])) its.toArray
  | str x t =>
    have D := Draws.text (prog := prog) (w := w) hh it x t
    exact ⟨fun i h s => D.live i h s.1, fun i h h' s q => ⟨D.frame i h h' s.1 q, trivial⟩, fun i s Q E hi st hQ => D.item i s Q E hi st.1 fun x h' tk p q r => hQ x h' tk p ⟨q, trivial⟩ r, fun s Q E st h => D.done s Q E st.1 h⟩
theorem SK.begins (k : SK) (its : List Value) : Begins k.val k.obj (k.has its) := by
  cases k with
  | lst a => exact begins_list a its.toArray
  | tup a => exact begins_tuple a its.toArray
  | str x t => exact begins_text x t
theorem SK.start (k : SK) {h : Heap} {it : Addr} (e : h.get? it = some k.obj) : k.st it 0 h := by
  cases k with
  | lst a => exact ⟨_, e, rfl, rfl⟩
  | tup a => exact ⟨_, e, rfl, rfl⟩
  | str x t => exact ⟨_, e, rfl, rfl⟩
section
variable {X : Cx} {σ : L2.St} {H : Hp} {s : Shared} {pins : List (Addr × Obj)}
/-- what stands at a place has its value -/
theorem vals_at {vs : List V} {us : List Value} {i : Nat} {u : Value} (r : Vals vs us) (hu : us.toArray[i]? = some u) : ∃ c, vs[i]? = some c ∧ RelV c u := by
  rw [List.getElem?_toArray] at hu
  cases e : vs[i]? with
  | none => exact nomatch (r.none_of e).symm.trans hu
  | some c =>
    obtain ⟨w, hw, rc⟩ := r.get e
    cases hw.symm.trans hu
    exact ⟨c, rfl, rc⟩
theorem SK.of_inv {k : SK} {vs : List V} (I : Inv X pins σ H s) (h : k.stands X.K H vs) : ∃ its, k.has its s.heap ∧ k.n its = vs.length ∧ (∀ i v, k.P its i v → ∃ c, vs[i]? = some c ∧ RelV c v) ∧ ∀ b ∈ k.fp, b < s.heap.objs.size := by
  cases k with
  | lst a =>
    obtain ⟨its, rv, p, hz⟩ := I.list h
    refine ⟨its, p.isList, by simp [SK.n, rv.length], fun i v hv => vals_at rv hv, fun b hb => ?_⟩
    cases List.mem_singleton.mp hb
    exact p.lt
  | tup a =>
    obtain ⟨its, rv, p, hz⟩ := I.tuple h
    refine ⟨its, show s.heap.IsTuple a its.toArray from p, by simp [SK.n, rv.length], fun i v hv => vals_at rv hv, fun b hb => ?_⟩
    cases List.mem_singleton.mp hb
    exact p.lt
  | str x t =>
    have h : vs = x.cps.toList.map fun c => V.str ⟨#[c]⟩ := h
    subst h
    refine ⟨[], trivial, by simp [SK.n], fun i v hv => ?_, fun b hb => by simp [SK.fp] at hb⟩
    obtain ⟨c, u, h1, rfl⟩ := hv
    exact ⟨.str ⟨#[c]⟩, by rw [List.getElem?_map, Array.getElem?_toList, h1]; rfl, u, rfl⟩
theorem SK.inj {k : SK} {vs ws : List V} (I : Inv X pins σ H s) (h : k.stands X.K H vs) (h' : k.stands X.K H ws) : vs = ws := by
  cases k with
  | lst a => exact I.list_inj h h'
  | tup a => exact I.tuple_inj h h'
  | str x t => exact (show vs = _ from h).trans (show ws = _ from h').symm
end
/-! ### zip -/
def ItzA (K : PySem.W.Frag) (k1 k2 : SK) : L2.It :=
  ⟨fun i H => ∃ (xs ys : List V) (x y : V), k1.stands K H xs ∧ k2.stands K H ys ∧ xs[i]? = some x ∧ ys[i]? = some y,
    fun i H v H' => ∃ T x y, v = .ref T ∧ H T = none ∧ H' = upd H T (.tup [x, y]) ∧ (∀ xs, k1.stands K H xs → xs[i]? = some x) ∧ ∀ ys, k2.stands K H ys → ys[i]? = some y,
    fun i H => ∃ xs ys : List V, k1.stands K H xs ∧ k2.stands K H ys ∧ i = min xs.length ys.length⟩
/-- a zip's five things, ahead of turn i -/
structure ZipNow (k1 k2 : SK) (z TI TO i1 i2 : Addr) (i : Nat) (h : Heap) : Prop where
  hd : IsZip h z TI TO .none
  ins : IsTupOf2 h TI (.ref i1) (.ref i2)
  out : ∃ x y, IsTupOf2 h TO x y
  fst : k1.st i1 i h
  snd : k2.st i2 i h
section
variable {k1 k2 : SK} {z TI TO i1 i2 : Addr} {i : Nat} {h : Heap}
theorem ZipNow.there (Z : ZipNow k1 k2 z TI TO i1 i2 i h) : ∀ c ∈ [z, TI, TO, i1, i2], ∃ o, h.get? c = some o ∧ ∀ v, o.data ≠ .cell v := by
  obtain ⟨_, _, out⟩ := Z.out
  simp only [List.forall_mem_cons]
  exact ⟨⟨_, Z.hd, nofun⟩, ⟨_, Z.ins, nofun⟩, ⟨_, out, nofun⟩, SK.st_obj Z.fst, SK.st_obj Z.snd, nofun⟩
theorem ZipNow.lt (Z : ZipNow k1 k2 z TI TO i1 i2 i h) {c : Addr} (m : c ∈ [z, TI, TO, i1, i2]) : c < h.objs.size := by
  obtain ⟨_, e, _⟩ := Z.there c m
  exact Heap.lt_size e
theorem ZipNow.keep {h' : Heap} (Z : ZipNow k1 k2 z TI TO i1 i2 i h) (g : ∀ c ∈ [z, TI, TO, i1, i2], ∀ o, h.get? c = some o → h'.get? c = some o) : ZipNow k1 k2 z TI TO i1 i2 i h' := by
  simp only [List.forall_mem_cons] at g
  obtain ⟨g1, g2, g3, g4, g5, _⟩ := g
  obtain ⟨x, y, out⟩ := Z.out
  exact ⟨g1 _ Z.hd, g2 _ Z.ins, ⟨x, y, g3 _ out⟩, SK.st_keep Z.fst g4, SK.st_keep Z.snd g5⟩
/-- apart from the five -/
theorem off5 {c : Addr} (m : c ∉ [z, TI, TO, i1, i2]) : c ≠ z ∧ c ≠ TI ∧ c ≠ TO ∧ c ≠ i1 ∧ c ≠ i2 := by
  simpa only [List.mem_cons, List.not_mem_nil, or_false, not_or] using m
end
theorem turn_zipA {P : Program} {w : World} {K : PySem.W.Frag} {elts : List Expr} {kk : Nat} {tpos : Pos} {z TI TO i1 i2 : Addr} {k1 k2 : SK} (S : ZipSep2 z TI TO i1 i2 (i1 :: k1.fp) (i2 :: k2.fp)) (n1 : i1 ∉ k1.fp) (n2 : i2 ∉ k2.fp) :
    Turn P w K (.Tuple elts kk tpos) (ItzA K k1 k2) [z, TI, TO, i1, i2] z (ZipNow k1 k2 z TI TO i1 i2) where
  mem := List.mem_cons_self
  obj := fun _ _ Z => Z.there
  keep := fun _ _ _ Z g => Z.keep g
  item := by
    rintro X rfl rfl rfl calm i pins s σ H E I free Z ⟨xs, ys, x, y, of1, of2, at1, at2⟩
    have nh : X.A.in1.handled = none := I.ok.hd calm
    obtain ⟨us, has1, len1, val1, _⟩ := SK.of_inv I of1
    obtain ⟨ws, has2, len2, val2, _⟩ := SK.of_inv I of2
    obtain ⟨x0, y0, out⟩ := Z.out
    have lt1 : i < k1.n us := len1 ▸ (List.getElem?_eq_some_iff.mp at1).1
    have lt2 : i < k2.n ws := len2 ▸ (List.getElem?_eq_some_iff.mp at2).1
    refine wpAny_pyNext_zipD2_item S (k1.draws nh i1 n1 us) (k2.draws nh i2 n2 ws) Z.hd Z.ins out ⟨Z.fst, has1⟩ ⟨Z.snd, has2⟩ lt1 lt2 fun u v h1 tk got1 got2 hd1 out1 d1 d2 pair _ same => ?_
    obtain ⟨c, ec, rc⟩ := val1 i u got1
    obtain ⟨d, ed, rd⟩ := val2 i v got2
    cases at1.symm.trans ec
    cases at2.symm.trans ed
    refine ⟨_, rfl, wpAny_letOwnedTupleGo_zip (s := { s with heap := h1, toks := tk }) hd1 fun h2 hd2 but => ?_⟩
    -- the new pair stands at the heap's end, and the zip's head alone was written after it
    have at_ := (but.2 _ (Nat.ne_of_gt (Z.lt List.mem_cons_self))).trans pair
    have ok : ObjOk X.prog X.w (upd H s.heap.objs.size (.tup [x, y])) h2 s.heap.objs.size (.tup [x, y]) := by
      refine ⟨show 2 ≤ sizeLine by decide, [u, v], ?_, ⟨_, at_, rfl, _, rfl⟩⟩
      exact .cons rc (.cons rd .nil)
    have keeps : ∀ c o, c ∉ [z, TI, TO, i1, i2] → s.heap.get? c = some o → h2.get? c = some o := fun c o m q => by
      obtain ⟨m0, m1, m2, m3, m4⟩ := off5 m
      exact (but.2 c m0).trans (same c o (by exact m0) (by exact m2) (fun q' => m3 (by simpa using q')) (fun q' => m4 (by simpa using q')) q)
    have now := I.turnedNew (t' := tk) keeps free (Nat.le_refl _) ok
    refine ⟨.ref s.heap.objs.size, _, now, rfl, ⟨_, x, y, rfl, I.fresh, rfl, fun l q => SK.inj I q of1 ▸ at1, fun l q => SK.inj I q of2 ▸ at2⟩, ?_, fun c m => ?_⟩
    · exact ⟨hd2, (but.2 _ S.TIz).trans (same _ _ S.TIz S.TITO S.TIi1 S.TIi2 Z.ins), ⟨u, v, (but.2 _ S.TOz).trans out1⟩,
        SK.st_keep d1.1 fun o q => (but.2 _ (Ne.symm S.zi1)).trans q, SK.st_keep d2.1 fun o q => (but.2 _ (Ne.symm S.zi2)).trans q⟩
    · exact (upd_ne (Nat.ne_of_lt (Z.lt m))).trans (free c m).1
  done := by
    rintro X rfl rfl rfl calm i pins s σ H E I free Z ⟨xs, ys, of1, of2, stop⟩
    have nh : X.A.in1.handled = none := I.ok.hd calm
    obtain ⟨us, has1, len1, _⟩ := SK.of_inv I of1
    obtain ⟨ws, has2, len2, _⟩ := SK.of_inv I of2
    obtain ⟨x0, y0, out⟩ := Z.out
    refine wpAny_pyNext_zipD2_end S (k1.draws nh i1 n1 us) (k2.draws nh i2 n2 ws) Z.hd Z.ins out ⟨Z.fst, has1⟩ ⟨Z.snd, has2⟩ (by omega) (by omega) (by omega) fun h1 tk same => ⟨rfl, I.turnedL (fun c o m q => ?_) free⟩
    obtain ⟨m0, m1, m2, m3, m4⟩ := off5 m
    exact same c o (by exact m0) (by exact m2) (fun q' => m3 (by simpa using q')) (fun q' => m4 (by simpa using q')) q
  self := fun _ _ _ _ _ Z q => wpAny_pyIter_zip Z.hd q
/-- a value that is walked as k -/
def SkV (k : SK) (c : V) : Prop := match k with
  | .lst a => c = .ref a
  | .tup a => c = .ref a
  | .str x _ => c = .str x
def iZipS (K : PySem.W.Frag) (ta : TA) : TI := fun σ H R => ta σ H fun vs H1 => ∃ (c d : V), vs = [c, d] ∧ ∃ (k1 k2 : Tok → SK) (xs ys : List V), (∀ u, RelV c u → ∃ t, (k1 t).val = u) ∧ (∀ u, RelV d u → ∃ t, (k2 t).val = u) ∧ (∀ t, (k1 t).stands K H1 xs) ∧ (∀ t, (k2 t).stands K H1 ys) ∧ ∀ t t', R (ItzA K (k1 t) (k2 t')) H1
theorem pi_zipS {X : Cx} {e e2 : Expr} {ta : TA} {p pos tpos : Pos} {elts : List Expr} {kk : Nat} (hg : Gl X "zip") (hm : X.mg "zip" = none) (ha : PA X [e, e2] ta)
    (hs : starEach [e, e2] X.env = (false, eval e X.env) :: starEach [e2] X.env) (hpl : (backTo pos (starEach [e2] X.env)).any (·.1) = false) :
    PI X (.Tuple elts kk tpos) (.Call (.Name "zip" p) [e, e2] [] pos) (iZipS X.K ta) := by
  constructor
  intro pins s σ H R I h
  have args := ha.run pos pins s σ H _ I h
  refine Call_ (ld_blt I hg hm PyProof.Rows.boot_zip (PyProof.Rows.callWith_type1 (thn args ?_) hs hpl))
  rintro us s1 ⟨vs, H1, I1, rvs, c, d, rfl, k1, k2, xs, ys, a1, a2, b1, b2, q⟩
  obtain ⟨u, v, rfl, ru, rv⟩ := vals2 rvs
  obtain ⟨t1, rfl⟩ := a1 u ru
  obtain ⟨t2, rfl⟩ := a2 v rv
  obtain ⟨as, has1, _, _, low1⟩ := SK.of_inv I1 (b1 t1)
  obtain ⟨bs, has2, _, _, low2⟩ := SK.of_inv I1 (b2 t2)
  refine zip_begins2 ((k1 t1).begins as) ((k2 t2).begins bs) has1 has2 fun h' hd ins out g1 g2 _ keeps => wpAny_pyIter_zip hd ?_
  have now := I1.kept (t' := s1.toks) keeps
  have apart := turn_zipA (P := X.prog) (w := X.w) (K := X.K) (elts := elts) (kk := kk) (tpos := tpos) (zip_sep2 (N := s1.heap.objs.size) low1 low2) (fun m => absurd (low1 _ m) (Nat.lt_irrefl _)) (fun m => absurd (low2 _ m) (Nat.not_lt.mpr (Nat.le_succ _)))
  refine ⟨_, _, _, _, H1, rfl, now, apart, ⟨hd, ins, ⟨_, _, out⟩, (k1 t1).start g1, (k2 t2).start g2⟩, ?_, q t1 t2⟩
  have new : ∀ j, FpOk X pins H1 (s1.heap.objs.size + j) := fun j => I1.fpOk (Nat.le_add_right _ j) (I1.hok.fresh (Nat.le_add_right _ j))
  simp only [List.forall_mem_cons]
  exact ⟨new 4, new 2, new 3, new 0, new 1, nofun⟩
end Pv

/-! PvSound14: what is walked, by values; for, while. -/
namespace Pv
open PySem PyProof.Rows PySem.Spec L2
/-- the iterator gives these, from here on -/
structure Walk (B : Tbl) (J : L2.It) (xs : List PV) (H0 : Hp) : Prop where
  go : ∀ (i : Nat) (H : Hp), Keep H0 H → i < xs.length → J.go i H
  yld : ∀ (i : Nat) (H : Hp) (c : V) (H' : Hp) (x : PV), Keep H0 H → xs[i]? = some x → J.yld i H c H' → Same H H' ∧ Rp B H' c x
  stop : ∀ H, Keep H0 H → J.stop xs.length H
def tI (Q : Env) (B : Tbl) (T : Tabl) (W : WX) (it : It) : TI := fun σ H K => ∃ C s, RelS B T C H σ s ∧ Kq B T W C σ H (fun H' _ xs J => Walk B J xs H') K (evIt Q it s)
section
variable {Q : Env} {B : Tbl} {T : Tabl} {W : WX} {C : Fx} {σ σ1 : L2.St} {s : Sl} {H H1 : Hp} {X : Cx} {ro : List Nat} {D D' : Ends}
theorem PI.imp {tg x : Expr} {t t' : TI} (h : PI X tg x t) (hi : ∀ σ H K, t' σ H K → t σ H K) : PI X tg x t' := ⟨fun pins s σ H K I hk => h.run pins s σ H K I (hi σ H K hk)⟩
theorem walk_list {a : Addr} {vs : List V} {xs : List PV} (K : PySem.W.Frag) (hl : ∀ H', Keep H H' → SqL K H' a vs) (inj : ∀ H' ws, SqL K H' a ws → True) (hr : Rps B H vs xs) : Walk B (Itl K a) xs H where
  go := fun i H' k hi => by
    have hi2 : i < vs.length := by rw [hr.length]; exact hi
    exact ⟨vs, vs[i], hl H' k, List.getElem?_eq_getElem hi2⟩
  yld := fun i H' c H'' x k ex y => by
    obtain ⟨rfl, y⟩ := y
    obtain ⟨v, hv, rv⟩ := hr.get ex
    have := y vs (hl _ k)
    rw [hv] at this; cases this
    exact ⟨Same.refl _, rv.keep k⟩
  stop := fun H' k => ⟨vs, hl H' k, Nat.le_of_eq hr.length⟩
theorem walk_tup {a : Addr} {vs : List V} {xs : List PV} (h : SqT B.K H a vs) (hr : Rps B H vs xs) : Walk B (Itt B.K a) xs H where
  go := fun i H' k hi => by
    have hi2 : i < vs.length := by rw [hr.length]; exact hi
    exact ⟨vs, vs[i], k.sqT h, List.getElem?_eq_getElem hi2⟩
  yld := fun i H' c H'' x k ex y => by
    obtain ⟨rfl, y⟩ := y
    obtain ⟨v, hv, rv⟩ := hr.get ex
    have := y vs (k.sqT h)
    rw [hv] at this; cases this
    exact ⟨Same.refl _, rv.keep k⟩
  stop := fun H' k => ⟨vs, k.sqT h, Nat.le_of_eq hr.length⟩
theorem signs_eq : ∀ z : List Nat, signs z = z.map fun c => PV.str [c]
  | [] => rfl
  | c :: z => by rw [signs, signs_eq z]; rfl
theorem signs_at {z : List Nat} {i : Nat} {x : PV} (e : (signs z)[i]? = some x) : ∃ c, z[i]? = some c ∧ x = .str [c] := by
  rw [signs_eq, List.getElem?_map] at e
  cases h : z[i]? with
  | none => rw [h] at e; cases e
  | some c => rw [h] at e; cases e; exact ⟨c, rfl, rfl⟩
theorem signs_len (z : List Nat) : (signs z).length = z.length := by rw [signs_eq, List.length_map]
theorem toS_cpsAt (z : List Nat) (i : Nat) : (toS z).cps[i]? = z[i]? := by simp [toS]
theorem toS_cpsN (z : List Nat) : (toS z).cps.size = z.length := by simp [toS]
theorem walk_str (z : List Nat) : Walk B (Its (toS z)) (signs z) H where
  go := fun i H' k hi => by
    show i < (toS z).cps.size
    rw [toS_cpsN, ← signs_len]; exact hi
  yld := fun i H' c H'' x k ex y => by
    obtain ⟨rfl, d, hd, rfl⟩ := y
    obtain ⟨c, hc, rfl⟩ := signs_at ex
    rw [toS_cpsAt, hc] at hd
    cases hd
    exact ⟨Same.refl _, .str _⟩
  stop := fun H' k => by
    show (toS z).cps.size ≤ _
    rw [toS_cpsN, signs_len]
    exact Nat.le_refl _
/-- lists, tuples, texts, by what has come -/
def iAny (K : PySem.W.Frag) (te : TE) : TI := fun σ H R => te σ H fun x H1 => (∃ a, x = .ref a ∧ (∃ xs, SqL K H1 a xs) ∧ R (Itl K a) H1) ∨ (∃ a, x = .ref a ∧ (∃ xs, SqT K H1 a xs) ∧ R (Itt K a) H1) ∨ ∃ z, x = .str z ∧ R (Its z) H1
theorem pi_any {tg l : Expr} {tl : TE} (hl : PE X l tl) : PI X tg l (iAny X.K tl) := by
  constructor
  intro pins s σ H R I h
  refine thn (hl.run pins s σ H _ I h) ?_
  rintro v s1 ⟨x, H1, I1, rx, q1⟩
  have new : ∀ o : Obj, o.isFreed = false → (s1.heap.push o).get? s1.heap.objs.size = some o := fun o e => Heap.get?_push_size _ e
  rcases q1 with ⟨a, rfl, ⟨xs, of_⟩, k⟩ | ⟨a, rfl, ⟨xs, of_⟩, k⟩ | ⟨z, rfl, k⟩
  · cases rx
    obtain ⟨us, _, here, _⟩ := I1.list of_
    exact wpAny_pyIter_list here.isList (pi_one (tk := s1.toks) I1 _ (turn_list a _) ⟨_, new _ rfl, rfl, rfl⟩ k)
  · cases rx
    obtain ⟨us, _, here, _⟩ := I1.tuple of_
    have here : s1.heap.IsTuple a us.toArray := here
    exact wpAny_pyIter_tuple here (pi_one (tk := s1.toks) I1 _ (turn_tuple a _) ⟨_, new _ rfl, rfl, rfl⟩ k)
  · obtain ⟨t, rfl⟩ := rx
    by_cases low : z.cps.all (· < 128) = true
    · refine wpAny_pyIter_ascii low ?_
      exact pi_one (tk := s1.toks) I1 _ (turn_str _ z t _ (.inl rfl)) ⟨_, new _ rfl, rfl, rfl⟩ k
    · refine wpAny_pyIter_wide (Bool.eq_false_iff.mpr low) ?_
      exact pi_one (tk := s1.toks) I1 _ (turn_str _ z t _ (.inr rfl)) ⟨_, new _ rfl, rfl, rfl⟩ k
theorem snd_seq {e : E} {tg x : Expr} (hK : B.K = X.K) (he : PE X x (tR Q B T W e)) : PI X tg x (tI Q B T W (.seq e)) := PI.imp (pi_any (lockR he)) fun σ H K hk => by
  obtain ⟨C, sl, r, hk⟩ := hk
  rw [evIt] at hk
  refine ⟨C, sl, r, hk.bind.mono fun c H1 ⟨a, s1, r1, rx, k1, h1⟩ => ?_⟩
  have rx : Rp B H1 c a.2 := rx
  obtain ⟨xs, ex, h1⟩ := h1.liftO
  cases hv : a.2 with
  | lst ys =>
    rw [hv] at ex rx
    cases ex
    cases rx with
    | @lst p o vs _ g1 g2 => exact .inl ⟨p, rfl, ⟨vs, .inl (.inr ⟨o, g1⟩)⟩, h1 _ H1 (Keep.refl _) r1 (walk_list X.K (fun H' k => .inl (.inr ⟨o, k.frz _ _ _ g1⟩)) (fun _ _ _ => trivial) g2)⟩
  | scr ys =>
    rw [hv] at ex rx
    cases ex
    cases rx with
    | @scr p vs _ g1 g2 => exact .inl ⟨p, rfl, ⟨vs, hK ▸ g1.sqL⟩, h1 _ H1 (Keep.refl _) r1 (walk_list X.K (fun H' k => hK ▸ (k.fzL g1).sqL) (fun _ _ _ => trivial) g2)⟩
  | tup ys =>
    rw [hv] at ex rx
    cases ex
    cases rx with
    | @tup p vs _ g1 g2 => exact .inr (.inl ⟨p, rfl, ⟨vs, hK ▸ g1⟩, h1 _ H1 (Keep.refl _) r1 (hK ▸ walk_tup g1 g2)⟩)
  | str z =>
    rw [hv] at ex rx
    cases ex
    cases rx
    exact .inr (.inr ⟨toS z, rfl, h1 _ H1 (Keep.refl _) r1 (walk_str z)⟩)
  | _ => rw [hv] at ex; cases ex
/-! ### ranges -/
theorem rngL_len : ∀ (lo : Int) (n : Nat), (rngL lo n).length = n
  | _, 0 => rfl
  | lo, n + 1 => by rw [rngL, List.length_cons, rngL_len]
theorem rngL_at : ∀ (lo : Int) (n i : Nat), i < n → (rngL lo n)[i]? = some (.int (lo + i))
  | lo, n + 1, 0, _ => by rw [rngL]; simp
  | lo, n + 1, i + 1, h => by
    rw [rngL, List.getElem?_cons_succ, rngL_at (lo + 1) n i (by omega)]
    congr 2
    push_cast
    omega
theorem rngC_len : ∀ (lo c : Int) (n : Nat), (rngC lo c n).length = n
  | _, _, 0 => rfl
  | lo, c, n + 1 => by rw [rngC, List.length_cons, rngC_len]
theorem rngC_at : ∀ (lo c : Int) (n i : Nat), i < n → (rngC lo c n)[i]? = some (.int (lo + (i : Int) * c))
  | lo, c, n + 1, 0, _ => by rw [rngC]; simp
  | lo, c, n + 1, i + 1, h => by
    rw [rngC, List.getElem?_cons_succ, rngC_at (lo + c) c n i (by omega)]
    congr 2
    push_cast
    rw [Int.add_mul]
    omega
theorem walk_rng (lo : Int) (n : Nat) : Walk B (Itr lo n) (rngL lo n) H where
  go := fun i H' k hi => by rw [rngL_len] at hi; exact hi
  yld := fun i H' c H'' x k ex y => by
    obtain ⟨rfl, rfl⟩ := y
    have hi : i < n := by
      have := (List.getElem?_eq_some_iff.mp ex).1
      rw [rngL_len] at this; exact this
    rw [rngL_at lo n i hi] at ex
    cases ex
    exact ⟨Same.refl _, .int _⟩
  stop := fun H' k => by
    show n ≤ _
    rw [rngL_len]; exact Nat.le_refl _
theorem walk_rngC (lo c : Int) (n : Nat) : Walk B (Itc lo c n) (rngC lo c n) H where
  go := fun i H' k hi => by rw [rngC_len] at hi; exact hi
  yld := fun i H' v H'' x k ex y => by
    obtain ⟨rfl, rfl⟩ := y
    have hi : i < n := by
      have := (List.getElem?_eq_some_iff.mp ex).1
      rw [rngC_len] at this; exact this
    rw [rngC_at lo c n i hi] at ex
    cases ex
    exact ⟨Same.refl _, .int _⟩
  stop := fun H' k => by
    show n ≤ _
    rw [rngC_len]; exact Nat.le_refl _
theorem small_iff {i : Int} (h : small i = true) : -(2 ^ 62) ≤ i ∧ i < 2 ^ 62 := by
  unfold small at h
  have := of_decide_eq_true h
  omega
theorem snd_rng1 {e : E} {tg x : Expr} {p pos : Pos} (hg : Gl X "range") (hm : X.mg "range" = none) (he : PE X x (tR Q B T W e)) (hs : starEach [x] X.env = [(false, eval x X.env)]) (hs1 : starEach [x] X.env = (false, eval x X.env) :: starEach [] X.env) : PI X tg (.Call (.Name "range" p) [x] [] pos) (tI Q B T W (.rng1 e)) := PI.imp (pi_range1 hg hm (pa_cons (lockR he) pa_nil hs1) hs) fun σ H K hk => by
  obtain ⟨C, sl, r, hk⟩ := hk
  rw [evIt] at hk
  refine ⟨C, sl, r, hk.bind.mono fun c H1 ⟨a, s1, r1, rx, k1, h1⟩ => ?_⟩
  have rx : Rp B H1 c a.2 := rx
  split at h1
  · rename_i n en
    rw [en] at rx
    cases rx
    split at h1
    · rename_i hsm
      obtain ⟨g1, g2⟩ := small_iff hsm
      exact ⟨n, rfl, g1, g2, h1 _ H1 (Keep.refl _) r1 (walk_rng 0 _)⟩
    · exact h1.elim
  · exact h1.elim
theorem snd_rng2 {a b : E} {tg x y : Expr} {p pos : Pos} (hg : Gl X "range") (hm : X.mg "range" = none) (ha : PE X x (tR Q B T W a)) (hb : PE X y (tR Q B T W b)) (hs : starEach [x, y] X.env = [(false, eval x X.env), (false, eval y X.env)]) (hs2 : starEach [y] X.env = [(false, eval y X.env)])
    (hs3 : starEach [x, y] X.env = (false, eval x X.env) :: starEach [y] X.env) (hs4 : starEach [y] X.env = (false, eval y X.env) :: starEach [] X.env) : PI X tg (.Call (.Name "range" p) [x, y] [] pos) (tI Q B T W (.rng2 a b)) := PI.imp (pi_range2 hg hm (pa_cons (lockR ha) (pa_cons (lockR hb) pa_nil hs4) hs3) hs hs2) fun σ H K hk => by
  obtain ⟨C, sl, r, hk⟩ := hk
  rw [evIt] at hk
  refine ⟨C, sl, r, hk.bind.mono fun c H1 ⟨u, s1, r1, rx, k1, h1⟩ => ⟨C, s1, r1, h1.bind.mono fun d H2 ⟨v, s2, r2, ry, k2, h2⟩ => ?_⟩⟩
  have rx : Rp B H1 c u.2 := rx
  have ry : Rp B H2 d v.2 := ry
  split at h2
  · rename_i i j ei ej
    rw [ei] at rx
    rw [ej] at ry
    cases rx
    cases ry
    split at h2
    · rename_i hsm
      rw [Bool.and_eq_true] at hsm
      obtain ⟨g1, g2⟩ := small_iff hsm.1
      obtain ⟨g3, g4⟩ := small_iff hsm.2
      exact ⟨i, j, rfl, ⟨g1, g2, g3, g4⟩, h2 _ H2 (Keep.refl _) r2 (walk_rng _ _)⟩
    · exact h2.elim
  · exact h2.elim
theorem snd_rng3 {a b : E} {tg x y z : Expr} {p pos : Pos} {k : Int} (hg : Gl X "range") (hm : X.mg "range" = none) (ha : PE X x (tR Q B T W a)) (hb : PE X y (tR Q B T W b)) (hc : PE X z (tC (.int k))) (hs : starEach [x, y, z] X.env = (false, eval x X.env) :: starEach [y, z] X.env) (hpl : (backTo pos (starEach [y, z] X.env)).any (·.1) = false)
    (hs3 : starEach [y, z] X.env = (false, eval y X.env) :: starEach [z] X.env) (hs4 : starEach [z] X.env = (false, eval z X.env) :: starEach [] X.env) : PI X tg (.Call (.Name "range" p) [x, y, z] [] pos) (tI Q B T W (.rng3 a b k)) := PI.imp (pi_range3 hg hm (pa_cons (lockR ha) (pa_cons (lockR hb) (pa_cons hc pa_nil hs4) hs3) hs) hs hpl) fun σ H K hk => by
  obtain ⟨C, sl, r, hk⟩ := hk
  rw [evIt] at hk
  refine ⟨C, sl, r, hk.bind.mono fun c H1 ⟨u, s1, r1, rx, k1, h1⟩ => ⟨C, s1, r1, h1.bind.mono fun d H2 ⟨v, s2, r2, ry, k2, h2⟩ => ?_⟩⟩
  have rx : Rp B H1 c u.2 := rx
  have ry : Rp B H2 d v.2 := ry
  split at h2
  · rename_i i j ei ej
    rw [ei] at rx
    rw [ej] at ry
    cases rx
    cases ry
    split at h2
    · rename_i hsm
      rw [Bool.and_eq_true, Bool.and_eq_true, beq_iff_eq] at hsm
      obtain ⟨g1, g2⟩ := small_iff hsm.1.1
      obtain ⟨g3, g4⟩ := small_iff hsm.1.2
      obtain rfl := hsm.2
      exact ⟨i, j, -1, _, rfl, RgC.neg g1 g2 g3 g4, h2 _ H2 (Keep.refl _) r2 (walk_rngC _ _ _)⟩
    · exact h2.elim
  · exact h2.elim
/-! ### zip -/
theorem zipL_len : ∀ xs ys : List PV, (zipL xs ys).length = min xs.length ys.length
  | [], ys => by simp [zipL]
  | x :: xs, [] => by simp [zipL]
  | x :: xs, y :: ys => by rw [zipL, List.length_cons, zipL_len]; simp [Nat.succ_min_succ]
theorem zipL_at : ∀ {xs ys : List PV} {i : Nat} {z : PV}, (zipL xs ys)[i]? = some z → ∃ x y, xs[i]? = some x ∧ ys[i]? = some y ∧ z = .tup [x, y]
  | [], ys, i, z, h => by simp [zipL] at h
  | x :: xs, [], i, z, h => by simp [zipL] at h
  | x :: xs, y :: ys, 0, z, h => by simp [zipL] at h; exact ⟨x, y, rfl, rfl, h.symm⟩
  | x :: xs, y :: ys, i + 1, z, h => by
    rw [zipL, List.getElem?_cons_succ] at h
    obtain ⟨a, b, h1, h2, h3⟩ := zipL_at h
    exact ⟨a, b, by simpa using h1, by simpa using h2, h3⟩
/-- how a value that stays is walked -/
theorem walked (hK : B.K = X.K) {c : V} {x : PV} {xs : List PV} (h : Rp B H c x) (e : itemsOf x = some xs) : ∃ (k : Tok → SK) (vs : List V), (∀ u, RelV c u → ∃ t, (k t).val = u) ∧ (∀ t H', Keep H H' → (k t).stands X.K H' vs) ∧ Rps B H vs xs := by
  cases x with
  | lst ys =>
    cases e
    cases h with
    | @lst p o vs _ g1 g2 => exact ⟨fun _ => .lst p, vs, fun u hu => ⟨0, hu.symm⟩, fun t H' k => .inl (.inr ⟨o, k.frz _ _ _ g1⟩), g2⟩
  | scr ys =>
    cases e
    cases h with
    | @scr p vs _ g1 g2 => exact ⟨fun _ => .lst p, vs, fun u hu => ⟨0, hu.symm⟩, fun t H' k => hK ▸ (k.fzL g1).sqL, g2⟩
  | tup ys =>
    cases e
    cases h with
    | @tup p vs _ g1 g2 => exact ⟨fun _ => .tup p, vs, fun u hu => ⟨0, hu.symm⟩, fun t H' k => hK ▸ (k.sqT g1), g2⟩
  | str z =>
    cases e
    cases h
    refine ⟨fun t => .str (toS z) t, z.map fun c => V.str ⟨#[c]⟩, fun u ⟨t, hu⟩ => ⟨t, hu.symm⟩, fun t H' k => rfl, ?_⟩
    have : ∀ z : List Nat, Rps B H (z.map fun c => V.str ⟨#[c]⟩) (signs z) := fun z => by
      induction z with
      | nil => exact .nil
      | cons c z ih => exact .cons (.str [c]) ih
    exact this z
  | _ => cases e
theorem walk_zip {k1 k2 : SK} {vs ws : List V} {xs ys : List PV} {K : PySem.W.Frag} (h1 : ∀ H', Keep H H' → k1.stands K H' vs) (h2 : ∀ H', Keep H H' → k2.stands K H' ws) (r1 : Rps B H vs xs) (r2 : Rps B H ws ys) : Walk B (ItzA K k1 k2) (zipL xs ys) H where
  go := fun i H' k hi => by
    rw [zipL_len] at hi
    have a1 : i < vs.length := by rw [r1.length]; omega
    have a2 : i < ws.length := by rw [r2.length]; omega
    exact ⟨vs, ws, vs[i], ws[i], h1 H' k, h2 H' k, List.getElem?_eq_getElem a1, List.getElem?_eq_getElem a2⟩
  yld := fun i H' c H'' z k ex y => by
    obtain ⟨p, x, y', rfl, hp, rfl, g1, g2⟩ := y
    obtain ⟨a, b, e1, e2, rfl⟩ := zipL_at ex
    obtain ⟨v, hv, rv⟩ := r1.get e1
    obtain ⟨w, hw, rw'⟩ := r2.get e2
    have q1 := g1 vs (h1 H' k)
    have q2 := g2 ws (h2 H' k)
    rw [hv] at q1; cases q1
    rw [hw] at q2; cases q2
    exact ⟨same_upd hp, .tup (.inl (.inl upd_same)) (.cons ((rv.keep k).keep (.same (same_upd hp))) (.cons ((rw'.keep k).keep (.same (same_upd hp))) .nil))⟩
  stop := fun H' k => ⟨vs, ws, h1 H' k, h2 H' k, by rw [zipL_len, r1.length, r2.length]⟩
theorem snd_zip {a b : E} {elts : List Expr} {kk : Nat} {tpos : Pos} {x y : Expr} {p pos : Pos} (hK : B.K = X.K) (hg : Gl X "zip") (hm : X.mg "zip" = none) (ha : PE X x (tR Q B T W a)) (hb : PE X y (tR Q B T W b)) (hpl : (backTo pos (starEach [y] X.env)).any (·.1) = false)
    (hs3 : starEach [x, y] X.env = (false, eval x X.env) :: starEach [y] X.env) (hs4 : starEach [y] X.env = (false, eval y X.env) :: starEach [] X.env) : PI X (.Tuple elts kk tpos) (.Call (.Name "zip" p) [x, y] [] pos) (tI Q B T W (.zip a b)) := PI.imp (pi_zipS hg hm (pa_cons (lockR ha) (pa_cons (lockR hb) pa_nil hs4) hs3) hs3 hpl) fun σ H K hk => by
  obtain ⟨C, sl, r, hk⟩ := hk
  rw [evIt] at hk
  refine ⟨C, sl, r, hk.bind.mono fun c H1 ⟨u, s1, r1, rx, k1, h1⟩ => ⟨C, s1, r1, h1.bind.mono fun d H2 ⟨v, s2, r2, ry, k2, h2⟩ => ?_⟩⟩
  have rx : Rp B H1 c u.2 := rx
  have ry : Rp B H2 d v.2 := ry
  split at h2
  · rename_i xs ys ei ej
    obtain ⟨g1, vs, q1, q2, q3⟩ := walked hK (rx.keep k2) ei
    obtain ⟨g2, ws, q4, q5, q6⟩ := walked hK ry ej
    exact ⟨c, d, rfl, g1, g2, vs, ws, q1, q4, fun t => q2 t H2 (Keep.refl _), fun t => q5 t H2 (Keep.refl _), fun t t' => h2 _ H2 (Keep.refl _) r2 (walk_zip (q2 t) (q5 t') q3 q6)⟩
  · exact h2.elim
/-! ### enumerate -/
theorem enumL_len : ∀ (xs : List PV) (n : Nat), (enumL xs n).length = xs.length
  | [], _ => rfl
  | x :: xs, n => by rw [enumL, List.length_cons, enumL_len]; rfl
theorem enumL_at : ∀ {xs : List PV} {n i : Nat} {z : PV}, (enumL xs n)[i]? = some z → ∃ x, xs[i]? = some x ∧ z = .tup [.int ((n + i : Nat) : Int), x]
  | [], n, i, z, h => by simp [enumL] at h
  | x :: xs, n, 0, z, h => by simp [enumL] at h; exact ⟨x, rfl, h.symm⟩
  | x :: xs, n, i + 1, z, h => by
    rw [enumL, List.getElem?_cons_succ] at h
    obtain ⟨a, h1, h3⟩ := enumL_at h
    exact ⟨a, by simpa using h1, by rw [h3]; congr 4; omega⟩
theorem walk_enum {a : Addr} {vs : List V} {xs : List PV} {K : PySem.W.Frag} (hl : ∀ H', Keep H H' → SqL K H' a vs) (hr : Rps B H vs xs) : Walk B (Ite K a) (enumL xs 0) H where
  go := fun i H' k hi => by
    rw [enumL_len] at hi
    have hi2 : i < vs.length := by rw [hr.length]; exact hi
    exact ⟨vs, vs[i], hl H' k, List.getElem?_eq_getElem hi2⟩
  yld := fun i H' c H'' z k ex y => by
    obtain ⟨p, x, rfl, hp, rfl, g1⟩ := y
    obtain ⟨w, e1, rfl⟩ := enumL_at ex
    obtain ⟨v, hv, rv⟩ := hr.get e1
    have q1 := g1 vs (hl H' k)
    rw [hv] at q1; cases q1
    refine ⟨same_upd hp, ?_⟩
    rw [Nat.zero_add]
    exact .tup (.inl (.inl upd_same)) (.cons (.int _) (.cons ((rv.keep k).keep (.same (same_upd hp))) .nil))
  stop := fun H' k => ⟨vs, hl H' k, by rw [enumL_len]; exact Nat.le_of_eq hr.length⟩
theorem snd_enum {a : E} {elts : List Expr} {kk : Nat} {tpos : Pos} {x : Expr} {p pos : Pos} (hg : Gl X "enumerate") (hm : X.mg "enumerate" = none) (ha : PE X x (tR Q B T W a)) (hs : starEach [x] X.env = [(false, eval x X.env)]) (hs1 : starEach [x] X.env = (false, eval x X.env) :: starEach [] X.env) : PI X (.Tuple elts kk tpos) (.Call (.Name "enumerate" p) [x] [] pos) (tI Q B T W (.enum a)) := PI.imp (pi_enum hg hm (pa_cons (lockR ha) pa_nil hs1) hs) fun σ H K hk => by
  obtain ⟨C, sl, r, hk⟩ := hk
  rw [evIt] at hk
  refine ⟨C, sl, r, hk.bind.mono fun c H1 ⟨u, s1, r1, rx, k1, h1⟩ => ?_⟩
  have rx : Rp B H1 c u.2 := rx
  split at h1
  · rename_i xs ex
    rw [ex] at rx
    cases rx with
    | @lst p o vs _ g1 g2 => exact ⟨p, vs, rfl, .inl (.inr ⟨o, g1⟩), h1 _ H1 (Keep.refl _) r1 (walk_enum (fun H' k => .inl (.inr ⟨o, k.frz _ _ _ g1⟩)) g2)⟩
  · exact h1.elim
/-! ### loops -/
theorem XKq.ends {x : XR} (h : XKq B T W C ro D σ H x) (e1 : ∀ σ H, D.nx σ H → D'.nx σ H) (e2 : ∀ c H, D.rt c H → D'.rt c H) (e3 : ∀ σ H, D.bk σ H → D'.bk σ H) (e4 : ∀ σ H, D.ct σ H → D'.ct σ H) : XKq B T W C ro D' σ H x := by
  cases x with
  | next s => exact fun σ' H' k r => e1 _ _ (h σ' H' k r)
  | brk s => exact fun σ' H' k r => e3 _ _ (h σ' H' k r)
  | cont s => exact fun σ' H' k r => e4 _ _ (h σ' H' k r)
  | ret v s => exact fun c σ' H' k r q => e2 _ _ (h c σ' H' k r q)
  | err n d s => exact h
  | bad => exact h
theorem snd_whl {t : Pv.T} {x : Expr} {bs : List Stmt} {b : Ss} {pos : Pos} (hp : PassesOwn (model X.prog X.w) X.A X.env X.xe) (hc : PT X x (tT Q B T W t)) (hb : PSs X bs (tSs Q B T W ro b)) : PS X (.While x bs [] pos) (tS Q B T W ro (.whl t b)) := PS.imp (ps_while hp hc hb) fun D σ H hk => by
  obtain ⟨C, sl, r, hk⟩ := hk
  rw [exS] at hk
  refine ⟨fun m σ H => ∃ C s, RelS B T C H σ s ∧ XKq B T W C ro D σ H (whileL (fun s => evT Q t s) (fun s => exSs Q ro b s) m s), ⟨Q.fuel, C, sl, r, hk⟩, ?_⟩
  rintro m σ H ⟨C, s, r, hk⟩
  cases m with
  | zero => exact hk.elim
  | succ m =>
    unfold whileL at hk
    refine ⟨C, s, r, ?_⟩
    cases e : evT Q t s with
    | bad => simp only [e] at hk; exact hk
    | err n d s1 => simp only [e] at hk; exact fun H' k r' => hk σ H' (.of k) r'
    | ok k s1 =>
      simp only [e] at hk
      intro c H1 k1 r1 ec
      subst ec
      cases k with
      | false => exact iteF (hk σ H1 (.of k1) r1)
      | true =>
        refine iteT ⟨fun σ' H' => ∃ m', m' < m + 1 ∧ ∃ C s, RelS B T C H' σ' s ∧ XKq B T W C ro D σ' H' (whileL (fun s => evT Q t s) (fun s => exSs Q ro b s) m' s), fun σ' H' h => h, C, s1, r1, ?_⟩
        have hk := XKq.later (σ1 := σ) (H1 := H1) hk (.of k1)
        cases e2 : exSs Q ro b s1 with
        | next s2 => simp only [e2] at hk; exact fun σ' H' k' r' => ⟨m, Nat.lt_succ_self m, C, s2, r', hk.later k'⟩
        | cont s2 => simp only [e2] at hk; exact fun σ' H' k' r' => ⟨m, Nat.lt_succ_self m, C, s2, r', hk.later k'⟩
        | brk s2 => simp only [e2] at hk; exact hk
        | ret v s2 => simp only [e2] at hk; exact hk
        | err n d s2 => simp only [e2] at hk; exact hk
        | bad => simp only [e2] at hk; exact hk
theorem snd_for {t : Tg} {it : It} {tg x : Expr} {bs : List Stmt} {b : Ss} {pos : Pos} (hK : B.K = X.K) (hp : PassesOwn (model X.prog X.w) X.A X.env X.xe) (hc : X.calm = true) (hi : PI X tg x (tI Q B T W it)) (hg : PG X tg (gTg X.K t)) (hb : PSs X bs (tSs Q B T W ro b))
    (hs : ∀ y, foldedSetIterable x X.env y = pure y) : PS X (.For tg x bs [] pos) (tS Q B T W ro (.for_ t it b)) := PS.imp (ps_for hp hc hi hg hb hs) fun D σ H hk => by
  obtain ⟨C, sl, r, hk⟩ := hk
  rw [exS] at hk
  refine ⟨C, sl, r, hk.ofR.mono fun J H1 ⟨xs, s1, r1, w, k1, h1⟩ => ?_⟩
  refine ⟨fun i m σ H => i ≤ xs.length ∧ m = xs.length - i ∧ Keep H1 H ∧ ∃ s, RelS B T C H σ s ∧ XKq B T W C ro D σ H (forL (fun x s => ofO (tgSet ro s t x) fun s' => exSs Q ro b s') (xs.drop i) s), ⟨xs.length, Nat.zero_le _, rfl, Keep.refl _, s1, r1, h1⟩, ?_⟩
  rintro i m σ H ⟨hil, rfl, kH, s, r, hk⟩
  by_cases hlt : i < xs.length
  · have hx := List.getElem?_eq_getElem (l := xs) hlt
    rw [List.drop_eq_getElem_cons hlt] at hk
    unfold forL at hk
    refine .inr ⟨w.go i H kH hlt, fun σ' H' => Keep H1 H' ∧ ∃ s, RelS B T C H' σ' s ∧ XKq B T W C ro D σ' H' (forL (fun x s => ofO (tgSet ro s t x) fun s' => exSs Q ro b s') (xs.drop (i + 1)) s), fun σ' H' ⟨k', s', r', h'⟩ => ⟨xs.length - (i + 1), by omega, hlt, rfl, k', s', r', h'⟩, fun c H' y => ?_⟩
    obtain ⟨g, rp⟩ := w.yld i H c H' _ kH hx y
    have r' := r.grow g
    cases e : tgSet ro s t xs[i] with
    | none => simp only [e, ofO] at hk; exact hk.elim
    | some s2 =>
      simp only [e, ofO] at hk
      refine gTg_set hK rp e r' fun σ2 st2 r2 => ⟨C, s2, r2, ?_⟩
      have hk := hk.later (σ1 := σ2) (H1 := H') ((StepS.of (.same g)).trans st2)
      have kH' : Keep H1 H' := kH.trans (.same g)
      cases e2 : exSs Q ro b s2 with
      | next s3 => simp only [e2] at hk; exact fun σ' H'' k' r' => ⟨kH'.trans k'.keep, s3, r', hk.later k'⟩
      | cont s3 => simp only [e2] at hk; exact fun σ' H'' k' r' => ⟨kH'.trans k'.keep, s3, r', hk.later k'⟩
      | brk s3 => simp only [e2] at hk; exact hk
      | ret v s3 => simp only [e2] at hk; exact hk
      | err n d s3 => simp only [e2] at hk; exact hk
      | bad => simp only [e2] at hk; exact hk
  · have ei : i = xs.length := by omega
    subst ei
    rw [List.drop_length] at hk
    unfold forL at hk
    exact .inl ⟨w.stop H kH, hk σ H .refl r⟩
end
end Pv

/-! PvSound15: list comprehensions. -/
namespace Pv
open PySem PyProof.Rows PySem.Spec L2
section
variable {Q : Env} {B : Tbl} {T : Tabl} {W : WX} {C : Fx} {σ σ1 : L2.St} {s : Sl} {H H1 : Hp} {X : Cx} {ro : List Nat} {D D' : Ends}
theorem wipe_at {j : Nat} : ∀ {vs : List Nat} {σ : L2.St}, (wipe σ vs)[j]? = if j ∈ vs then (if j < σ.length then some none else none) else σ[j]?
  | [], σ => by simp [wipe]
  | v :: vs, σ => by
    unfold wipe
    by_cases e : v = j
    · subst e
      rw [if_pos List.mem_cons_self]
      by_cases hl : v < σ.length
      · rw [if_pos hl, List.getElem?_set_self (by rw [wipe_length]; exact hl)]
      · rw [if_neg hl, List.getElem?_eq_none (by rw [List.length_set, wipe_length]; exact Nat.not_lt.mp hl)]
    · rw [List.getElem?_set_ne e, wipe_at]
      by_cases hm : j ∈ vs
      · rw [if_pos hm, if_pos (List.mem_cons_of_mem _ hm)]
      · rw [if_neg hm, if_neg (by simp only [List.mem_cons, not_or]; exact ⟨fun z => e z.symm, hm⟩)]
theorem wipeS_facts : ∀ {vs : List Nat} {s s2 : Sl}, wipeS s vs = some s2 → s2.length = s.length ∧ (∀ j : Nat, j ∉ vs → s2[j]? = s[j]?) ∧ (∀ j ∈ vs, isOwn s j = false) ∧ ∀ (j : Nat) (v : SV), s2[j]? = some (some v) → j ∉ vs
  | [], s, s2, h => by cases h; exact ⟨rfl, fun _ _ => rfl, fun _ h => by simp at h, fun _ _ _ => by simp⟩
  | i :: vs, s, s2, h => by
    unfold wipeS at h
    obtain ⟨s1, h1, h⟩ := Option.bind_eq_some_iff.mp h
    obtain ⟨a1, a2, a3, a4⟩ := wipeS_facts h1
    split at h
    · cases h
    · rename_i ho
      cases h
      refine ⟨by rw [List.length_set]; exact a1, fun j hj => ?_, fun j hj => ?_, fun j v e => ?_⟩
      · simp only [List.mem_cons, not_or] at hj
        rw [List.getElem?_set_ne (fun z => hj.1 z.symm)]
        exact a2 j hj.2
      · by_cases hm : j ∈ vs
        · exact a3 j hm
        · rcases List.mem_cons.mp hj with e | e
          · subst e
            have ho : isOwn s1 j = false := by
              cases q : isOwn s1 j with
              | false => rfl
              | true => exact absurd q ho
            unfold isOwn at ho ⊢
            rw [a2 j hm] at ho
            exact ho
          · exact absurd e hm
      · by_cases e2 : i = j
        · subst e2
          by_cases hl : i < s1.length
          · rw [List.getElem?_set_self hl] at e; cases e
          · rw [List.getElem?_eq_none (by rw [List.length_set]; exact Nat.not_lt.mp hl)] at e; cases e
        · rw [List.getElem?_set_ne e2] at e
          simp only [List.mem_cons, not_or]
          exact ⟨fun z => e2 z.symm, a4 j v e⟩
theorem RelS.wipe (r : RelS B T C H σ s) {vs : List Nat} {s2 : Sl} (h : wipeS s vs = some s2) : RelS B T C H (L2.wipe σ vs) s2 := by
  obtain ⟨a1, a2, a3, a4⟩ := wipeS_facts h
  have keep : ∀ {j : Nat} {v : SV}, s2[j]? = some (some v) → s[j]? = some (some v) ∧ (L2.wipe σ vs)[j]? = σ[j]? := fun {j v} e => by
    have hj := a4 j v e
    exact ⟨by rw [← a2 j hj]; exact e, by rw [wipe_at, if_neg hj]⟩
  refine ⟨by rw [wipe_length, a1]; exact r.len, fun j v e => ?_, fun j v e => ?_, fun i j v w p e1 e2 e3 e4 => ?_, r.kept, r.lin, r.tabs⟩
  · obtain ⟨h1, h2⟩ := keep e
    rw [h2]
    exact r.fz j v h1
  · obtain ⟨h1, h2⟩ := keep e
    rw [h2]
    exact r.ow j v h1
  · obtain ⟨g1, g2⟩ := keep e1
    obtain ⟨g3, g4⟩ := keep e2
    rw [g2] at e3
    rw [g4] at e4
    exact r.ne i j v w p g1 g3 e3 e4
theorem backW_at {j : Nat} : ∀ {vs : List Nat} {s0 s : Sl}, s.length = s0.length → (backW s0 s vs)[j]? = if j ∈ vs then s0[j]? else s[j]?
  | [], s0, s, _ => by simp [backW]
  | i :: vs, s0, s, hl => by
    have hlen : ∀ vs : List Nat, (backW s0 s vs).length = s.length := fun vs => by
      induction vs with
      | nil => rfl
      | cons a vs ih =>
        unfold backW
        split
        · rw [List.length_set]; exact ih
        · exact ih
    unfold backW
    by_cases e : i = j
    · subst e
      rw [if_pos List.mem_cons_self]
      split
      · rename_i o eo
        have : i < s0.length := (List.getElem?_eq_some_iff.mp eo).1
        rw [List.getElem?_set_self (by rw [hlen, hl]; exact this), eo]
      · rename_i eo
        rw [eo]
        rw [List.getElem?_eq_none_iff] at eo ⊢
        rw [hlen, hl]; exact eo
    · have ih := backW_at (j := j) (vs := vs) hl
      have hm : (j ∈ i :: vs) ↔ j ∈ vs := by
        simp only [List.mem_cons]
        exact ⟨fun h => h.elim (fun z => absurd z.symm e) id, .inr⟩
      split
      · rw [List.getElem?_set_ne e, ih]
        simp only [hm]
      · rw [ih]
        simp only [hm]
theorem backW_len {s0 s : Sl} : ∀ vs : List Nat, (backW s0 s vs).length = s.length
  | [] => rfl
  | i :: vs => by
    unfold backW
    split
    · rw [List.length_set, backW_len vs]
    · rw [backW_len vs]
/-- the block's own names go, the others' slots stay -/
theorem RelS.backW {s1 s3 : Sl} {vs : List Nat} (r1 : RelS B T C H1 σ s1) (r3 : RelS B T C H (L2.wipe σ vs) s3) (k : Keep H1 H) (no : ∀ j ∈ vs, isOwn s1 j = false) : RelS B T C H σ (Pv.backW s1 s3 vs) := by
  have hl : s3.length = s1.length := by rw [← r3.len, wipe_length, r1.len]
  have own : ∀ {j : Nat} {v : PV}, (Pv.backW s1 s3 vs)[j]? = some (some (SV.own v)) → s3[j]? = some (some (SV.own v)) ∧ (L2.wipe σ vs)[j]? = σ[j]? := fun {j v} e => by
    rw [backW_at hl] at e
    split at e
    · rename_i hm
      have := no j hm
      rw [isOwn_iff.mpr ⟨v, e⟩] at this
      cases this
    · rename_i hm
      exact ⟨e, by rw [wipe_at, if_neg hm]⟩
  refine ⟨by rw [backW_len, hl]; exact r1.len, fun j v e => ?_, fun j v e => ?_, fun i j v w p e1 e2 e3 e4 => ?_, r3.kept, r3.lin, r3.tabs⟩
  · rw [backW_at hl] at e
    split at e
    · obtain ⟨c, h1, h2⟩ := r1.fz j v e
      exact ⟨c, h1, h2.keep k⟩
    · rename_i hm
      have := r3.fz j v e
      rw [wipe_at, if_neg hm] at this
      exact this
  · obtain ⟨g1, g2⟩ := own e
    have := r3.ow j v g1
    rw [g2] at this
    exact this
  · obtain ⟨g1, g2⟩ := own e1
    obtain ⟨g3, g4⟩ := own e2
    exact r3.ne i j v w p g1 g3 (by rw [g2]; exact e3) (by rw [g4]; exact e4)
/-- a thing that no slot holds is written -/
theorem RelS.rewr {p : Addr} {o o' : HO} (r : RelS B T (C.add p o) H σ s) (f1 : New0 C.H0 p) (f2 : p ∉ C.L) (iu : IsOwn o) : RelS B T (C.add p o') (upd H p o') σ s ∧ Keep H (upd H p o') := by
  obtain ⟨r3, e3, n3⟩ := r.unadd f1 f2 iu.tbl
  have kp := keep_upd (o := o') e3 iu
  have r4 : RelS B T C (upd H p o') σ s := by
    refine ⟨r3.len, fun i v e => ?_, fun i v e => ?_, r3.ne, fun b ob eb hb n => ?_, fun b hb => ?_, tabs_upd r3.tabs e3 iu⟩
    · obtain ⟨c, g1, g2⟩ := r3.fz i v e
      exact ⟨c, g1, g2.keep kp⟩
    · obtain ⟨z, g1, g2, g3⟩ := r3.ow i v e
      have : z ≠ p := fun z2 => n3 i v e (z2 ▸ g1)
      exact ⟨z, g1, g2.move kp (upd_ne this), g3⟩
    · have : b ≠ p := fun z => by subst z; exact f1 ob eb n
      rw [upd_ne this]
      exact r3.kept b ob eb hb n
    · rw [upd_ne (fun (z : b = p) => f2 (z ▸ hb))]
      exact r3.lin b hb
  exact ⟨r4.add upd_same f2 n3, kp⟩
def tgIn : Tg → List Nat → Bool
  | .nm i, vs => vs.elem i
  | .tp is, vs => is.all fun i => vs.elem i
/-- only the target's slots change -/
def StepG (vs : List Nat) (σ σ' : L2.St) : Prop := σ'.length = σ.length ∧ ∀ j : Nat, j ∉ vs → σ'[j]? = σ[j]?
theorem gAll_set2 {vs : List Nat} {K : L2.St → Hp → Prop} : ∀ {is : List Nat} {cs : List V} {xs : List PV} {σ : L2.St} {s s' : Sl}, (is.all fun i => vs.elem i) = true → Rps B H cs xs → setAll ro s is xs = some s' → RelS B T C H σ s → (∀ σ', StepG vs σ σ' → RelS B T C H σ' s' → K σ' H) → gAll is cs σ H K
  | [], cs, xs, σ, s, s', hin, h, e, r, q => by
    cases xs with
    | nil => cases h; cases e; exact ⟨rfl, q σ ⟨rfl, fun _ _ => rfl⟩ r⟩
    | cons x xs => cases e
  | i :: is, cs, xs, σ, s, s', hin, h, e, r, q => by
    cases xs with
    | nil => cases e
    | cons x xs =>
      cases h with
      | @cons c _ cs _ h1 h2 =>
      unfold setAll at e
      obtain ⟨s1, e1, e⟩ := Option.bind_eq_some_iff.mp e
      obtain ⟨rfl, hi⟩ := setS_some e1
      rw [List.all_cons, Bool.and_eq_true] at hin
      have r1 := r.store (i := i) (c := c) (x := (false, x)) h1
      refine ⟨c, cs, rfl, gAll_set2 (is := is) hin.2 h2 e r1 fun σ' k r' => q σ' ⟨by rw [k.1, List.length_set], fun j hj => ?_⟩ r'⟩
      rw [k.2 j hj, List.getElem?_set_ne]
      intro z
      subst z
      have : i ∈ vs := by simpa using hin.1
      exact hj this
theorem gTg_set2 (hK : B.K = X.K) {vs : List Nat} {t : Tg} {c : V} {x : PV} {s' : Sl} {K : L2.St → Hp → Prop} (hin : tgIn t vs = true) (h : Rp B H c x) (e : tgSet ro s t x = some s') (r : RelS B T C H σ s) (q : ∀ σ', StepG vs σ σ' → RelS B T C H σ' s' → K σ' H) : gTg X.K t c σ H K := by
  cases t with
  | nm i =>
    obtain ⟨rfl, hi⟩ := setS_some (show setS ro s i (.fz x) = some s' from e)
    refine q _ ⟨by rw [List.length_set], fun j hj => ?_⟩ (r.store (x := (false, x)) h)
    rw [List.getElem?_set_ne]
    intro z
    subst z
    have : i ∈ vs := by simpa [tgIn] using hin
    exact hj this
  | tp is =>
    cases x with
    | tup ys =>
      have e : setAll ro s is ys = some s' := e
      cases h with
      | @tup p cs _ h1 h2 => exact ⟨p, cs, rfl, hK ▸ h1, by rw [h2.length, setAll_len e], gAll_set2 hin h2 e r q⟩
    | _ => cases e
theorem wipe_step {vs : List Nat} {σ2 : L2.St} (h : StepG vs (L2.wipe σ vs) σ2) : L2.wipe σ2 vs = L2.wipe σ vs := by
  apply List.ext_getElem?; intro j
  rw [wipe_at, wipe_at, h.1, wipe_length]
  by_cases hm : j ∈ vs
  · rw [if_pos hm, if_pos hm]
  · rw [if_neg hm, if_neg hm, h.2 j hm, wipe_at, if_neg hm]
/-- a clause's test -/
def tOC (Q : Env) (B : Tbl) (T : Tabl) (W : WX) (c : O') : TT := fun σ H K => ∃ C s, RelS B T C H σ s ∧ Kq B T W C σ H (fun _ _ a c => a = c) K (evC Q c s)
theorem snd_cno : PTs X [] (tOC Q B T W .no) := ⟨fun pins s σ H K I hk => by
  obtain ⟨C, sl, r, hk⟩ := hk
  rw [evC] at hk
  exact pts_nil.run pins s σ H K I (hk true H (Keep.refl _) r rfl)⟩
theorem snd_cso {t : Pv.T} {x : Expr} (h : PT X x (tT Q B T W t)) : PTs X [x] (tOC Q B T W (.so t)) := ⟨fun pins s σ H K I hk => by
  obtain ⟨C, sl, r, hk⟩ := hk
  rw [evC] at hk
  exact (pts_one h).run pins s σ H K I ⟨C, sl, r, hk⟩⟩
/-- one turn of the small language's comprehension -/
def turnC (Q : Env) (e : E) (t : Tg) (c : O') (vs : List Nat) : PV → Sl → R (Option PV) := fun x s => match tgSet [] s t x with
  | none => .bad
  | some s' => noErr ((evC Q c s').bind fun k s'' => if k then (evR Q e s'').bind fun v s3 => (match wipeS s3 vs with
      | some s4 => .ok (some v.2) s4
      | none => .bad) else (match wipeS s'' vs with
      | some s4 => .ok none s4
      | none => .bad))
theorem evR_comp {e : E} {t : Tg} {it : It} {c : O'} {vs : List Nat} {s : Sl} : evR Q (.comp e t it c vs) s = (evIt Q it s).bind fun xs s1 => match (if xs.length ≤ line then wipeS s1 vs else none) with
    | none => .bad
    | some s2 => (compL (turnC Q e t c vs) xs s2).bind fun r s3 => .ok (true, .lst r) (backW s1 s3 vs) := by
  rw [evR]
  rfl
/-- W0: no exception leaves the block -/
abbrev W0 : WX := fun _ _ _ _ => False
theorem lc_of {e : E} {t : Tg} {it : It} {c : O'} {vs : List Nat} (hK : B.K = X.K) (hin : tgIn t vs = true) {K : VK} (hk : tR Q B T W (.comp e t it c vs) σ H K) : tLc (tI Q B T W it) (gTg X.K t) (tOC Q B T W0 c) (tE Q B T W0 e) vs σ H K := by
  obtain ⟨C, sl, r, hk⟩ := hk
  rw [evR_comp] at hk
  refine ⟨C, sl, r, hk.bind.mono fun J H1 ⟨xs, s1, r1, w, k1, h1⟩ => ?_⟩
  intro D hD
  have g := same_upd (o := .lst []) hD
  obtain ⟨f1, f2, f3⟩ := r1.fresh hD
  split at h1
  · exact h1.elim
  · rename_i s2 e0
    have hline : xs.length ≤ line := by
      by_cases q : xs.length ≤ line
      · exact q
      · rw [if_neg q] at e0; cases e0
    have e2 : wipeS s1 vs = some s2 := by rw [if_pos hline] at e0; exact e0
    have no := (wipeS_facts e2).2.2.1
    have rw2 := r1.wipe e2
    have n2 : ∀ (j : Nat) (v : PV), s2[j]? = some (some (SV.own v)) → (L2.wipe σ vs)[j]? ≠ some (some (V.ref D)) := fun j v ej e => by
      obtain ⟨a1, a2, a3, a4⟩ := wipeS_facts e2
      have hj := a4 j _ ej
      rw [wipe_at, if_neg hj] at e
      rw [a2 j hj] at ej
      exact f3 j v ej e
    -- what is wanted of the rest of the walk
    let Fin : Hp → List PV → R (List PV) → Prop := fun H dn x => match x with
      | .ok r s3 => ∀ H' acc, Keep H H' → RelS B T (C.add D (.lst acc)) H' (L2.wipe σ vs) s3 → Rps B H' acc (dn ++ r) → K (.ref D) H'
      | _ => False
    have fin0 : Fin H1 [] (compL (turnC Q e t c vs) xs s2) := by
      have noerr : ∀ (ys : List PV) (z : Sl) k d z', compL (turnC Q e t c vs) ys z ≠ .err k d z' := by
        intro ys
        induction ys with
        | nil => intro z k d z' h; unfold compL at h; cases h
        | cons y ys ih =>
          intro z k d z' h
          unfold compL at h
          cases q : turnC Q e t c vs y z with
          | bad => rw [q] at h; cases h
          | err n d1 z1 =>
            unfold turnC at q
            split at q
            · cases q
            · unfold noErr at q
              split at q
              · cases q
              · rename_i hne
                exact hne _ _ _ q
          | ok o z1 =>
            rw [q] at h
            simp only [R.bind] at h
            cases q2 : compL (turnC Q e t c vs) ys z1 with
            | bad => rw [q2] at h; cases h
            | err n d1 z2 => exact ih z1 n d1 z2 q2
            | ok r z2 => rw [q2] at h; cases h
      cases q : compL (turnC Q e t c vs) xs s2 with
      | bad => rw [q] at h1; exact h1.elim
      | err k d z => exact absurd q (noerr _ _ _ _ _)
      | ok rr s3 =>
        rw [q] at h1
        intro H' acc k r3 hr
        obtain ⟨r4, e4, n4⟩ := r3.unadd f1 f2 (fun _ z => nomatch z)
        have rb := r1.backW r4 k no
        refine h1 (.ref D) H' k rb (show Fresh B C H' σ _ (.ref D) (.lst rr) from ⟨D, rfl, ⟨acc, e4, by simpa using hr⟩, f1, f2, fun j v ej eσ => ?_⟩)
        have hl : s3.length = s1.length := by rw [← r4.len, wipe_length, r1.len]
        rw [backW_at hl] at ej
        split at ej
        · rename_i hm
          have := no j hm
          rw [isOwn_iff.mpr ⟨v, ej⟩] at this
          cases this
        · rename_i hm
          exact n4 j v ej (by rw [wipe_at, if_neg hm]; exact eσ)
    refine ⟨fun i m H => i ≤ xs.length ∧ m = xs.length - i ∧ Keep H1 H ∧ ∃ s acc dn, RelS B T (C.add D (.lst acc)) H (L2.wipe σ vs) s ∧ Rps B H acc dn ∧ dn.length ≤ i ∧ Fin H dn (compL (turnC Q e t c vs) (xs.drop i) s),
      ⟨xs.length, Nat.zero_le _, rfl, .same g, s2, [], [], (rw2.grow g).add upd_same f2 n2, .nil, Nat.zero_le _, ?_⟩, ?_⟩
    · rw [List.drop_zero]
      cases q : compL (turnC Q e t c vs) xs s2 with
      | bad => rw [q] at fin0; exact fin0
      | err k d z => rw [q] at fin0; exact fin0
      | ok rr s3 => rw [q] at fin0; exact fun H' acc k r3 hr => fin0 H' acc ((Keep.same g).trans k) r3 hr
    · rintro i m H ⟨hil, rfl, kH, s, acc, dn, rs, ra, hdn, fin⟩
      by_cases hlt : i < xs.length
      · have hx := List.getElem?_eq_getElem (l := xs) hlt
        rw [List.drop_eq_getElem_cons hlt] at fin
        unfold compL at fin
        refine .inr ⟨w.go i H kH hlt, fun H' => Keep H1 H' ∧ ∃ s acc dn, RelS B T (C.add D (.lst acc)) H' (L2.wipe σ vs) s ∧ Rps B H' acc dn ∧ dn.length ≤ i + 1 ∧ Fin H' dn (compL (turnC Q e t c vs) (xs.drop (i + 1)) s), fun H' ⟨k', s', acc', dn', r', a', d', h'⟩ => ⟨xs.length - (i + 1), by omega, hlt, rfl, k', s', acc', dn', r', a', d', h'⟩, fun cx H' y => ?_⟩
        obtain ⟨gy, rp⟩ := w.yld i H cx H' _ kH hx y
        have r' := rs.grow gy
        have kHy : Keep H H' := .same gy
        cases et : tgSet [] s t xs[i] with
        | none =>
          have : turnC Q e t c vs xs[i] s = .bad := by unfold turnC; rw [et]
          rw [this] at fin
          exact fin.elim
        | some s3 =>
          have etn : turnC Q e t c vs xs[i] s = noErr ((evC Q c s3).bind fun k s'' => if k then (evR Q e s'').bind fun v s3 => (match wipeS s3 vs with
              | some s4 => .ok (some v.2) s4
              | none => .bad) else (match wipeS s'' vs with
              | some s4 => .ok none s4
              | none => .bad)) := by unfold turnC; rw [et]
          rw [etn] at fin
          refine gTg_set2 hK hin rp et r' fun σ2 st2 r2 => ⟨wipe_step st2, ?_⟩
          refine ⟨C.add D (.lst acc), s3, r2, ?_⟩
          cases ec : evC Q c s3 with
          | bad => rw [ec] at fin; exact fin.elim
          | err n d z => rw [ec] at fin; exact fin.elim
          | ok k s4 =>
            rw [ec] at fin
            intro k' H3 k3 r3 ek
            subst ek
            have wst : L2.wipe σ2 vs = L2.wipe σ vs := wipe_step st2
            cases k with
            | false =>
              refine iteF ?_
              simp only [R.bind, Bool.false_eq_true, if_false] at fin
              cases ew : wipeS s4 vs with
              | none => rw [ew] at fin; exact fin.elim
              | some s5 =>
                rw [ew] at fin
                simp only [noErr] at fin
                have r5 := r3.wipe ew
                rw [wst] at r5
                refine ⟨(kH.trans kHy).trans k3, s5, acc, dn, r5, (Rps.keep kHy ra).keep k3, Nat.le_succ_of_le hdn, ?_⟩
                cases eq : compL (turnC Q e t c vs) (xs.drop (i + 1)) s5 with
                | bad => rw [eq] at fin; exact fin.elim
                | err n d z => rw [eq] at fin; exact fin.elim
                | ok rr s6 =>
                  rw [eq] at fin
                  exact fun H'' acc' k'' r'' hr => fin H'' acc' ((kHy.trans k3).trans k'') r'' hr
            | true =>
              refine iteT ⟨C.add D (.lst acc), s4, r3, ?_⟩
              simp only [R.bind, if_true] at fin
              cases ee : evR Q e s4 with
              | bad => rw [ee] at fin; exact fin.elim
              | err n d z => rw [ee] at fin; exact fin.elim
              | ok v s5 =>
                rw [ee] at fin
                intro cy H4 k4 r4 ry
                have ry : Rp B H4 cy v.2 := ry
                dsimp only at fin
                cases ew : wipeS s5 vs with
                | none => rw [ew] at fin; exact fin.elim
                | some s6 =>
                  rw [ew] at fin
                  simp only [noErr] at fin
                  have r5 := r4.wipe ew
                  rw [wst] at r5
                  have e5 := (r5.unadd f1 f2 (fun _ z => nomatch z)).2.1
                  obtain ⟨r6, k6⟩ := r5.rewr (o' := .lst (acc ++ [cy])) f1 f2 .lst
                  have ra4 : Rps B H4 acc dn := ((Rps.keep kHy ra).keep k3).keep k4
                  cases eq : compL (turnC Q e t c vs) (xs.drop (i + 1)) s6 with
                  | bad => rw [eq] at fin; exact fin.elim
                  | err n d z => rw [eq] at fin; exact fin.elim
                  | ok rr s7 =>
                    rw [eq] at fin
                    refine ⟨acc, e5, ?_, (((kH.trans kHy).trans k3).trans k4).trans k6, s6, acc ++ [cy], dn ++ [v.2], r6, (ra4.app (.cons ry .nil)).keep k6, by simp; omega, ?_⟩
                    · rw [ra4.length, ← line_eq]; omega
                    · rw [eq]
                      exact fun H'' acc' k'' r'' hr => fin H'' acc' ((((kHy.trans k3).trans k4).trans k6).trans k'') r'' (by simpa using hr)
      · have ei : i = xs.length := by omega
        subst ei
        rw [List.drop_length] at fin
        unfold compL at fin
        exact .inl ⟨w.stop H kH, fin H acc (Keep.refl _) rs (by simpa using ra)⟩
end
end Pv

/-! PvSound16: comprehensions as values; x(lambda: body) that gives the error caught. -/
namespace Pv
open PySem PyProof.Rows PySem.Spec L2
section
variable {Q : Env} {B : Tbl} {T : Tabl} {W : WX} {C : Fx} {σ σ1 : L2.St} {s : Sl} {H H1 : Hp} {X : Cx} {ro : List Nat} {D D' : Ends}
theorem snd_comp {e : E} {t : Tg} {it : It} {c : O'} {elt tg iter : Expr} {ifs : List Expr} {scope : Scope} {own : List (Str × Nat)} {pos : Pos} (hK : B.K = X.K) (hc : X.calm = true) (hN : X.N.Nodup) (hi : PI X tg iter (tI Q B T W it)) (ok : BlkOk X.N X.env.scope scope own) (hin : tgIn t (own.map (·.2)) = true)
    (hg : ∀ (s : Shared) (H : Hp) (C : Addr) (cl : List (Str × Addr)) (fp : List Addr), PG (X.blk s H scope (compEnvC scope cl C X.env) fp) tg (gTg X.K t)) (ht : ∀ (s : Shared) (H : Hp) (C : Addr) (cl : List (Str × Addr)) (fp : List Addr), PTs (X.blk s H scope (compEnvC scope cl C X.env) fp) ifs (tOC Q B T W0 c))
    (he : ∀ (s : Shared) (H : Hp) (C : Addr) (cl : List (Str × Addr)) (fp : List Addr), PE (X.blk s H scope (compEnvC scope cl C X.env) fp) elt (tR Q B T W0 e)) (hs : ∀ x, foldedSetIterable iter X.env x = pure x) :
    PE X (.ListComp elt [⟨tg, iter, ifs, 0⟩] scope pos) (tR Q B T W (.comp e t it c (own.map (·.2)))) :=
  PE.imp (pe_lc hc hN hi ok hg ht (fun s H C cl fp => lockR (he s H C cl fp)) hs) fun σ H K hk => lc_of hK hin hk
theorem snd_asgLc {i : Nat} {y : Str} {py : Pos} {e : E} {t : Tg} {it : It} {c : O'} {elt tg iter : Expr} {ifs : List Expr} {scope : Scope} {own : List (Str × Nat)} {pos spos : Pos} (hK : B.K = X.K) (hc : X.calm = true) (hN : X.N.Nodup) (hy : X.N[i]? = some y) (hyl : X.env.scope.names.lookup y = some .local)
    (hsw : swapsWith (.ListComp elt [⟨tg, iter, ifs, 0⟩] scope pos) (some (.Name y py)) spos.line X.env = pure true) (hi : PI X tg iter (tI Q B T W it)) (ok : BlkOk X.N X.env.scope scope own) (hin : tgIn t (own.map (·.2)) = true)
    (hg : ∀ (s : Shared) (H : Hp) (C : Addr) (cl : List (Str × Addr)) (fp : List Addr), PG (X.blk s H scope (compEnvC scope cl C X.env) fp) tg (gTg X.K t)) (ht : ∀ (s : Shared) (H : Hp) (C : Addr) (cl : List (Str × Addr)) (fp : List Addr), PTs (X.blk s H scope (compEnvC scope cl C X.env) fp) ifs (tOC Q B T W0 c))
    (he : ∀ (s : Shared) (H : Hp) (C : Addr) (cl : List (Str × Addr)) (fp : List Addr), PE (X.blk s H scope (compEnvC scope cl C X.env) fp) elt (tR Q B T W0 e)) (hs : ∀ x, foldedSetIterable iter X.env x = pure x) :
    PS X (.Assign [.Name y py] (.ListComp elt [⟨tg, iter, ifs, 0⟩] scope pos) spos) (tS Q B T W ro (.asg i (.comp e t it c (own.map (·.2))))) :=
  PS.imp (ps_setLc hc hN hy hyl hsw hi ok hg ht (fun s H C cl fp => lockR (he s H C cl fp)) hs) fun D σ H hk => lc_of hK hin (asg_of hk)
/-! ### an exception that is kept -/
theorem xcO_ok {P : Program} {w : World} {h : Heap} {a : Addr} {cls : Value} {oe : Obj} {vs : Array Value} (e : h.get? a = some oe) (hz : Zc cls none oe) (hd : oe.data = .fields vs) : ObjOk P w H h a (XcO cls a) :=
  ⟨⟨oe, vs, e, hz, hd⟩, ⟨oe, e⟩, fun h1 h2 ⟨oe, vs, a1, a2, a3⟩ k => ⟨oe, vs, k _ a1, a2, a3⟩⟩
theorem Inv.track {pins : List (Addr × Obj)} {s : Shared} {a : Addr} {cls : Value} {oe : Obj} {vs : Array Value} (I : Inv X pins σ H s) (e : s.heap.get? a = some oe) (hz : Zc cls none oe) (hd : oe.data = .fields vs) (na : H a = none) (nL : a ≠ X.env.locals)
    (n0 : ∀ b o, X.s_0.heap.get? b = some o → b ∉ X.ex → b ≠ a) (np : ∀ p ∈ X.pn ++ pins, p.1 ≠ a) : Inv X pins σ (upd H a (XcO cls a)) s := by
  have ne : ∀ b u, H b = some u → b ≠ a := fun b u h z => by rw [z, na] at h; cases h
  refine ⟨I.ok, I.os, I.bare, ⟨I.base.keep, I.base.slot, fun b o h n hx => ?_, I.base.there, fun b xs h => ?_, fun b o u h => ?_, fun b ps h => ?_⟩, I.loc, I.cell, ?_, fun x c h => ?_, fun p hp => ?_, fun b u h => ?_, I.len⟩
  · rw [upd_ne (n0 b o h hx)]; exact I.base.free b o h n hx
  · have := I.base.tups b xs h
    rw [upd_ne (ne b _ this)]; exact this
  · have := I.base.frzs b o u h
    rw [upd_ne (ne b _ this)]; exact this
  · obtain ⟨more, this⟩ := I.base.tbls b ps h
    exact ⟨more, by rw [upd_ne (ne b _ this)]; exact this⟩
  · rw [upd_ne (Ne.symm nL)]; exact I.free
  · have hc : c ≠ a := fun z => by
      obtain ⟨v, o, ho, hd'⟩ := I.cell x c h
      rw [z, e] at ho; cases ho
      rw [hd] at hd'; cases hd'
    rw [upd_ne hc]; exact I.freeC x c h
  · obtain ⟨h1, h2, h3⟩ := I.pin p hp
    exact ⟨h1, by rw [upd_ne (np p hp)]; exact h2, h3⟩
  · by_cases hb : b = a
    · subst hb
      rw [upd_same] at h; cases h
      exact xcO_ok e hz hd
    · rw [upd_ne hb] at h
      exact (I.hok b u h).stay (fun c v _ q => q) (fun c q => by rw [upd_ne (ne c _ q)]; exact q) fun c xs q => by rw [upd_ne (ne c _ q)]; exact q
theorem Inv.suite' {pins : List (Addr × Obj)} {s : Shared} (I : Inv X pins σ H s) (a : Addr) : Inv (X.suite a (X.pn ++ pins)) [] σ H s :=
  ⟨I.ok.suite _ _, I.os, I.bare, I.base, I.loc, I.cell, I.free, I.freeC, fun p hp => I.pin p (by rw [List.append_nil] at hp; exact hp), I.hok, I.len⟩
theorem Inv.unsuite' {pins : List (Addr × Obj)} {s : Shared} {a : Addr} {pn' : List (Addr × Obj)} (I : Inv (X.suite a (X.pn ++ pins)) pn' σ H s) (ok : X.Ok) : Inv X pins σ H s :=
  have pin := fun p hp => I.pin p (List.mem_append_left _ hp)
  ⟨ok, I.os, I.bare, I.base, I.loc, I.cell, I.free, I.freeC, pin, I.hok, I.len⟩
/-- an exception is no frame -/
theorem exc_off {B h : Heap} {fr : PySem.Env} {fs : List PySem.Env} {a : Addr} {o : Obj} {vs : Array Value} (own : fr.frame = some fr.locals) (ff : h.FunFrames B (fr :: fs)) (at_ : h.get? a = some o) (fields : o.data = .fields vs) :
    a ∉ frs (fr :: fs) ∧ a ≠ fr.locals ∧ a ∉ frs fs := by
  have off : a ∉ frs (fr :: fs) := fun m => by
    obtain ⟨_, o', at2, no⟩ := ff.mem m
    cases at_.symm.trans at2
    exact no vs fields
  refine ⟨off, fun z => ?_, fun m => ?_⟩
  · exact off (List.mem_filterMap.mpr ⟨fr, by simp, by rw [own, z]⟩)
  · obtain ⟨f, m1, m2⟩ := List.mem_filterMap.mp m
    exact off (List.mem_filterMap.mpr ⟨f, .tail _ m1, m2⟩)
/-- the name of a class, read while an exception is handled -/
theorem cls_read {Y : Cx} {pn : List (Addr × Obj)} {x : Str} {np : Pos} {c : Value} {s : Shared} {Q E : Value → Shared → Prop} (S : Inv Y pn σ H s) (nm : Names Y x c) (q : Q c s) : wpAny (model Y.prog Y.w) Y.A (eval (.Name x np) Y.env) Q E s := by
  rcases nm with ⟨gl, nd, here | ⟨none_, blt, nn⟩⟩
  · exact ld_glob S gl here q nd
  · exact ld_blt S gl none_ blt q nn nd
/-- the ends of what was tried are the ends outside -/
theorem tr_out {pins : List (Addr × Obj)} {xe : Value → Shared → Prop} {D : Ends} {f : Flow} {s : Shared} (ok : X.Ok) (p : SP (X.tr (X.pn ++ pins) xe) [] D f s) : SP X pins D f s :=
  match f, p with
  | .next, ⟨_, _, J, k⟩ => ⟨_, _, J.ofTry ok, k⟩
  | .brk, ⟨_, _, J, k⟩ => ⟨_, _, J.ofTry ok, k⟩
  | .cont, ⟨_, _, J, k⟩ => ⟨_, _, J.ofTry ok, k⟩
  | .ret _, ⟨_, _, _, J, rv, k⟩ => ⟨_, _, _, J.ofTry ok, rv, k⟩
/-- what the clause 'except x as n' wishes: the exception is kept -/
def wKept (K : PySem.W.Frag) (N : Nat) (c : Value) (i : Nat) (ts : Addr → Value → TS) (D : Ends) : WX := fun cls d σ H =>
  d = none ∧ PySem.W.exmOne K cls c = some true ∧ (σ.length = N → ∀ a, H a = none → ts a cls { nx := fun σ' H' => D.nx (σ'.set i none) H', rt := D.rt, bk := fun σ' H' => D.bk (σ'.set i none) H', ct := fun σ' H' => D.ct (σ'.set i none) H' } (σ.set i (some (.ref a))) (upd H a (XcO cls a)))
theorem ps_try_kept {x n : Str} {c : Value} {i : Nat} {body suite : List Stmt} {b₀ : Stmt} {np pos pos' : Pos} {tb : WX → TS} {ts : Addr → Value → TS}
    (hs : X.stack = X.env :: X.outer) (own : X.env.frame = some X.env.locals) (hN : X.N.Nodup) (hi : X.N[i]? = some n) (hln : X.env.kindOf n = some .local) (nm : Names X x c) (hex : X.ex = [])
    (tried : ∀ (W : WX) (pn : List (Addr × Obj)) (xe : Value → Shared → Prop), Takes (X.tr pn xe) W → PassesOwn (model X.prog X.w) X.A X.env xe → PSs (X.tr pn xe) body (tb W))
    (hsu : ∀ (a : Addr) (cls : Value) (pn : List (Addr × Obj)), PSs (X.suite a pn) (b₀ :: suite) (ts a cls)) :
    PS X (.Try body [.ExceptHandler (some (.Name x np)) (some n) (b₀ :: suite) pos'] [] [] pos) (fun D σ H => tb (wKept X.K X.N.length c i ts D) D σ H) := by
  constructor
  intro pins s σ H D I h
  have ok := I.ok
  have frames : X.A.frames = some (X.env :: X.outer) := hs ▸ ok.frames
  have local_ : Loc X.env.scope n := Or.inl hln
  have after := tried (wKept X.K X.N.length c i ts D) (X.pn ++ pins) (fun e s₁ => wpAny (model X.prog X.w) X.A (noteFrame e X.env) (fun _ s₂ => wpAny (model X.prog X.w) X.A (setFlight e none) (fun _ s₃ =>
      wpAny (model X.prog X.w) X.A (handleBy e X.env [.ExceptHandler (some (.Name x np)) (some n) (b₀ :: suite) pos']) (SP X pins D) X.xe s₃) X.xe s₂) X.xe s₁)
  refine wpAny_Try_except (wpAny_mono ((after ?_ PassesOwn.looking).run [] s σ H D (I.toTry _) h) (fun f s1 p => ?_) fun _ _ p => p)
  · rintro u s1 ⟨a, B, s0, pins', σ1, H1, cls, d, rfl, J0, nb, up, sky, na, os, ag, rfl, isIt, suits⟩
    have J : Inv X pins σ1 H1 s0 := J0.ofTry ok
    have sky : Sky B (X.env :: X.outer) a (Zc cls none) X.env.locals s1.heap := hs ▸ sky
    -- the traceback's row is written
    refine Sky.land Zc.steady frames own sky fun h2 fly up2 => ?_
    obtain ⟨o2, vs2, at2, z2, fields2⟩ := fly.there
    obtain ⟨off, notL, notF⟩ := exc_off own fly.2.2.1 at2 fields2
    have other : ∀ b o, s0.heap.get? b = some o → b ≠ a := by
      rintro b o e rfl
      exact nomatch (fly.2.1 : B.get? b = none).symm.trans (nb b o e (hs ▸ off))
    have J2 : Inv X pins σ1 H1 { s1 with heap := h2 } := J.landed nb (fly.1) (up.trans up2) os ag
    have K2 := Inv.suite J2 at2 fields2 na notL notF
    -- the class is asked for, and it is the one
    refine wpAny_handleBy_cons (codeAny_handlers_test (cls_read (Y := X.suite a ((a, o2) :: (X.pn ++ pins))) K2 nm ?_)) (fun q => by cases q)
    have look : PySem.W.Looks (model X.prog X.w) h2 (typeOf (.ref a)) cls := fun _ _ _ _ g r => wpAny_typeOf_ref (g _ _ at2) (z2.1.symm ▸ r)
    refine (PySem.W.exm_one (M := model X.prog X.w) J2.kIn look isIt).here (codeAny_handlers_suite_as (HandSPX.lands_againZ fly fun h3 fly3 up3 => ?_))
    obtain ⟨o3, vs3, at3, z3, fields3⟩ := fly3.there
    -- from here on the exception is an object of the abstract heap
    have J3 : Inv X pins σ1 H1 { s1 with heap := h3 } := J.landed nb (fly3.1) ((up.trans up2).trans up3) os ag
    have J4 : Inv X pins σ1 (upd H1 a (XcO cls a)) { s1 with heap := h3 } := Pv.Inv.track J3 at3 z3 fields3 na notL (fun b o e hx => by
      obtain ⟨o', e'⟩ := J.base.there b o e hx
      exact other b o' e') fun p m => other _ _ (J.pin p m).1
    refine store_ok (X := X.suite a (X.pn ++ pins)) (v := .ref a) (Inv.suite' J4 a) hN hi local_ rfl (fun s4 J5 => ?_) (.inr hln)
    have run := (hsu a cls (X.pn ++ pins)).run [] s4 _ _ _ J5 (suits J.len a na)
    refine wpAny_mono run (fun f s5 p => ?_) fun _ _ => False.elim
    have gone : ∀ {σ5 : L2.St} {H5 : Hp} {Q : Shared → Prop} (_ : Inv (X.suite a (X.pn ++ pins)) [] σ5 H5 s5) (_ : ∀ s6, Inv X pins (σ5.set i none) H5 s6 → Q s6),
        wpAny (model X.prog X.w) X.A (do bindName X.env n .none; unbindBehindTheSuite X.env n pos') (fun _ s6 => Q s6) X.xe s5 := fun J6 next => gone_ok (Inv.unsuite' J6 ok) hN hi hln next
    match f, p with
    | .next, ⟨_, _, J6, k⟩ => exact gone J6 fun _ J7 => ⟨_, _, J7, k⟩
    | .brk, ⟨_, _, J6, k⟩ => exact gone J6 fun _ J7 => ⟨_, _, J7, k⟩
    | .cont, ⟨_, _, J6, k⟩ => exact gone J6 fun _ J7 => ⟨_, _, J7, k⟩
    | .ret _, ⟨_, _, _, J6, rv, k⟩ => exact gone J6 fun _ J7 => ⟨_, _, _, J7, rv, k⟩
  · match f, p with
    | .next, p => exact wpAny_execs_nil (tr_out ok p)
    | .brk, p => exact tr_out ok p
    | .cont, p => exact tr_out ok p
    | .ret _, p => exact tr_out ok p
/-- told: None, or the error caught -/
def TTc (K : PySem.W.Frag) (CS : Addr) : (XK → Hp → VK → Prop) → Hp → VK → Prop := fun tl H Q =>
  tl (fun cls d H' => d = none ∧ PySem.W.exmOne K cls (.ref CS) = some true ∧ ∀ a, H' a = none → Q (.ref a) (upd H' a (XcO cls a))) H (fun _ H' => ∃ v, (some (some V.non) : Option (Option V)) = some (some v) ∧ Q v H')
theorem caught_gives {x a e q c1 n : Str} {sg : Scope} {g CS : Addr} {cdg : Value} {p1 p2 p3 p4 p5 p6 p7 p8 p9 p10 p11 p12 p13 p14 : Pos} (hge : sg.names.lookup e = some .globalImplicit) (hme : X.mg e = some (.ref CS)) (hde : (e == ("__debug__" : Str)) = false)
    (hN : [a, c1, n].Nodup) (hl1 : sg.names.lookup c1 = some .local) (hl2 : sg.names.lookup n = some .local) (hd1 : (c1 == ("__debug__" : Str)) = false) (hc1 : (c1 == ("__classdict__" : Str)) = false) (hd2 : (n == ("__debug__" : Str)) = false) (hc2 : (n == ("__classdict__" : Str)) = false) {j : Nat} :
    LamX.GivesTo X [a, c1, n] x sg g cdg [.Assign [.Name c1 p1] (.Constant .none j p2) p3, .Try [.Expr (.Call (.Name a p4) [] [] p5) p6] [.ExceptHandler (some (.Name e p7)) (some n) [.Assign [.Name c1 p8] (.Name n p9) p10] p11] [] [] p12, .Return (some (.Name c1 p13)) p14] a q (TTc X.K CS) := by
  intro f c' s H Q tl act hc h
  have hgl : Gl (cxOf C8.CX0 X.prog X.w X.K X.mg X.base [a, c1, n] x sg g cdg X.A X.stack s H C8.E0).nox e := hge
  refine ⟨_, pss_cons (ps_set (i := 1) (x := c1) hN rfl (.inl hl1) pe_non rfl (.inr hl1)) (pss_cons (ps_try_kept (X := (cxOf C8.CX0 X.prog X.w X.K X.mg X.base [a, c1, n] x sg g cdg X.A X.stack s H C8.E0).nox) (c := .ref CS) (i := 2)
      (tb := fun W D σ H => ∃ Ech : XK, (∀ cls d σ' H', Ech cls d H' → W cls d σ' H') ∧ σ[0]? = some (some (.ref f)) ∧ H c' = some (LamX.CodeO c' q) ∧ tl Ech H (fun _ H' => D.nx σ H'))
      (ts := fun a cls => tAsg (tVar 2) (gName 1))
      rfl rfl hN rfl hl2 ⟨hgl, hde, .inl hme⟩ rfl (fun W pn xe tk _ => ?_) (fun a cls pn => pss_one (ps_set (i := 1) (x := c1) hN rfl (.inl hl1) (pe_var (i := 2) rfl (.inl hl2) hd2 hc2) rfl (.inr hl1)))) (pss_one (ps_ret (pe_var (i := 1) rfl (.inl hl1) hd1 hc1)))), ?_⟩
  · constructor
    rintro pins s' σ H' D I ⟨Ech, hW, h1, h2, h3⟩
    exact (pss_one (ps_expr (pos := p6) (act W pn xe Ech p4 p5 tk hW) rfl)).run pins s' σ H' D I ⟨h1, h2, h3⟩
  · refine ⟨fun cls d H' => d = none ∧ PySem.W.exmOne X.K cls (.ref CS) = some true ∧ ∀ a, H' a = none → Q (.ref a) (upd H' a (XcO cls a)), fun cls d σ' H' ⟨e1, e2, e3⟩ => ⟨e1, e2, fun hl a na => ?_⟩, rfl, hc, ?_⟩
    · have h3 : σ'.length = 3 := hl
      have l2 : (σ'.set 2 (some (V.ref a)))[2]? = some (some (V.ref a)) := List.getElem?_set_self (by omega)
      refine ⟨.ref a, l2, ?_⟩
      refine ⟨.ref a, ?_, e3 a na⟩
      rw [List.getElem?_set_ne (by decide), List.getElem?_set_self (by rw [List.length_set]; omega)]
    · exact h
/-- x(lambda: body): None, or the error -/
theorem snd_caught {x a e c1 n : Str} {CS g c P : Addr} {k : Nat} {b : E} {pg : Arguments} {sg : Scope} {dV kV doc pm cdv ct oc : Value} {an od : Option Addr} {osl : Array (Option Value)} {p1 p2 p3 p4 p5 p6 p7 p8 p9 p10 p11 p12 p13 p14 : Pos} {j : Nat}
    {params : Arguments} {body : Expr} {scope : Scope} {p lpos pos : Pos} (hg : Gl X x) (hm : X.mg x = some (.ref g)) (hk : PySem.W.keepIn X.K (.ref g) = true)
    (lk : X.K.lookup g = some ⟨oc, od, .func (PySem.W.fnOf x x pg [.Assign [.Name c1 p1] (.Constant .none j p2) p3, .Try [.Expr (.Call (.Name a p4) [] [] p5) p6] [.ExceptHandler (some (.Name e p7)) (some n) [.Assign [.Name c1 p8] (.Name n p9) p10] p11] [] [] p12, .Return (some (.Name c1 p13)) p14] sg dV kV doc pm an cdv ct), osl⟩)
    (hcg : PySem.W.codeIn X.K cdv x = true) (hb : L2.Binds X.K (PySem.W.fnOf x x pg [.Assign [.Name c1 p1] (.Constant .none j p2) p3, .Try [.Expr (.Call (.Name a p4) [] [] p5) p6] [.ExceptHandler (some (.Name e p7)) (some n) [.Assign [.Name c1 p8] (.Name n p9) p10] p11] [] [] p12, .Return (some (.Name c1 p13)) p14] sg dV kV doc pm an cdv ct) [a] [])
    (Sg : FnScope [a, c1, n] [a] sg) (hva : Vis sg a)
    (hge : sg.names.lookup e = some .globalImplicit) (hme : X.mg e = some (.ref CS)) (hde : (e == ("__debug__" : Str)) = false)
    (hl1 : sg.names.lookup c1 = some .local) (hl2 : sg.names.lookup n = some .local) (hd1 : (c1 == ("__debug__" : Str)) = false) (hc1 : (c1 == ("__classdict__" : Str)) = false) (hd2 : (n == ("__debug__" : Str)) = false) (hc2 : (n == ("__classdict__" : Str)) = false)
    (TB : LamX.TabB X.base X.mg c P) (hcode : X.env.code = .ref c) (hmT : (P, X.env.qual ++ "<lambda>") ∈ T) (hu : ∀ p ∈ T, p.1 = P → p.2 = X.env.qual ++ "<lambda>") (hr : Room (k + 2) X.A) (L : LamX.LamS X.env.scope scope) (hdef : defaultsOf params X.env = ([], []))
    (hbind : ∀ (q : Str) (cl : List (Str × Addr)) (pm cv ctv : Value), bindArgs (PySem.W.kla_fn "<lambda>" q params body scope cl pm cv ctv) ⟨[], []⟩ = pure []) (hsup : ∀ n, Q.sup n 0 = true → ∃ D, B.clA n = some D ∧ PySem.W.exmOne X.K (.ref D) (.ref CS) = some true)
    (hbody : ∀ (A : Around) (outer : List PySem.Env) (s : Shared) (H : Hp) (E : XK) (f c' : Addr), Room k (A.deeper (LamX.lamEnv X scope s.heap.objs.size f c')) → PE (LamX.lamCx X A outer s H E scope f c') body (tR Q B T (fun cls d _ H => E cls d H) b))
    (hdb : (x == ("__debug__" : Str)) = false := by decide) (hd : (a == ("__debug__" : Str)) = false := by decide)
    (hcd : (a == ("__classdict__" : Str)) = false := by decide) : PE X (.Call (.Name x p) [.Lambda params body scope lpos] [] pos) (tR Q B T W (.caught b)) := by
  refine PE.imp (LamX.pe_lamcall (TT := TTc X.K CS) (t := fun E => tR Q B T (fun cls d _ H => E cls d H) b) hg hm hk lk hcg hb Sg rfl hva (caught_gives hge hme hde Sg.nd hl1 hl2 hd1 hc1 hd2 hc2) TB hcode hmT hu hr L hdef hbind hbody hdb hd hcd) fun σ H K hk => ?_
  obtain ⟨C, sl, r, hk⟩ := hk
  rw [evR] at hk
  refine ⟨r.tabs, fun H1 eN T1 => ?_⟩
  have r1 := r.extN eN T1
  have kp := keep_extN eN
  refine (show tR Q B T (fun cls d _ H' => d = none ∧ PySem.W.exmOne X.K cls (.ref CS) = some true ∧ ∀ a, H' a = none → K (.ref a) (upd H' a (XcO cls a))) b σ H1 (fun _ H' => ∃ v, (some (some V.non) : Option (Option V)) = some (some v) ∧ K v H') from ⟨C, sl, r1, ?_⟩)
  cases q : evR Q b sl with
  | bad => rw [q] at hk; exact hk.elim
  | ok a s1 =>
    rw [q] at hk
    exact fun c H' k r' rr => ⟨.non, rfl, hk .non H' (kp.trans k) r' (show Rp B H' .non .non from .non)⟩
  | err n d s1 =>
    rw [q] at hk
    have hk : Kq B T W C σ H (fun H' s' x c => RR B C H' σ s' c x) K (if (d.isEmpty && Q.sup n 0) = true then .ok (false, .exc n d) s1 else .bad) := hk
    split at hk
    · rename_i hc
      rw [Bool.and_eq_true, List.isEmpty_iff] at hc
      obtain ⟨rfl, hs⟩ := hc
      obtain ⟨D, hD, hx⟩ := hsup n hs
      exact fun H' k r' => ⟨rfl, D, hD, rfl, hx, fun a na => hk (.ref a) _ (kp.trans (k.trans (.same (same_upd na)))) (r'.grow (same_upd na)) (show Rp B _ _ _ from .exc hD upd_same)⟩
    · exact hk.elim
end
end Pv

/-! PvSound17: a def keeps what the run says. -/
namespace Pv
open PySem PyProof.Rows PySem.Spec L2
section
variable {B : Tbl} {T : Tabl}
theorem ownAt_mem : ∀ {as : List SV} {n i : Nat}, (ownAt as n).elem i = true → ∃ (k : Nat) (v : PV), i = n + k ∧ as[k]? = some (.own v)
  | [], n, i, h => by simp [ownAt] at h
  | .own v :: r, n, i, h => by
    unfold ownAt at h
    rw [List.elem_cons] at h
    by_cases e : i = n
    · exact ⟨0, v, by omega, rfl⟩
    · have h2 : (ownAt r (n + 1)).elem i = true := by
        have : (i == n) = false := by simpa using e
        rw [this] at h; exact h
      obtain ⟨k, w, h3, h4⟩ := ownAt_mem h2
      exact ⟨k + 1, w, by omega, by simpa using h4⟩
  | .fz v :: r, n, i, h => by
    unfold ownAt at h
    obtain ⟨k, w, h3, h4⟩ := ownAt_mem h
    exact ⟨k + 1, w, by omega, by simpa using h4⟩
theorem mem_ownAt : ∀ {as : List SV} {n k : Nat} {v : PV}, as[k]? = some (.own v) → (ownAt as n).elem (n + k) = true
  | [], n, k, v, h => by simp at h
  | .own w :: r, n, 0, v, h => by unfold ownAt; simp
  | .own w :: r, n, k + 1, v, h => by
    have := mem_ownAt (n := n + 1) (by simpa using h : r[k]? = some (.own v))
    unfold ownAt
    rw [List.elem_cons, show n + (k + 1) = n + 1 + k by omega, this]
    split <;> rfl
  | .fz w :: r, n, 0, v, h => by simp at h
  | .fz w :: r, n, k + 1, v, h => by
    have := mem_ownAt (n := n + 1) (by simpa using h : r[k]? = some (.own v))
    unfold ownAt
    rw [show n + (k + 1) = n + 1 + k by omega]; exact this
theorem outOf_len {s : Sl} : ∀ {as : List SV} {n : Nat}, (outOf s as n).length = as.length
  | [], _ => rfl
  | a :: r, n => by unfold outOf; rw [List.length_cons, List.length_cons, outOf_len]
theorem outOf_at {s : Sl} : ∀ {as : List SV} {n k : Nat} {a : SV}, as[k]? = some a → (outOf s as n)[k]? = some (match s[n + k]? with
    | some (some v) => (match a with | .own _ => v | .fz _ => a)
    | _ => a)
  | [], n, k, a, h => by simp at h
  | b :: r, n, 0, a, h => by simp at h; subst h; unfold outOf; simp <;> rfl
  | b :: r, n, k + 1, a, h => by
    have := outOf_at (s := s) (n := n + 1) (by simpa using h : r[k]? = some a)
    unfold outOf
    rw [List.getElem?_cons_succ, this]
    have e : n + 1 + k = n + (k + 1) := by omega
    rw [e]
/-- the parameters behind the run -/
theorem params_back {L : List Addr} {H H' : Hp} {vs : List V} {as : List SV} {σ' : L2.St} {s' : Sl} {np ns : Nat} (r0 : RelS B T ⟨H, L⟩ H (vs.map some) (as.map some)) (hl : as.length = np) (hns : np ≤ ns)
    (st : StepS (ownAt as 0) (vs.map some ++ List.replicate (ns - np) none) H σ' H') (held : ∀ {k : Nat} {v : PV}, as[k]? = some (.own v) → ∃ w, s'[0 + k]? = some (some w)) (r : RelS B T ⟨H, L⟩ H' σ' s') : RelS B T ⟨H, L⟩ H' (vs.map some) ((outOf s' as 0).map some) ∧
      (∀ (k : Nat) (v : PV), (outOf s' as 0)[k]? = some (.own v) → s'[k]? = some (some (.own v)) ∧ (vs.map some)[k]? = σ'[k]?) := by
  have hv : vs.length = as.length := by have := r0.len; rwa [List.length_map, List.length_map] at this
  have old : ∀ (k : Nat) (a : SV), as[k]? = some a → ∃ c, vs[k]? = some c := fun k a e => by
    have : k < vs.length := by rw [hv]; exact (List.getElem?_eq_some_iff.mp e).1
    exact ⟨vs[k], List.getElem?_eq_getElem this⟩
  -- an own parameter's slot holds what it held
  have same : ∀ (k : Nat) (v : PV), as[k]? = some (.own v) → (vs.map some)[k]? = σ'[k]? := fun k v e => by
    have h1 := mem_ownAt (n := 0) e
    rw [Nat.zero_add] at h1
    rw [st.par k h1]
    have hk : k < (vs.map some).length := by
      rw [List.length_map, hv]; exact (List.getElem?_eq_some_iff.mp e).1
    rw [List.getElem?_append_left hk]
  have cases_ : ∀ (k : Nat) (x : SV), (outOf s' as 0)[k]? = some x → ∃ a, as[k]? = some a ∧ ((∃ v, a = .fz v ∧ x = a) ∨ (∃ v, a = .own v ∧ s'[k]? = some (some x))) := fun k x e => by
    have hk : k < as.length := by
      have := (List.getElem?_eq_some_iff.mp e).1
      rwa [outOf_len] at this
    have ha : as[k]? = some as[k] := List.getElem?_eq_getElem hk
    have h2 := outOf_at (s := s') (n := 0) ha
    rw [e, Nat.zero_add] at h2
    refine ⟨as[k], ha, ?_⟩
    cases q : as[k] with
    | fz v =>
      refine .inl ⟨v, rfl, ?_⟩
      rw [q] at h2
      split at h2 <;> exact (Option.some.inj h2)
    | own v =>
      rw [q] at h2 ha
      obtain ⟨w, ew⟩ := held ha
      rw [Nat.zero_add] at ew
      rw [ew] at h2
      have : x = w := Option.some.inj h2
      exact .inr ⟨v, rfl, by rw [ew, this]⟩
  have own_ : ∀ (k : Nat) (v : PV), (outOf s' as 0)[k]? = some (.own v) → s'[k]? = some (some (.own v)) ∧ (vs.map some)[k]? = σ'[k]? := fun k v e => by
    obtain ⟨a, ha, h | h⟩ := cases_ k _ e
    · obtain ⟨w, rfl, e2⟩ := h
      cases e2
    · obtain ⟨w, rfl, e2⟩ := h
      exact ⟨e2, same k w ha⟩
  refine ⟨⟨by rw [List.length_map, List.length_map, outOf_len, hv], fun k v ek => ?_, fun k v ek => ?_, fun i j v w p e1 e2 e3 e4 => ?_, r.kept, r.lin, r.tabs⟩, own_⟩
  · obtain ⟨y, hy, ey⟩ := map_some_at ek
    cases ey
    obtain ⟨a, ha, h | h⟩ := cases_ k _ hy
    · obtain ⟨w, rfl, e2⟩ := h
      cases e2
      obtain ⟨c, g1, g2⟩ := r0.fz k v (at_map_some ha)
      exact ⟨c, g1, g2.keep st.keep⟩
    · obtain ⟨w, rfl, e2⟩ := h
      obtain ⟨c, g1, g2⟩ := r.fz k v e2
      exact ⟨c, by rw [same k w ha]; exact g1, g2⟩
  · obtain ⟨y, hy, ey⟩ := map_some_at ek
    cases ey
    obtain ⟨h1, h2⟩ := own_ k v hy
    obtain ⟨p, g1, g2, g3⟩ := r.ow k v h1
    exact ⟨p, by rw [h2]; exact g1, g2, g3⟩
  · obtain ⟨y, hy, ey⟩ := map_some_at e1
    cases ey
    obtain ⟨y', hy', ey'⟩ := map_some_at e2
    cases ey'
    obtain ⟨h1, h2⟩ := own_ i v hy
    obtain ⟨h3, h4⟩ := own_ j w hy'
    exact r.ne i j v w p h1 h3 (by rw [← h2]; exact e3) (by rw [← h4]; exact e4)
theorem held_at {s : Sl} : ∀ {as : List SV} {n : Nat}, heldAll s as n = true → ∀ {k : Nat} {v : PV}, as[k]? = some (.own v) → ∃ w, s[n + k]? = some (some w)
  | [], n, h, k, v, e => by simp at e
  | .fz w :: r, n, h, 0, v, e => by simp at e
  | .fz w :: r, n, h, k + 1, v, e => by
    unfold heldAll at h
    have := held_at h (k := k) (v := v) (by simpa using e)
    rwa [show n + (k + 1) = n + 1 + k by omega]
  | .own w :: r, n, h, k, v, e => by
    unfold heldAll at h
    split at h
    · rename_i x ex
      cases k with
      | zero => exact ⟨x, ex⟩
      | succ k =>
        have := held_at h (k := k) (v := v) (by simpa using e)
        rwa [show n + (k + 1) = n + 1 + k by omega]
    · cases h
theorem start_rel {L : List Addr} {H : Hp} {vs : List V} {as : List SV} {ns : Nat} (r0 : RelS B T ⟨H, L⟩ H (vs.map some) (as.map some)) : RelS B T ⟨H, L⟩ H (vs.map some ++ List.replicate ns none) (as.map some ++ List.replicate ns none) := by
  have hv : (vs.map some).length = (as.map some).length := r0.len
  have key : ∀ {i : Nat} {v : SV}, (as.map some ++ List.replicate ns none)[i]? = some (some v) → (as.map some)[i]? = some (some v) ∧ (vs.map some ++ List.replicate ns none)[i]? = (vs.map some)[i]? := fun {i v} e => by
    by_cases hi : i < (as.map some).length
    · rw [List.getElem?_append_left hi] at e
      exact ⟨e, List.getElem?_append_left (by rw [hv]; exact hi)⟩
    · rw [List.getElem?_append_right (Nat.not_lt.mp hi), List.getElem?_replicate] at e
      split at e <;> cases e
  refine ⟨by rw [List.length_append, List.length_append, hv, List.length_replicate, List.length_replicate], fun i v e => ?_, fun i v e => ?_, fun i j v w p e1 e2 e3 e4 => ?_, r0.kept, r0.lin, r0.tabs⟩
  · obtain ⟨h1, h2⟩ := key e
    rw [h2]; exact r0.fz i v h1
  · obtain ⟨h1, h2⟩ := key e
    rw [h2]; exact r0.ow i v h1
  · obtain ⟨h1, h2⟩ := key e1
    obtain ⟨h3, h4⟩ := key e2
    exact r0.ne i j v w p h1 h3 (by rw [← h2]; exact e3) (by rw [← h4]; exact e4)
/-- THE RULE for a def: its body by the small language's body -/
theorem def_okL {Q : Env} {d : Def} {P : Program} {w : World} {K : PySem.W.Frag} {mg : Str → Option Value} {base : Heap} {x qual : Str} {params : Arguments} {body : List Stmt} {scope : Scope} {f : Addr} {dV kV doc pm cdv ct oc : Value} {an od : Option Addr}
    {osl : Array (Option Value)} {N ps : List Str} {k : Nat} (lk : K.lookup f = some ⟨oc, od, .func (PySem.W.fnOf x qual params body scope dV kV doc pm an cdv ct), osl⟩) (hcd : PySem.W.codeIn K cdv qual = true) (S : FnScope N ps scope)
    (hnp : d.np = ps.length) (hns : d.ns = N.length)
    (hbody : ∀ (ro : List Nat) (A : Around) (outer : List PySem.Env) (s : Shared) (H : Hp) (E : XK), Room k (A.deeper (envOfC qual scope s.heap.objs.size f cdv)) → Takes (cxOf (L2.CX P w) P w K mg base N qual scope f cdv A outer s H E) (fun cls d _ H => E cls d H) →
      PassesOwn (model P w) (A.deeper (envOfC qual scope s.heap.objs.size f cdv)) (envOfC qual scope s.heap.objs.size f cdv) (cxOf (L2.CX P w) P w K mg base N qual scope f cdv A outer s H E).xe → PSs (cxOf (L2.CX P w) P w K mg base N qual scope f cdv A outer s H E) body (tSs Q B T (fun cls d _ H => E cls d H) ro d.body)) :
    FnOk P w K mg base (L2.CX P w) (k + 1) f (PySem.W.fnOf x qual params body scope dV kV doc pm an cdv ct) ps (spI B T (runDef Q d)) := by
  refine fn_of lk hcd S (fun vs H Q' E h => ?_) (fun A outer s H vs Q' E hr h => ?_)
  · obtain ⟨as, L, r, h⟩ := h
    unfold runDef at h
    split at h
    · rename_i hl
      have := r.len
      rw [List.length_map, List.length_map] at this
      rw [this, hl.1, hnp]
    · exact h.elim
  · obtain ⟨as, L, r0, h⟩ := h
    refine ⟨_, hbody (ownAt as 0) A outer s H E hr (takes_of rfl rfl rfl rfl) (passes_of rfl), ?_⟩
    unfold runDef at h
    split at h
    · rename_i hl
      have hv : vs.length = as.length := by have := r0.len; rwa [List.length_map, List.length_map] at this
      have hst : L2.start N vs = vs.map some ++ List.replicate (d.ns - d.np) none := by
        unfold L2.start
        rw [hv, hl.1, hns]
      rw [hst]
      refine ⟨⟨H, L⟩, _, start_rel r0, ?_⟩
      have back : ∀ {σ' H' s'} (hh : heldAll s' as 0 = true), StepS (ownAt as 0) (vs.map some ++ List.replicate (d.ns - d.np) none) H σ' H' → RelS B T ⟨H, L⟩ H' σ' s' → RelS B T ⟨H, L⟩ H' (vs.map some) ((outOf s' as 0).map some) ∧ _ := fun {σ' H' s'} hh st r => params_back r0 hl.1 hl.2 st (fun {k v} e => held_at hh e) r
      cases q : exSs Q (ownAt as 0) d.body (as.map some ++ List.replicate (d.ns - d.np) none) with
      | bad => rw [q] at h; exact h.elim
      | brk s' => rw [q] at h; exact h.elim
      | cont s' => rw [q] at h; exact h.elim
      | next s' =>
        rw [q] at h
        have h : RcOk B T ⟨H, L⟩ vs H Q' E (outC s' as (.ok (false, .non))) := h
        unfold outC at h
        split at h
        · rename_i hh
          exact fun σ' H' st r => h .non H' st.keep (back hh st r).1 (show Rp B H' .non .non from .non)
        · exact h.elim
      | ret v s' =>
        rw [q] at h
        have h : RcOk B T ⟨H, L⟩ vs H Q' E (outC s' as (.ok v)) := h
        unfold outC at h
        split at h
        · rename_i hh
          intro c σ' H' st r rr
          obtain ⟨b1, b2⟩ := back hh st r
          refine h c H' st.keep b1 ?_
          obtain ⟨fl, v⟩ := v
          cases fl with
          | false => exact rr
          | true =>
            obtain ⟨p, e, hc, h0, hl', hn⟩ := (show Fresh B ⟨H, L⟩ H' σ' s' c v from rr).ex
            refine (show Fresh B ⟨H, L⟩ H' (vs.map some) ((outOf s' as 0).map some) c v from ⟨p, e, hc, h0, hl', fun j w ej eσ => ?_⟩)
            obtain ⟨y, hy, ey⟩ := map_some_at ej
            cases ey
            obtain ⟨g1, g2⟩ := b2 j w hy
            exact hn j w g1 (by rw [← g2]; exact eσ)
        · exact h.elim
      | err n e s' =>
        rw [q] at h
        have h : RcOk B T ⟨H, L⟩ vs H Q' E (outC s' as (.err n e)) := h
        unfold outC at h
        split at h
        · rename_i hh
          exact fun σ' H' st r => h H' st.keep (back hh st r).1
        · exact h.elim
    · exact h.elim
theorem def_ok {Q : Env} {d : Def} {P : Program} {w : World} {K : PySem.W.Frag} {mg : Str → Option Value} {base : Heap} {x qual : Str} {params : Arguments} {body : List Stmt} {scope : Scope} {f : Addr} {fd : FuncData} {N ps : List Str} {k : Nat} (F : FunD K x qual params body scope [] [] f fd) (S : FnScope N ps scope)
    (hnp : d.np = ps.length) (hns : d.ns = N.length)
    (hbody : ∀ (ro : List Nat) (cdv : Value) (A : Around) (outer : List PySem.Env) (s : Shared) (H : Hp) (E : XK), Room k (A.deeper (envOfC qual scope s.heap.objs.size f cdv)) → Takes (cxOf (L2.CX P w) P w K mg base N qual scope f cdv A outer s H E) (fun cls d _ H => E cls d H) →
      PassesOwn (model P w) (A.deeper (envOfC qual scope s.heap.objs.size f cdv)) (envOfC qual scope s.heap.objs.size f cdv) (cxOf (L2.CX P w) P w K mg base N qual scope f cdv A outer s H E).xe → PSs (cxOf (L2.CX P w) P w K mg base N qual scope f cdv A outer s H E) body (tSs Q B T (fun cls d _ H => E cls d H) ro d.body)) :
    FnOk P w K mg base (L2.CX P w) (k + 1) f fd ps (spI B T (runDef Q d)) := by
  obtain ⟨_, _, _, _, _, _, _, cdv, _, _, rfl, lk, hcd, _⟩ := F.ex
  exact def_okL lk hcd S hnp hns fun ro A outer s H E => hbody ro cdv A outer s H E
end
end Pv

/-! PvSound18: the rules as a printed walk names them. -/
namespace Pv
open PySem PyProof.Rows PySem.Spec L2
/-- the module's names -/
structure Names where
  fn : Nat → Option Str
  glo : Nat → Option Str
  cls : Nat → Option Str
  kw : Nat → Option (Nat × Str × List Str)
  free : List Str
/-- what a body leans on -/
structure Fac (Q : Env) (B : Tbl) (T : Tabl) (M : Names) (P : Program) (w : World) (K : PySem.W.Frag) (mg : Str → Option Value) (base : Heap) (k : Nat) : Prop where
  hK : B.K = K
  call : ∀ f x, M.fn f = some x → ∃ a fd ps, FnOk P w K mg base (L2.CX P w) k a fd ps (spI B T (Q.call f)) ∧ Binds K fd ps [] ∧ PySem.W.keepIn K (.ref a) = true ∧ mg x = some (.ref a)
  fnv : ∀ f a, B.fnA f = some a → ∃ fd ps, FnOk P w K mg base (L2.CX P w) k a fd ps (spI B T (Q.call f)) ∧ Binds K fd ps [] ∧ PySem.W.keepIn K (.ref a) = true
  fnm : ∀ f x, M.fn f = some x → ∃ a, B.fnA f = some a ∧ mg x = some (.ref a)
  kw : ∀ i f x ks, M.kw i = some (f, x, ks) → ∃ a fd ps, FnOk P w K mg base (L2.CX P w) k a fd ps (spI B T (Q.call f)) ∧ KwB K fd ps ks (Q.perm i) ∧ PySem.W.keepIn K (.ref a) = true ∧ mg x = some (.ref a)
  glo : ∀ j x, M.glo j = some x → ∃ v c u, Q.glo j = some v ∧ mg x = some u ∧ RelV c u ∧ ∀ H, Rp B H c v
  free : ∀ x ∈ M.free, mg x = none
  ty : TyOk B Q.sup
  cls : ∀ k x, M.cls k = some x → ∃ A bm Bs ni ii, B.clA k = some A ∧ mg x = some (.ref A) ∧ ExcBaseFacts Bs ni ii bm ∧ PySem.W.excIn K A bm ni = true ∧ PySem.W.keepIn K (.ref A) = true ∧ PySem.W.subIn K (.ref A) (.type "BaseException") = some true ∧ PySem.W.typeIn K (.ref A) = some (.type "type")
section
variable {Q : Env} {B : Tbl} {T : Tabl} {M : Names} {W : WX} {X : Cx} {k : Nat} {ro : List Nat}
abbrev FacX (Q : Env) (B : Tbl) (T : Tabl) (M : Names) (X : Cx) (k : Nat) : Prop := Fac Q B T M X.prog X.w X.K X.mg X.base k
/-! ### names, constants -/
theorem w_v (i : Nat) {x : Str} {pos : Pos} (hN : X.N[i]? = some x := by rfl) (hv : Vis X.env.scope x := by first | exact Or.inl rfl | exact Or.inr (Or.inl rfl) | exact Or.inr (Or.inr rfl)) (hd : (x == ("__debug__" : Str)) = false := by decide)
    (hcd : (x == ("__classdict__" : Str)) = false := by decide) : PE X (.Name x pos) (tP Q B T W (.v i)) := snd_v (pe_var hN hv hd hcd)
theorem w_var (i : Nat) {x : Str} {pos : Pos} (hN : X.N[i]? = some x := by rfl) (hv : Vis X.env.scope x := by first | exact Or.inl rfl | exact Or.inr (Or.inl rfl) | exact Or.inr (Or.inr rfl)) (hd : (x == ("__debug__" : Str)) = false := by decide)
    (hcd : (x == ("__classdict__" : Str)) = false := by decide) : PE X (.Name x pos) (tR Q B T W (.var i)) := snd_var (pe_var hN hv hd hcd)
theorem w_int {i : Int} {j : Nat} {pos : Pos} : PE X (.Constant (.int i) j pos) (tR Q B T W (.cn (.int i))) := snd_leaf (fun s => by rw [evR]) (fun _ => .int _) pe_int
theorem w_bl {i : Bool} {j : Nat} {pos : Pos} : PE X (.Constant (.bool i) j pos) (tR Q B T W (.cn (.bl i))) := snd_leaf (fun s => by rw [evR]) (fun _ => .bl _) pe_bl
theorem w_non {j : Nat} {pos : Pos} : PE X (.Constant .none j pos) (tR Q B T W (.cn .non)) := snd_leaf (fun s => by rw [evR]) (fun _ => .non) pe_non
theorem w_str (s : List Nat) {x : Str} {j : Nat} {pos : Pos} (e : x = toS s := by first | rfl | decide +kernel) : PE X (.Constant (.str x) j pos) (tR Q B T W (.cn (.str s))) := by
  subst e
  exact snd_leaf (fun _ => by rw [evR]) (fun _ => .str _) pe_str
theorem w_glo (F : FacX Q B T M X k) (j : Nat) {x : Str} {pos : Pos} (hm : M.glo j = some x := by rfl) (hg : Gl X x := by rfl) (hd : (x == ("__debug__" : Str)) = false := by decide) : PE X (.Name x pos) (tR Q B T W (.glo j)) := by
  obtain ⟨v, c, u, h1, h2, h3, h4⟩ := F.glo j x hm
  exact snd_leaf (v := v) (c := c) (fun s => by rw [evR, h1]; rfl) h4 (pe_glob hg h2 h3 hd)
theorem w_fnv (F : FacX Q B T M X k) (f : Nat) {x : Str} {pos : Pos} (hm : M.fn f = some x := by rfl) (hg : Gl X x := by rfl) (hd : (x == ("__debug__" : Str)) = false := by decide) : PE X (.Name x pos) (tR Q B T W (.fnv f)) := by
  obtain ⟨a, h1, h2⟩ := F.fnm f x hm
  exact snd_leaf (v := .fn f) (c := .ref a) (fun s => by rw [evR]) (fun _ => .fn h1) (pe_glob hg h2 rfl hd)
/-! ### operators -/
variable {p q : P} {a b c : Expr} {pos : Pos}
theorem w_bin {o : B2} {op : Operator} (ho : OpP X B (binaryOp op) o) (ha : PE X a (tP Q B T W p)) (hb : PE X b (tP Q B T W q)) : PE X (.BinOp a op b pos) (tR Q B T W (.bin o p q)) := snd_bin ho ha hb
theorem u64 (hr : Room k X.A) : X.A.units + 64 < cLine := hr.units
theorem u66 (hr : Room k X.A) : X.A.units + 66 < cLine := by have := hr.un; omega
theorem u1' (hr : Room k X.A) : X.A.units + 1 < cLine := by have := hr.un; omega
theorem o_eq (F : FacX Q B T M X k) (hr : Room k X.A) : OpP X B (compareOp .Eq) .eq := op_eq' (u64 hr) F.hK
theorem o_ne (F : FacX Q B T M X k) (hr : Room k X.A) : OpP X B (compareOp .NotEq) .ne := op_ne' (u64 hr) F.hK
theorem o_in (F : FacX Q B T M X k) (hr : Room k X.A) : OpP X B (compareOp .In) .in_ := op_in' (u66 hr) F.hK
theorem o_nin (F : FacX Q B T M X k) (hr : Room k X.A) : OpP X B (compareOp .NotIn) .nin := op_nin' (u66 hr) F.hK
theorem w_cmp {o : B2} {op : CmpOp} (ho : OpP X B (compareOp op) o) (ha : PE X a (tP Q B T W p)) (hb : PE X b (tP Q B T W q)) (hm : behindInMarks op b = false := by rfl) : PE X (.Compare a [op] [b] pos) (tR Q B T W (.bin o p q)) := snd_cmp ho hm ha hb
theorem w_tcmp {o : B2} {op : CmpOp} (ho : OpP X B (compareOp op) o) (ha : PE X a (tP Q B T W p)) (hb : PE X b (tP Q B T W q)) (hm : behindInMarks op b = false := by rfl) : PT X (.Compare a [op] [b] pos) (tT Q B T W (.cmp o p q)) := snd_tcmp ho hm ha hb
theorem w_chn {o o' : B2} {op op' : CmpOp} {r : P} (ho : OpP X B (compareOp op) o) (ho' : OpP X B (compareOp op') o') (ha : PE X a (tP Q B T W p)) (hb : PE X b (tP Q B T W q)) (hc : PE X c (tP Q B T W r)) (hm : lastMarks [op, op'] [b, c] = false := by rfl) : PE X (.Compare a [op, op'] [b, c] pos) (tR Q B T W (.chn o o' p q r)) := snd_chn ho ho' hm ha hb hc
theorem w_tchn {o o' : B2} {op op' : CmpOp} {r : P} (ho : OpP X B (compareOp op) o) (ho' : OpP X B (compareOp op') o') (ha : PE X a (tP Q B T W p)) (hb : PE X b (tP Q B T W q)) (hc : PE X c (tP Q B T W r)) (hm : lastMarks [op, op'] [b, c] = false := by rfl) : PT X (.Compare a [op, op'] [b, c] pos) (tT Q B T W (.chn o o' p q r)) := snd_tchn ho ho' hm ha hb hc
theorem w_ix (F : FacX Q B T M X k) (hr : Room k X.A) (ha : PE X a (tP Q B T W p)) (hb : PE X b (tP Q B T W q)) (hs : PlainIx b := by intro _ _; rfl) : PE X (.Subscript a b pos) (tR Q B T W (.bin .ix p q)) := snd_ix F.hK (u1' hr) hs ha hb
theorem w_slc (F : FacX Q B T M X k) {l u : O} {lo hi : Option Expr} {p2 : Pos} (ha : PE X a (tP Q B T W p)) (hl : PO X lo (tO Q B T W l)) (hu : PO X hi (tO Q B T W u)) : PE X (.Subscript a (.Slice lo hi none p2) pos) (tR Q B T W (.slc p l u)) := snd_slc F.hK ha hl hu
theorem w_tt (F : FacX Q B T M X k) {e : E} {x : Expr} (ha : PE X x (tR Q B T W e)) (he : ∀ whole, isTrue x X.env whole = (do let v ← whole; standAt x.pos; holding [v] (truthy v)) := by intro _; rfl) : PT X x (tT Q B T W (.tt e)) := snd_tt F.hK ha he
theorem w_pw1 {t : Pv.T} {op : BoolOp} (h : PT X a (tT Q B T W t)) : PW X (.BoolOp op [a] pos) (tT Q B T W t) := by
  cases op with
  | And => exact pw_and1 h
  | Or => exact pw_or1 h
theorem w_es {e : E} {es : Es} {x : Expr} {xs : List Expr} (he : PE X x (tR Q B T W e)) (hr : PA X xs (tEs Q B T W es)) (hs : starEach (x :: xs) X.env = (false, eval x X.env) :: starEach xs X.env := by rfl) : PA X (x :: xs) (tEs Q B T W (.cons e es)) := snd_econs he hr hs
theorem w_fs {e : E} {es : Es} {x : Expr} {xs : List Expr} (he : PE X x (tR Q B T W e)) (hr : PA X xs (tFs Q B T W es)) (hs : starEach (x :: xs) X.env = (false, eval x X.env) :: starEach xs X.env := by rfl) : PA X (x :: xs) (tFs Q B T W (.cons e es)) := snd_fcons he hr hs
theorem w_ae {e : E} {es : As} {x : Expr} {xs : List Expr} (he : PE X x (tR Q B T W e)) (hr : PA X xs (tAs Q B T W es)) (hs : starEach (x :: xs) X.env = (false, eval x X.env) :: starEach xs X.env := by rfl) : PA X (x :: xs) (tAs Q B T W (.e e es)) := snd_ae he hr hs
theorem w_al (i : Nat) {es : As} {x : Str} {pos : Pos} {xs : List Expr} (hr : PA X xs (tAs Q B T W es)) (hN : X.N[i]? = some x := by rfl) (hv : Vis X.env.scope x := by first | exact Or.inl rfl | exact Or.inr (Or.inl rfl) | exact Or.inr (Or.inr rfl)) (hd : (x == ("__debug__" : Str)) = false := by decide)
    (hcd : (x == ("__classdict__" : Str)) = false := by decide) (hs : starEach (.Name x pos :: xs) X.env = (false, eval (.Name x pos) X.env) :: starEach xs X.env := by rfl) : PA X (.Name x pos :: xs) (tAs Q B T W (.l i es)) := snd_al (pe_var hN hv hd hcd) hr hs
theorem w_kl (i : Nat) {es : As} {x : Str} {pos : Pos} {xs : List Keyword} {nm : Option Str} {kp : Pos} (hr : PK X xs (tAs Q B T W es)) (hN : X.N[i]? = some x := by rfl) (hv : Vis X.env.scope x := by first | exact Or.inl rfl | exact Or.inr (Or.inl rfl) | exact Or.inr (Or.inr rfl)) (hd : (x == ("__debug__" : Str)) = false := by decide)
    (hcd : (x == ("__classdict__" : Str)) = false := by decide) : PK X (⟨nm, .Name x pos, kp⟩ :: xs) (tAs Q B T W (.l i es)) := snd_kl (pe_var hN hv hd hcd) hr
/-! ### calls -/
theorem w_call (F : FacX Q B T M X k) (hr : Room k X.A) (tk : Takes X W) (f : Nat) {x : Str} {p pos : Pos} {e : Expr} {es : List Expr} {as : As} (ha : PA X (e :: es) (tAs Q B T W as)) (hm : M.fn f = some x := by rfl) (hg : Gl X x := by rfl) (hdb : (x == ("__debug__" : Str)) = false := by decide)
    (he : starEach (e :: es) X.env = (false, eval e X.env) :: starEach es X.env := by rfl) (hpl : (backTo pos (starEach es X.env)).any (·.1) = false := by rfl) : PE X (.Call (.Name x p) (e :: es) [] pos) (tR Q B T W (.call f as)) := by
  obtain ⟨a, fd, ps, h1, h2, h3, h4⟩ := F.call f x hm
  exact snd_call tk h1 h2 h3 h4 hr hg ha hdb he hpl
theorem w_call0 (F : FacX Q B T M X k) (hr : Room k X.A) (tk : Takes X W) (f : Nat) {x : Str} {p pos : Pos} (hm : M.fn f = some x := by rfl) (hg : Gl X x := by rfl) (hdb : (x == ("__debug__" : Str)) = false := by decide) : PE X (.Call (.Name x p) [] [] pos) (tR Q B T W (.call f .nil)) := by
  obtain ⟨a, fd, ps, h1, h2, h3, h4⟩ := F.call f x hm
  exact snd_call0 tk h1 h2 h3 h4 hr hg hdb
theorem w_callk (F : FacX Q B T M X k) (hr : Room k X.A) (tk : Takes X W) (f i : Nat) {x : Str} {ks : List Str} {p pos : Pos} {kws : List Keyword} {as : As} (ha : PK X kws (tAs Q B T W as)) (hm : M.kw i = some (f, x, ks) := by rfl) (hg : Gl X x := by rfl)
    (hall : (backToKw pos (keywordEach kws X.env)).all (·.1.isSome) = true := by rfl) (hks : (backToKw pos (keywordEach kws X.env)).filterMap (·.1) = ks := by rfl)
    (hdb : (x == ("__debug__" : Str)) = false := by decide) (hpl : ((backTo pos (starEach [] X.env)).any (·.1) || (backToKw pos (keywordEach kws X.env)).any (·.1.isNone)) = false := by rfl) : PE X (.Call (.Name x p) [] kws pos) (tR Q B T W (.callk f as i)) := by
  obtain ⟨a, fd, ps, h1, h2, h3, h4⟩ := F.kw i f x ks hm
  exact snd_callk tk h1 h2 h3 h4 hr hg ha hall hks hdb hpl
theorem w_callv (F : FacX Q B T M X k) (hr : Room k X.A) (tk : Takes X W) (i : Nat) {x : Str} {p pos : Pos} {e : Expr} {es : List Expr} {as : As} (ha : PA X (e :: es) (tAs Q B T W as)) (hN : X.N[i]? = some x := by rfl) (hv : Vis X.env.scope x := by first | exact Or.inl rfl | exact Or.inr (Or.inl rfl) | exact Or.inr (Or.inr rfl))
    (hdb : (x == ("__debug__" : Str)) = false := by decide) (hcd : (x == ("__classdict__" : Str)) = false := by decide) (he : starEach (e :: es) X.env = (false, eval e X.env) :: starEach es X.env := by rfl) (hpl : (backTo pos (starEach es X.env)).any (·.1) = false := by rfl) :
    PE X (.Call (.Name x p) (e :: es) [] pos) (tR Q B T W (.callv i as)) := snd_callv tk F.fnv hr hN hv ha hdb hcd he hpl
/-- a built-in of one argument -/
theorem w_un1 {o : U1} {f : Value} (F : FacX Q B T M X k) (ho : C1 X B f o) (hf : ∀ {x : Str} {t : TA} {r : List V → Hp → VK → Prop} {pp pos : Pos}, Gl X x → X.mg x = none → bootBuiltins x = some f → x ≠ "__name__" → (x == ("__debug__" : Str)) = false → starEach [a] X.env = (false, eval a X.env) :: starEach [] X.env →
      (backTo pos (starEach [] X.env)).any (·.1) = false → CallR X f r → PA X [a] t → PE X (.Call (.Name x pp) [a] [] pos) (tCB r t)) {x : Str} {pp pos : Pos} (ha : PE X a (tP Q B T W p)) (hv : bootBuiltins x = some f) (hm : x ∈ M.free := by decide +kernel) (hg : Gl X x := by rfl) (hn : x ≠ "__name__" := by decide)
    (hdb : (x == ("__debug__" : Str)) = false := by decide) (he : starEach [a] X.env = (false, eval a X.env) :: starEach [] X.env := by rfl) (hpl : (backTo pos (starEach [] X.env)).any (·.1) = false := by rfl) : PE X (.Call (.Name x pp) [a] [] pos) (tR Q B T W (.un o p)) :=
  snd_un ho ha (fun hc hA => hf hg (F.free x hm) hv hn hdb he hpl hc hA) he
theorem w_unB {o : U1} {id : String} (F : FacX Q B T M X k) (ho : C1 X B (.builtin id) o) {x : Str} {pp pos : Pos} (ha : PE X a (tP Q B T W p)) (hv : bootBuiltins x = some (.builtin id)) (hm : x ∈ M.free := by decide +kernel) (hg : Gl X x := by rfl) (hn : x ≠ "__name__" := by decide)
    (hdb : (x == ("__debug__" : Str)) = false := by decide) (he : starEach [a] X.env = (false, eval a X.env) :: starEach [] X.env := by rfl) (hpl : (backTo pos (starEach [] X.env)).any (·.1) = false := by rfl) : PE X (.Call (.Name x pp) [a] [] pos) (tR Q B T W (.un o p)) :=
  snd_un ho ha (fun hc hA => pe_callB hc hg (F.free x hm) hv hA hn hdb he hpl) he
theorem w_unT {o : U1} {id : String} (F : FacX Q B T M X k) (ho : C1 X B (.type id) o) {x : Str} {pp pos : Pos} (ha : PE X a (tP Q B T W p)) (hv : bootBuiltins x = some (.type id)) (hm : x ∈ M.free := by decide +kernel) (hg : Gl X x := by rfl) (hn : x ≠ "__name__" := by decide)
    (hdb : (x == ("__debug__" : Str)) = false := by decide) (he : starEach [a] X.env = (false, eval a X.env) :: starEach [] X.env := by rfl) (hpl : (backTo pos (starEach [] X.env)).any (·.1) = false := by rfl) : PE X (.Call (.Name x pp) [a] [] pos) (tR Q B T W (.un o p)) :=
  snd_un ho ha (fun hc hA => pe_callTy hc hg (F.free x hm) hv hA hn hdb he hpl) he
theorem w_len (F : FacX Q B T M X k) {pp pos : Pos} (ha : PE X a (tP Q B T W p)) (hm : ("len" : Str) ∈ M.free := by decide +kernel) (hg : Gl X "len" := by rfl) (he : starEach [a] X.env = (false, eval a X.env) :: starEach [] X.env := by rfl) (hpl : (backTo pos (starEach [] X.env)).any (·.1) = false := by rfl) : PE X (.Call (.Name "len" pp) [a] [] pos) (tR Q B T W (.un .len p)) := w_unB F (call_len' F.hK) ha boot_len hm hg (by decide) (by decide) he hpl
theorem w_all (F : FacX Q B T M X k) (hc : X.calm = true) {pp pos : Pos} (ha : PE X a (tP Q B T W p)) (hm : ("all" : Str) ∈ M.free := by decide +kernel) (hg : Gl X "all" := by rfl) (he : starEach [a] X.env = (false, eval a X.env) :: starEach [] X.env := by rfl) (hpl : (backTo pos (starEach [] X.env)).any (·.1) = false := by rfl) : PE X (.Call (.Name "all" pp) [a] [] pos) (tR Q B T W (.un .all p)) := w_unB F (call_all' hc) ha boot_all hm hg (by decide) (by decide) he hpl
theorem w_any (F : FacX Q B T M X k) (hc : X.calm = true) {pp pos : Pos} (ha : PE X a (tP Q B T W p)) (hm : ("any" : Str) ∈ M.free := by decide +kernel) (hg : Gl X "any" := by rfl) (he : starEach [a] X.env = (false, eval a X.env) :: starEach [] X.env := by rfl) (hpl : (backTo pos (starEach [] X.env)).any (·.1) = false := by rfl) : PE X (.Call (.Name "any" pp) [a] [] pos) (tR Q B T W (.un .any p)) := w_unB F (call_any' hc) ha boot_any hm hg (by decide) (by decide) he hpl
theorem w_tuple (F : FacX Q B T M X k) {pp pos : Pos} (ha : PE X a (tP Q B T W p)) (hm : ("tuple" : Str) ∈ M.free := by decide +kernel) (hg : Gl X "tuple" := by rfl) (he : starEach [a] X.env = (false, eval a X.env) :: starEach [] X.env := by rfl) (hpl : (backTo pos (starEach [] X.env)).any (·.1) = false := by rfl) : PE X (.Call (.Name "tuple" pp) [a] [] pos) (tR Q B T W (.un .tuple p)) := w_unT F (call_tuple' F.hK) ha PyProof.Rows.boot_tuple hm hg (by decide) (by decide) he hpl
theorem w_toint (F : FacX Q B T M X k) {pp pos : Pos} (ha : PE X a (tP Q B T W p)) (hm : ("int" : Str) ∈ M.free := by decide +kernel) (hg : Gl X "int" := by rfl) (he : starEach [a] X.env = (false, eval a X.env) :: starEach [] X.env := by rfl) (hpl : (backTo pos (starEach [] X.env)).any (·.1) = false := by rfl) : PE X (.Call (.Name "int" pp) [a] [] pos) (tR Q B T W (.un .toint p)) := w_unT F call_int' ha PyProof.Rows.boot_int hm hg (by decide) (by decide) he hpl
theorem w_min (F : FacX Q B T M X k) (hc : X.calm = true) {pp pos : Pos} (ha : PE X a (tP Q B T W p)) (hb : PE X b (tP Q B T W q)) (hm : ("min" : Str) ∈ M.free := by decide +kernel) (hg : Gl X "min" := by rfl) (he : starEach [a, b] X.env = (false, eval a X.env) :: starEach [b] X.env := by rfl) (he2 : starEach [b] X.env = (false, eval b X.env) :: starEach [] X.env := by rfl) (hpl : (backTo pos (starEach [b] X.env)).any (·.1) = false := by rfl) :
    PE X (.Call (.Name "min" pp) [a, b] [] pos) (tR Q B T W (.bin .min2 p q)) := snd_call2 (call_min' hc) ha hb (fun hC hA => pe_callB hC hg (F.free _ hm) boot_min hA (by decide) (by decide) he hpl) he he2
theorem w_max (F : FacX Q B T M X k) (hc : X.calm = true) {pp pos : Pos} (ha : PE X a (tP Q B T W p)) (hb : PE X b (tP Q B T W q)) (hm : ("max" : Str) ∈ M.free := by decide +kernel) (hg : Gl X "max" := by rfl) (he : starEach [a, b] X.env = (false, eval a X.env) :: starEach [b] X.env := by rfl) (he2 : starEach [b] X.env = (false, eval b X.env) :: starEach [] X.env := by rfl) (hpl : (backTo pos (starEach [b] X.env)).any (·.1) = false := by rfl) :
    PE X (.Call (.Name "max" pp) [a, b] [] pos) (tR Q B T W (.bin .max2 p q)) := snd_call2 (call_max' hc) ha hb (fun hC hA => pe_callB hC hg (F.free _ hm) boot_max hA (by decide) (by decide) he hpl) he he2
/-! ### isinstance -/
theorem w_ty (F : FacX Q B T M X k) {x : Str} {n : String} {pos : Pos} (hv : bootBuiltins x = some (.type n)) (hm : x ∈ M.free := by decide +kernel) (hg : Gl X x := by rfl) (hn : x ≠ "__name__" := by decide) (hdb : (x == ("__debug__" : Str)) = false := by decide) : PE X (.Name x pos) (tC (.ty n)) := pe_bltn hg (F.free x hm) hv rfl hn hdb
theorem w_isT (F : FacX Q B T M X k) {t : Ty} {n : String} {pp pos : Pos} (ht : tyVal B t = some (.type n)) (ha : PE X a (tP Q B T W p)) (hb : PE X b (tC (.ty n))) (hm : ("isinstance" : Str) ∈ M.free := by decide +kernel) (hg : Gl X "isinstance" := by rfl) (he : starEach [a, b] X.env = (false, eval a X.env) :: starEach [b] X.env := by rfl) (he2 : starEach [b] X.env = (false, eval b X.env) :: starEach [] X.env := by rfl) (hpl : (backTo pos (starEach [b] X.env)).any (·.1) = false := by rfl) :
    PE X (.Call (.Name "isinstance" pp) [a, b] [] pos) (tR Q B T W (.isi p [t])) := snd_isi F.ty F.hK ht (d := .ty n) rfl (fun w h => h) ha hb he he2 fun hC hA => pe_callB hC hg (F.free _ hm) boot_isinstance hA (by decide) (by decide) he hpl
theorem w_isC (F : FacX Q B T M X k) (c : Nat) {x : Str} {px pp pos : Pos} (ha : PE X a (tP Q B T W p)) (hx : M.cls c = some x := by rfl) (hgx : Gl X x := by rfl) (hdx : (x == ("__debug__" : Str)) = false := by decide) (hm : ("isinstance" : Str) ∈ M.free := by decide +kernel) (hg : Gl X "isinstance" := by rfl) (he : starEach [a, .Name x px] X.env = (false, eval a X.env) :: starEach [.Name x px] X.env := by rfl) (he2 : starEach [.Name x px] X.env = (false, eval (.Name x px) X.env) :: starEach [] X.env := by rfl) (hpl : (backTo pos (starEach [.Name x px] X.env)).any (·.1) = false := by rfl) :
    PE X (.Call (.Name "isinstance" pp) [a, .Name x px] [] pos) (tR Q B T W (.isi p [.cls c])) := by
  obtain ⟨A, bm, Bs, ni, ii, h1, h2, h3, h4, h5, h6, h7⟩ := F.cls c x hx
  exact snd_isi F.ty F.hK (t := .cls c) (d := .ref A) (v := .ref A) (show Option.map Value.ref (B.clA c) = some (Value.ref A) by rw [h1]; rfl) rfl (fun w h => h) ha (pe_glob hgx h2 rfl hdx) he he2 fun hC hA => pe_callB hC hg (F.free _ hm) boot_isinstance hA (by decide) (by decide) he hpl
/-! ### methods -/
theorem w_join (F : FacX Q B T M X k) {e : E} {apos : Pos} (ha : PE X a (tR Q B T W e)) (hb : PE X b (tP Q B T W q)) (hs : starEach [b] X.env = [(false, eval b X.env)] := by rfl) (hbase : attributeBase a "join" X.env (eval a X.env) = eval a X.env := by rfl) (hline : (apos.endLine == pos.line) = true := by rfl) :
    PE X (.Call (.Attribute a "join" apos) [b] [] pos) (tR Q B T W (.meth .join e q)) := snd_methS (a := a) (b := b) (mt_join' F.hK) (fun v h => by cases v <;> first | exact ⟨_, rfl⟩ | cases h) ha hb fun hM => pe_m1 PySem.F.slot_str_join PySem.F.type_str_join hM (lockR ha) hb hs hbase hline
theorem w_sfind (hc : X.calm = true) {e : E} {apos : Pos} (ha : PE X a (tR Q B T W e)) (hb : PE X b (tP Q B T W q)) (hs : starEach [b] X.env = [(false, eval b X.env)] := by rfl) (hbase : attributeBase a "index" X.env (eval a X.env) = eval a X.env := by rfl) (hline : (apos.endLine == pos.line) = true := by rfl) :
    PE X (.Call (.Attribute a "index" apos) [b] [] pos) (tR Q B T W (.meth .sfind e q)) := snd_methS (a := a) (b := b) (mt_sfind' hc) (fun v h => by cases v <;> first | exact ⟨_, rfl⟩ | cases h) ha hb fun hM => pe_m1 PySem.F.slot_str_index PySem.F.type_str_index hM (lockR ha) hb hs hbase hline
theorem w_lfind (F : FacX Q B T M X k) (hr : Room k X.A) {e : E} {apos : Pos} (ha : PE X a (tR Q B T W e)) (hb : PE X b (tP Q B T W q)) (hs : starEach [b] X.env = (false, eval b X.env) :: starEach [] X.env := by rfl) (hbase : attributeBase a "index" X.env (eval a X.env) = eval a X.env := by rfl)
    (hfew : ((backTo pos (starEach [b] X.env)).all (fun x => !x.1) && (backToKw pos (keywordEach [] X.env)).all (fun x => x.1.isSome) && decide (([b] : List Expr).length + ([] : List Keyword).length + (if ([] : List Keyword).isEmpty then 0 else 1) < 30)) = true := by rfl) (hline : (apos.endLine == pos.line) = true := by rfl) (hpl : (backTo pos (starEach [] X.env)).any (·.1) = false := by rfl) :
    PE X (.Call (.Attribute a "index" apos) [b] [] pos) (tR Q B T W (.meth .lfind e q)) := snd_methL (a := a) (b := b) (mt_lfind' F.hK (u66 hr)) (fun v h => by cases v <;> first | exact ⟨_, rfl⟩ | cases h) ha hb hs fun hM hA => pe_bm PySem.F.plainAttrs_list PySem.F.slot_list_index PySem.F.type_list_index hM (lockR ha) hA hbase hfew hline hs hpl
/-! ### dicts -/
theorem w_dic {d : Ds} {keys : List (Option Expr)} {values : List Expr} {pos : Pos} (h : PPs X pos keys values (trD Q B T W d)) (hall : keys.all (·.isSome) = true := by rfl) (hl : keys.length = values.length := by rfl) (h0 : keys ≠ [] := by intro z; cases z) (h15 : keys.length ≤ 15 := by show (_ : Nat) ≤ 15; decide) : PE X (.Dict keys values pos) (tR Q B T W (.dic d)) := snd_dic h hall hl h0 h15
/-! ### targets -/
theorem w_nm (i : Nat) {x : Str} {pos : Pos} (hN : X.N.Nodup) (hi : X.N[i]? = some x := by rfl) (hx : Loc X.env.scope x := by first | exact Or.inl rfl | exact Or.inr rfl) (hf : X.fn x = true ∨ X.env.scope.names.lookup x = some .local := by first | exact .inl rfl | exact .inr rfl) : PG X (.Name x pos) (gTg X.K (.nm i)) := pg_name hN hi hx hf
theorem w_gnil : PGs X [] (gAll []) := pgs_nil
theorem w_gcons (i : Nat) {is : List Nat} {x : Str} {pos : Pos} {es : List Expr} (hN : X.N.Nodup) (h : PGs X es (gAll is)) (hi : X.N[i]? = some x := by rfl) (hx : Loc X.env.scope x := by first | exact Or.inl rfl | exact Or.inr rfl) (hf : X.fn x = true ∨ X.env.scope.names.lookup x = some .local := by first | exact .inl rfl | exact .inr rfl)
    (hs : (assignEach (.Name x pos :: es) X.env).map (·.2) = assign (.Name x pos) X.env :: (assignEach es X.env).map (·.2) := by rfl) : PGs X (.Name x pos :: es) (gAll (i :: is)) := pgs_cons (pg_name hN hi hx hf) h hs
theorem w_tp {is : List Nat} {es : List Expr} {kk : Nat} {pos : Pos} (hc : X.calm = true) (h : PGs X es (gAll is)) (hn : (assignEach es X.env).length = is.length := by rfl) (hst : (assignEach es X.env).findIdx? (·.1) = none := by rfl) : PG X (.Tuple es kk pos) (gTg X.K (.tp is)) := pg_tup hc h hn hst
/-! ### what is walked -/
theorem w_rng1 (F : FacX Q B T M X k) {e : E} {tg x : Expr} {p pos : Pos} (he : PE X x (tR Q B T W e)) (hm : ("range" : Str) ∈ M.free := by decide +kernel) (hg : Gl X "range" := by rfl) (hs : starEach [x] X.env = [(false, eval x X.env)] := by rfl) : PI X tg (.Call (.Name "range" p) [x] [] pos) (tI Q B T W (.rng1 e)) := snd_rng1 hg (F.free _ hm) he hs hs
theorem w_rng2 (F : FacX Q B T M X k) {e e2 : E} {tg x y : Expr} {p pos : Pos} (ha : PE X x (tR Q B T W e)) (hb : PE X y (tR Q B T W e2)) (hm : ("range" : Str) ∈ M.free := by decide +kernel) (hg : Gl X "range" := by rfl) (hs : starEach [x, y] X.env = [(false, eval x X.env), (false, eval y X.env)] := by rfl) (hs2 : starEach [y] X.env = [(false, eval y X.env)] := by rfl)
    (hs3 : starEach [x, y] X.env = (false, eval x X.env) :: starEach [y] X.env := by rfl) : PI X tg (.Call (.Name "range" p) [x, y] [] pos) (tI Q B T W (.rng2 e e2)) := snd_rng2 hg (F.free _ hm) ha hb hs hs2 hs3 hs2
theorem w_zip (F : FacX Q B T M X k) {e e2 : E} {elts : List Expr} {kk : Nat} {tpos : Pos} {x y : Expr} {p pos : Pos} (ha : PE X x (tR Q B T W e)) (hb : PE X y (tR Q B T W e2)) (hm : ("zip" : Str) ∈ M.free := by decide +kernel) (hg : Gl X "zip" := by rfl) (hpl : (backTo pos (starEach [y] X.env)).any (·.1) = false := by rfl)
    (hs3 : starEach [x, y] X.env = (false, eval x X.env) :: starEach [y] X.env := by rfl) (hs4 : starEach [y] X.env = (false, eval y X.env) :: starEach [] X.env := by rfl) : PI X (.Tuple elts kk tpos) (.Call (.Name "zip" p) [x, y] [] pos) (tI Q B T W (.zip e e2)) := snd_zip F.hK hg (F.free _ hm) ha hb hpl hs3 hs4
theorem w_enum (F : FacX Q B T M X k) {e : E} {elts : List Expr} {kk : Nat} {tpos : Pos} {x : Expr} {p pos : Pos} (ha : PE X x (tR Q B T W e)) (hm : ("enumerate" : Str) ∈ M.free := by decide +kernel) (hg : Gl X "enumerate" := by rfl) (hs : starEach [x] X.env = [(false, eval x X.env)] := by rfl) : PI X (.Tuple elts kk tpos) (.Call (.Name "enumerate" p) [x] [] pos) (tI Q B T W (.enum e)) := snd_enum hg (F.free _ hm) ha hs hs
theorem w_comp (F : FacX Q B T M X k) (own : List (Str × Nat)) {e : E} {t : Tg} {it : It} {c : O'} {elt tg iter : Expr} {ifs : List Expr} {scope : Scope} {pos : Pos} (hc : X.calm = true) (hN : X.N.Nodup) (hi : PI X tg iter (tI Q B T W it))
    (hg : ∀ (s : Shared) (H : Hp) (C : Addr) (cl : List (Str × Addr)) (fp : List Addr), PG (X.blk s H scope (compEnvC scope cl C X.env) fp) tg (gTg X.K t)) (ht : ∀ (s : Shared) (H : Hp) (C : Addr) (cl : List (Str × Addr)) (fp : List Addr), PTs (X.blk s H scope (compEnvC scope cl C X.env) fp) ifs (tOC Q B T W0 c))
    (he : ∀ (s : Shared) (H : Hp) (C : Addr) (cl : List (Str × Addr)) (fp : List Addr), PE (X.blk s H scope (compEnvC scope cl C X.env) fp) elt (tR Q B T W0 e)) (ok : blkC X.N X.env.scope scope own = true := by first | kernel_rfl | rfl) (hin : tgIn t (own.map (·.2)) = true := by rfl) (hs : ∀ x, foldedSetIterable iter X.env x = pure x := by intro _; rfl) :
    PE X (.ListComp elt [⟨tg, iter, ifs, 0⟩] scope pos) (tR Q B T W (.comp e t it c (own.map (·.2)))) := snd_comp F.hK hc hN hi (blkOk_by ok) hin hg ht he hs
theorem w_asgLc (F : FacX Q B T M X k) (own : List (Str × Nat)) (i : Nat) {y : Str} {py : Pos} {e : E} {t : Tg} {it : It} {c : O'} {elt tg iter : Expr} {ifs : List Expr} {scope : Scope} {pos spos : Pos} (hc : X.calm = true) (hN : X.N.Nodup) (hi : PI X tg iter (tI Q B T W it))
    (hg : ∀ (s : Shared) (H : Hp) (C : Addr) (cl : List (Str × Addr)) (fp : List Addr), PG (X.blk s H scope (compEnvC scope cl C X.env) fp) tg (gTg X.K t)) (ht : ∀ (s : Shared) (H : Hp) (C : Addr) (cl : List (Str × Addr)) (fp : List Addr), PTs (X.blk s H scope (compEnvC scope cl C X.env) fp) ifs (tOC Q B T W0 c))
    (he : ∀ (s : Shared) (H : Hp) (C : Addr) (cl : List (Str × Addr)) (fp : List Addr), PE (X.blk s H scope (compEnvC scope cl C X.env) fp) elt (tR Q B T W0 e)) (hy : X.N[i]? = some y := by rfl) (hyl : X.env.scope.names.lookup y = some .local := by rfl) (hsw : swapsWith (.ListComp elt [⟨tg, iter, ifs, 0⟩] scope pos) (some (.Name y py)) spos.line X.env = pure true := by rfl) (ok : blkC X.N X.env.scope scope own = true := by first | kernel_rfl | rfl) (hin : tgIn t (own.map (·.2)) = true := by rfl) (hs : ∀ x, foldedSetIterable iter X.env x = pure x := by intro _; rfl) :
    PS X (.Assign [.Name y py] (.ListComp elt [⟨tg, iter, ifs, 0⟩] scope pos) spos) (tS Q B T W ro (.asg i (.comp e t it c (own.map (·.2))))) := snd_asgLc F.hK hc hN hy hyl hsw hi (blkOk_by ok) hin hg ht he hs
/-! ### statements -/
theorem w_asg (i : Nat) {e : E} {x : Str} {y : Expr} {pos pos' : Pos} (hN : X.N.Nodup) (he : PE X y (tR Q B T W e)) (hi : X.N[i]? = some x := by rfl) (hx : Loc X.env.scope x := by first | exact Or.inl rfl | exact Or.inr rfl) (hs : swapsWith y (some (.Name x pos')) pos.line X.env = pure false := by rfl) (hf : X.fn x = true ∨ X.env.scope.names.lookup x = some .local := by first | exact .inl rfl | exact .inr rfl) :
    PS X (.Assign [.Name x pos'] y pos) (tS Q B T W ro (.asg i e)) := snd_asg hN hi hx he hs hf
theorem w_asgT (F : FacX Q B T M X k) {is : List Nat} {e : E} {y tg : Expr} {pos : Pos} (he : PE X y (tR Q B T W e)) (hg : PG X tg (gTg X.K (.tp is))) (hs : swapsWithSole [tg] y pos.line X.env = pure false := by rfl) (hw : swappedStores [tg] y X.env = pure none := by rfl)
    (h1 : (assignEach [tg] X.env).map (·.2) = [assign tg X.env] := by rfl) : PS X (.Assign [tg] y pos) (tS Q B T W ro (.asgT is e)) := snd_asgT F.hK he hg hs hw h1
theorem w_par2 (i j : Nat) {es : Es} {x y : Str} {a b : Expr} {px py pt pos : Pos} {kt k2 : Nat} {pt2 : Pos} (hc : X.calm = true) (hN : X.N.Nodup) (ha : PA X [a, b] (tFs Q B T W es)) (hi : X.N[i]? = some x := by rfl) (hj : X.N[j]? = some y := by rfl) (hij : i ≠ j := by decide)
    (hx : X.env.scope.names.lookup x = some .local := by rfl) (hy : X.env.scope.names.lookup y = some .local := by rfl)
    (hw : swappedStores [.Tuple [.Name x px, .Name y py] kt pt] (.Tuple [a, b] k2 pt2) X.env = pure (some [x, y]) := by rfl) (hs : swapsWithSole [.Tuple [.Name x px, .Name y py] kt pt] (.Tuple [a, b] k2 pt2) pos.line X.env = pure false := by rfl) :
    PS X (.Assign [.Tuple [.Name x px, .Name y py] kt pt] (.Tuple [a, b] k2 pt2) pos) (tS Q B T W ro (.par [i, j] es)) := snd_par2 hc hN hi hj hij hx hy ha hw hs
theorem w_parT (F : FacX Q B T M X k) {is : List Nat} {es : Es} {ts as : List Expr} {kt k2 : Nat} {pt pt2 pos : Pos} (ha : PA X as (tFs Q B T W es)) (hg : PG X (.Tuple ts kt pt) (gTg X.K (.tp is)))
    (hs : swapsWithSole [.Tuple ts kt pt] (.Tuple as k2 pt2) pos.line X.env = pure false := by rfl) (hw : swappedStores [.Tuple ts kt pt] (.Tuple as k2 pt2) X.env = pure none := by rfl)
    (h1 : (assignEach [.Tuple ts kt pt] X.env).map (·.2) = [assign (.Tuple ts kt pt) X.env] := by rfl) (hz : is.length ≤ sizeLine := by decide) : PS X (.Assign [.Tuple ts kt pt] (.Tuple as k2 pt2) pos) (tS Q B T W ro (.par is es)) := snd_parT F.hK ha hg hs hw h1 hz
theorem w_expr {e : E} {x : Expr} {pos : Pos} (h : PE X x (tR Q B T W e)) (hs : swapsWith x none pos.line X.env = pure false := by rfl) : PS X (.Expr x pos) (tS Q B T W ro (.expr e)) := snd_expr h hs
theorem w_app (i : Nat) {e : E} {x : Str} {px : Pos} {a : Expr} {apos cpos pos : Pos} (ha : PE X a (tR Q B T W e)) (hN : X.N[i]? = some x := by rfl) (hv : Vis X.env.scope x := by first | exact Or.inl rfl | exact Or.inr (Or.inl rfl) | exact Or.inr (Or.inr rfl)) (hd : (x == ("__debug__" : Str)) = false := by decide)
    (hcd : (x == ("__classdict__" : Str)) = false := by decide) (hs : starEach [a] X.env = (false, eval a X.env) :: starEach [] X.env := by rfl) (hbase : attributeBase (.Name x px) "append" X.env (eval (.Name x px) X.env) = eval (.Name x px) X.env := by rfl)
    (hfew : ((backTo cpos (starEach [a] X.env)).all (fun x => !x.1) && (backToKw cpos (keywordEach [] X.env)).all (fun x => x.1.isSome) && decide (([a] : List Expr).length + ([] : List Keyword).length + (if ([] : List Keyword).isEmpty then 0 else 1) < 30)) = true := by rfl) (hline : (apos.endLine == cpos.line) = true := by rfl) (hpl : (backTo cpos (starEach [] X.env)).any (·.1) = false := by rfl)
    (hsw : swapsWith (.Call (.Attribute (.Name x px) "append" apos) [a] [] cpos) none pos.line X.env = pure false := by rfl) : PS X (.Expr (.Call (.Attribute (.Name x px) "append" apos) [a] [] cpos) pos) (tS Q B T W ro (.app i e)) :=
  snd_app (pe_var hN hv hd hcd) ha hs (fun hM hO hA => pe_bm PySem.F.plainAttrs_list PySem.F.slot_list_append PySem.F.type_list_append hM hO hA hbase hfew hline hs hpl) hsw
theorem w_ext (i : Nat) {e : E} {x : Str} {px : Pos} {a : Expr} {apos cpos pos : Pos} (ha : PE X a (tR Q B T W e)) (hN : X.N[i]? = some x := by rfl) (hv : Vis X.env.scope x := by first | exact Or.inl rfl | exact Or.inr (Or.inl rfl) | exact Or.inr (Or.inr rfl)) (hd : (x == ("__debug__" : Str)) = false := by decide)
    (hcd : (x == ("__classdict__" : Str)) = false := by decide) (hs : starEach [a] X.env = (false, eval a X.env) :: starEach [] X.env := by rfl) (hbase : attributeBase (.Name x px) "extend" X.env (eval (.Name x px) X.env) = eval (.Name x px) X.env := by rfl)
    (hfew : ((backTo cpos (starEach [a] X.env)).all (fun x => !x.1) && (backToKw cpos (keywordEach [] X.env)).all (fun x => x.1.isSome) && decide (([a] : List Expr).length + ([] : List Keyword).length + (if ([] : List Keyword).isEmpty then 0 else 1) < 30)) = true := by rfl) (hline : (apos.endLine == cpos.line) = true := by rfl) (hpl : (backTo cpos (starEach [] X.env)).any (·.1) = false := by rfl)
    (hsw : swapsWith (.Call (.Attribute (.Name x px) "extend" apos) [a] [] cpos) none pos.line X.env = pure false := by rfl) : PS X (.Expr (.Call (.Attribute (.Name x px) "extend" apos) [a] [] cpos) pos) (tS Q B T W ro (.ext i e)) :=
  snd_ext (pe_var hN hv hd hcd) ha hs (fun hM hO hA => pe_bm PySem.F.plainAttrs_list PySem.F.slot_list_extend PySem.F.type_list_extend hM hO hA hbase hfew hline hs hpl) hsw
theorem w_put (hr : Room k X.A) (i : Nat) {k' v : E} {o : Str} {po : Pos} {x y : Expr} {pos p1 : Pos} (hk : PE X x (tR Q B T W k')) (hv : PE X y (tR Q B T W v)) (hN : X.N[i]? = some o := by rfl) (hvi : Vis X.env.scope o := by first | exact Or.inl rfl | exact Or.inr (Or.inl rfl) | exact Or.inr (Or.inr rfl)) (hd : (o == ("__debug__" : Str)) = false := by decide)
    (hcd : (o == ("__classdict__" : Str)) = false := by decide) (ha : ∀ v, assign (.Subscript (.Name o po) x p1) X.env v = (do
      let ov ← holding [v] (eval (.Name o po) X.env)
      let iv ← holding [v, ov] (eval x X.env)
      standAt p1
      holding [v, ov, iv] (setItem ov iv v); release [v, ov, iv] []) := by intro _; rfl) (hs : swapsWithSole [.Subscript (.Name o po) x p1] y pos.line X.env = pure false := by rfl) (hw : swappedStores [.Subscript (.Name o po) x p1] y X.env = pure none := by rfl)
    (h1 : (assignEach [.Subscript (.Name o po) x p1] X.env).map (·.2) = [assign (.Subscript (.Name o po) x p1) X.env] := by rfl) : PS X (.Assign [.Subscript (.Name o po) x p1] y pos) (tS Q B T W ro (.put i k' v)) :=
  snd_put (u1' hr) (pe_var hN hvi hd hcd) hk hv (fun hO hI hS => pg_sub hO hI hS ha) hs hw h1
theorem w_for (F : FacX Q B T M X k) {t : Tg} {it : It} {tg x : Expr} {bs : List Stmt} {b : Ss} {pos : Pos} (hp : PassesOwn (model X.prog X.w) X.A X.env X.xe) (hc : X.calm = true) (hi : PI X tg x (tI Q B T W it)) (hg : PG X tg (gTg X.K t)) (hb : PSs X bs (tSs Q B T W ro b)) (hs : ∀ y, foldedSetIterable x X.env y = pure y := by intro _; rfl) :
    PS X (.For tg x bs [] pos) (tS Q B T W ro (.for_ t it b)) := snd_for F.hK hp hc hi hg hb hs
theorem w_raise (F : FacX Q B T M X k) (tk : Takes X W) (c : Nat) {x m : Str} {j : Nat} {p p2 pos pos' : Pos} (hc : X.calm = true) (hx : M.cls c = some x := by rfl) (hg : Gl X x := by rfl) (hdb : (x == ("__debug__" : Str)) = false := by decide) : PS X (.Raise (some (.Call (.Name x p) [.Constant (.str m) j p2] [] pos)) none pos') (tS Q B T W ro (.raise c)) := by
  obtain ⟨A, bm, Bs, ni, ii, h1, h2, h3, h4, h5, h6, h7⟩ := F.cls c x hx
  exact snd_raise hc tk h3 h4 h2 h5 (raises_own h6 h7) hg h1 hdb
end
end Pv

/-! PvSound19: caught errors by names; the law's own def. -/
namespace Pv
open PySem PyProof.Rows PySem.Spec L2
/-- the def that calls what it gets and gives the error caught -/
def CauO (Q : Env) (B : Tbl) (K : PySem.W.Frag) (mg : Str → Option Value) (x : Str) : Prop := ∃ (a e c1 n : Str) (g CS : Addr) (pg : Arguments) (sg : Scope) (dV kV doc pm cdv ct oc : Value) (an od : Option Addr) (osl : Array (Option Value)) (p1 p2 p3 p4 p5 p6 p7 p8 p9 p10 p11 p12 p13 p14 : Pos) (j : Nat),
  mg x = some (.ref g) ∧ PySem.W.keepIn K (.ref g) = true ∧
  K.lookup g = some ⟨oc, od, .func (PySem.W.fnOf x x pg [.Assign [.Name c1 p1] (.Constant .none j p2) p3, .Try [.Expr (.Call (.Name a p4) [] [] p5) p6] [.ExceptHandler (some (.Name e p7)) (some n) [.Assign [.Name c1 p8] (.Name n p9) p10] p11] [] [] p12, .Return (some (.Name c1 p13)) p14] sg dV kV doc pm an cdv ct), osl⟩ ∧
  PySem.W.codeIn K cdv x = true ∧ L2.Binds K (PySem.W.fnOf x x pg [.Assign [.Name c1 p1] (.Constant .none j p2) p3, .Try [.Expr (.Call (.Name a p4) [] [] p5) p6] [.ExceptHandler (some (.Name e p7)) (some n) [.Assign [.Name c1 p8] (.Name n p9) p10] p11] [] [] p12, .Return (some (.Name c1 p13)) p14] sg dV kV doc pm an cdv ct) [a] [] ∧
  FnScope [a, c1, n] [a] sg ∧ Vis sg a ∧ sg.names.lookup e = some .globalImplicit ∧ mg e = some (.ref CS) ∧ (e == ("__debug__" : Str)) = false ∧ sg.names.lookup c1 = some .local ∧ sg.names.lookup n = some .local ∧
  ((c1 == ("__debug__" : Str)) = false ∧ (c1 == ("__classdict__" : Str)) = false ∧ (n == ("__debug__" : Str)) = false ∧ (n == ("__classdict__" : Str)) = false ∧ (a == ("__debug__" : Str)) = false ∧ (a == ("__classdict__" : Str)) = false) ∧
  ∀ n, Q.sup n 0 = true → ∃ D, B.clA n = some D ∧ PySem.W.exmOne K (.ref D) (.ref CS) = some true
/-- the lambdas' table of the def at hand -/
structure LamC (T : Tabl) (base : Heap) (mg : Str → Option Value) (c Pt : Addr) (q : Str) : Prop where
  tb : LamX.TabB base mg c Pt
  mem : (Pt, q) ∈ T
  un : ∀ p ∈ T, p.1 = Pt → p.2 = q
section
variable {Q : Env} {B : Tbl} {T : Tabl} {M : Names} {W : WX} {X : Cx} {k : Nat} {ro : List Nat}
theorem w_caught {x : Str} (CF : CauO Q B X.K X.mg x) {c Pt : Addr} (LC : LamC T X.base X.mg c Pt (X.env.qual ++ "<lambda>")) (hr : Room (k + 2) X.A) {b : E} {params : Arguments} {body : Expr} {scope : Scope} {p lpos pos : Pos}
    (hbody : ∀ (A : Around) (outer : List PySem.Env) (s : Shared) (H : Hp) (E : XK) (f c' : Addr), Room k (A.deeper (LamX.lamEnv X scope s.heap.objs.size f c')) → PE (LamX.lamCx X A outer s H E scope f c') body (tR Q B T (fun cls d _ H => E cls d H) b))
    (hcode : X.env.code = .ref c := by rfl) (hg : Gl X x := by rfl) (L : LamX.lamSB X.env.scope scope = true := by first | kernel_rfl | rfl) (hdef : defaultsOf params X.env = ([], []) := by rfl)
    (hbind : ∀ (q : Str) (cl : List (Str × Addr)) (pm cv ctv : Value), bindArgs (PySem.W.kla_fn "<lambda>" q params body scope cl pm cv ctv) ⟨[], []⟩ = pure [] := by intro _ _ _ _ _; rfl) (hdb : (x == ("__debug__" : Str)) = false := by decide) :
    PE X (.Call (.Name x p) [.Lambda params body scope lpos] [] pos) (tR Q B T W (.caught b)) := by
  obtain ⟨a, e, c1, n, g, CS, pg, sg, dV, kV, doc, pm, cdv, ct, oc, an, od, osl, p1, p2, p3, p4, p5, p6, p7, p8, p9, p10, p11, p12, p13, p14, j, h1, h2, h3, h4, h5, h6, h7, h8, h9, h10, h11, h12, ⟨d1, d2, d3, d4, d5, d6⟩, h13⟩ := CF
  exact snd_caught hg h1 h2 h3 h4 h5 h6 h7 h8 h9 h10 h11 h12 d1 d2 d3 d4 LC.tb hcode LC.mem LC.un hr (LamX.lamS_by L) hdef hbind h13 hbody hdb d5 d6
/-! ### the law's def: the script is known from here on -/
def tLock (K : PySem.W.Frag) (a : Addr) (xs : List V) (t : TS) : TS := fun D σ H => (FzL K H a xs ∧ t D σ H) ∨ (H a = some (.lst xs) ∧ ∀ od, t D σ (upd H a (.frz od (.lst xs))))
theorem pss_lock {K : PySem.W.Frag} {a : Addr} {xs : List V} {body : List Stmt} {t : TS} (h : PSs X body t) : PSs X body (tLock K a xs t) := ⟨fun pins s σ H D I hk => by
  rcases hk with ⟨_, hk⟩ | ⟨e, hk⟩
  · exact h.run pins s σ H D I hk
  · obtain ⟨od, I2⟩ := I.lock e (by exact trivial)
    exact h.run pins s σ _ D I2 (hk od)⟩
/-- what the law's def promises -/
def spLaw (K : PySem.W.Frag) (T : Tabl) (f : List SV → RC) : Sp := fun vs H Q _ => ∃ (a : Addr) (ns : List Int), vs = [.ref a] ∧ SqL K H a (ns.map V.int) ∧ LamX.Tabs T H ∧ (∃ os, f [.fz (.scr (ns.map PV.int))] = .ok (false, .bl true) os) ∧ ∀ H', Q (.bl true) H'
theorem ints_rps {H : Hp} : ∀ ns : List Int, Rps B H (ns.map V.int) (ns.map PV.int)
  | [] => .nil
  | n :: ns => .cons (.int n) (ints_rps ns)
theorem law_ok {d : Def} {P : Program} {w : World} {K : PySem.W.Frag} {mg : Str → Option Value} {base : Heap} {x qual : Str} {params : Arguments} {body : List Stmt} {scope : Scope} {f : Addr} {dV kV doc pm cdv ct oc : Value} {an od : Option Addr}
    {osl : Array (Option Value)} {N ps : List Str} {k : Nat} (hK : B.K = K) (lk : K.lookup f = some ⟨oc, od, .func (PySem.W.fnOf x qual params body scope dV kV doc pm an cdv ct), osl⟩) (hcd : PySem.W.codeIn K cdv qual = true) (S : FnScope N ps scope)
    (hnp : d.np = ps.length) (h1 : ps.length = 1) (hns : d.ns = N.length)
    (hbody : ∀ (ro : List Nat) (A : Around) (outer : List PySem.Env) (s : Shared) (H : Hp) (E : XK), Room k (A.deeper (envOfC qual scope s.heap.objs.size f cdv)) → Takes (cxOf (L2.CX P w) P w K mg base N qual scope f cdv A outer s H E) (fun cls d _ H => E cls d H) →
      PassesOwn (model P w) (A.deeper (envOfC qual scope s.heap.objs.size f cdv)) (envOfC qual scope s.heap.objs.size f cdv) (cxOf (L2.CX P w) P w K mg base N qual scope f cdv A outer s H E).xe → PSs (cxOf (L2.CX P w) P w K mg base N qual scope f cdv A outer s H E) body (tSs Q B T (fun cls d _ H => E cls d H) ro d.body)) :
    FnOk P w K mg base (L2.CX P w) (k + 1) f (PySem.W.fnOf x qual params body scope dV kV doc pm an cdv ct) ps (spLaw K T (runDef Q d)) := by
  refine fn_of lk hcd S (fun vs H Q' E h => ?_) (fun A outer s H vs Q' E hr h => ?_)
  · obtain ⟨a, ns, rfl, _⟩ := h
    rw [h1]; rfl
  · obtain ⟨a, ns, rfl, hS, hT, ⟨os, he⟩, hq⟩ := h
    refine ⟨_, pss_lock (K := K) (a := a) (xs := ns.map V.int) (hbody (ownAt [SV.fz (.scr (ns.map PV.int))] 0) A outer s H E hr (takes_of rfl rfl rfl rfl) (passes_of rfl)), ?_⟩
    have key : ∀ H2, FzL K H2 a (ns.map V.int) → LamX.Tabs T H2 → tSs Q B T (fun cls d _ H => E cls d H) (ownAt [SV.fz (.scr (ns.map PV.int))] 0) d.body { nx := fun _ H' => Q' .non H', rt := Q' } (L2.start N [V.ref a]) H2 := fun H2 hF hT2 => by
      have r0 : RelS B T ⟨H2, []⟩ H2 ([V.ref a].map some) ([SV.fz (.scr (ns.map PV.int))].map some) := by
        refine ⟨rfl, fun i v e => ?_, fun i v e => ?_, fun i j v w p e1 _ _ _ => ?_, fun b o e _ _ => e, fun b hb => absurd hb (by simp), hT2⟩
        · cases i with
          | zero =>
            cases e
            exact ⟨.ref a, rfl, .scr (hK ▸ hF) (ints_rps ns)⟩
          | succ i => simp at e
        · cases i with
          | zero => simp at e
          | succ i => simp at e
        · cases i with
          | zero => simp at e1
          | succ i => simp at e1
      unfold runDef at he
      split at he
      · rename_i hl
        have hst : L2.start N [V.ref a] = [V.ref a].map some ++ List.replicate (d.ns - d.np) none := by
          unfold L2.start
          rw [hnp, h1, hns]; rfl
        rw [hst]
        refine ⟨⟨H2, []⟩, _, start_rel r0, ?_⟩
        cases q : exSs Q (ownAt [SV.fz (.scr (ns.map PV.int))] 0) d.body ([SV.fz (.scr (ns.map PV.int))].map some ++ List.replicate (d.ns - d.np) none) with
        | bad => rw [q] at he; cases he
        | brk s' => rw [q] at he; cases he
        | cont s' => rw [q] at he; cases he
        | next s' =>
          rw [q] at he
          have he : outC s' [SV.fz (.scr (ns.map PV.int))] (.ok (false, .non)) = .ok (false, .bl true) os := he
          unfold outC at he
          split at he <;> cases he
        | err n e s' =>
          rw [q] at he
          have he : outC s' [SV.fz (.scr (ns.map PV.int))] (.err n e) = .ok (false, .bl true) os := he
          unfold outC at he
          split at he <;> cases he
        | ret v s' =>
          rw [q] at he
          have he : outC s' [SV.fz (.scr (ns.map PV.int))] (.ok v) = .ok (false, .bl true) os := he
          unfold outC at he
          split at he
          · cases he
            intro c σ' H' st r rr
            have rr : Rp B H' c (.bl true) := rr
            cases rr
            exact hq H'
          · cases he
      · cases he
    rcases hS with hS | hS
    · rcases hS with hS | hS
      · exact .inr ⟨hS, fun od => key _ (.inl ⟨od, upd_same⟩) (tabs_upd hT hS .lst)⟩
      · exact .inl ⟨.inl hS, key _ (.inl hS) hT⟩
    · exact .inl ⟨.inr hS, key _ (.inr hS) hT⟩
end
end Pv

/-! PvSound20: what the head tells, as the walk asks it. -/
namespace Pv
open PySem PyProof.Rows PySem.Spec L2
/-- of each place in a list -/
def AllAt {α : Type} (Φ : Nat → α → Prop) : Nat → List α → Prop
  | _, [] => True
  | k, a :: l => Φ k a ∧ AllAt Φ (k + 1) l
theorem AllAt.get {α : Type} {Φ : Nat → α → Prop} : ∀ {l : List α} {k : Nat}, AllAt Φ k l → ∀ {i : Nat} {x : α}, l[i]? = some x → Φ (k + i) x
  | [], _, _, i, x, e => by simp at e
  | a :: l, k, h, 0, x, e => by simp at e; subst e; exact h.1
  | a :: l, k, h, i + 1, x, e => by
    have := AllAt.get h.2 (i := i) (x := x) (by simpa using e)
    rwa [show k + (i + 1) = k + 1 + i by omega]
def tblOf (K : PySem.W.Frag) (fnL clsL : List Str) : Tbl := ⟨K, fun f => (fnL[f]?).map (He.ga K), fun c => (clsL[c]?).map (He.ga K)⟩
/-! ### classes -/
def excB (K : PySem.W.Frag) (D : Addr) : Bool := decide (PySem.W.findIn K (.ref D) "__getattribute__" = some (some (.builtin "BaseException.__getattribute__"))) && (decide (PySem.W.findIn K (.ref D) "__getattr__" = some none) && (decide (PySem.W.subIn K (.ref D) (.type "BaseException") = some true) &&
  (PySem.W.hasDictIn K D && (decide (PySem.W.findIn K (.ref D) "__class__" = some (some (.builtin "object.__class__"))) && (decide (PySem.W.specialIn K (.builtin "object.__class__") "__get__" = some (some (.builtin "getset_descriptor.__get__"))) && (decide (PySem.W.takesIn K (.builtin "object.__class__") = some true) && decide (PySem.W.mroIn K D (.type "object") = some true)))))))
theorem excB_ok {K : PySem.W.Frag} {D : Addr} (h : excB K D = true) : ExcC K D := by
  unfold excB at h
  simp only [decide_eq_true_eq, Bool.and_eq_true] at h
  obtain ⟨h1, h2, h3, h4, h5, h6, h7, h8⟩ := h
  exact ⟨h1, h2, h3, h4, h5, h6, h7, h8⟩
def clsB (clsL : List Str) (sup : Nat → Nat → Bool) (K : PySem.W.Frag) : Bool := (clsL.all fun x => excB K (He.ga K x) && tyNames.all fun n => decide (PySem.W.kitOne K (.type n) (.ref (He.ga K x)) = some false) && decide (PySem.W.kitOne K (.ref (He.ga K x)) (.type n) = some false)) &&
  ((List.range clsL.length).all fun i => (List.range clsL.length).all fun j => decide (PySem.W.kitOne K (.ref (He.ga K (clsL.getD i ""))) (.ref (He.ga K (clsL.getD j ""))) = some (sup i j)))
theorem clA_inv {K : PySem.W.Frag} {fnL clsL : List Str} {k : Nat} {C : Addr} (h : (tblOf K fnL clsL).clA k = some C) : ∃ x, clsL[k]? = some x ∧ C = He.ga K x := by
  obtain ⟨x, h1, h2⟩ := Option.map_eq_some_iff.mp (show (clsL[k]?).map (He.ga K) = some C from h)
  exact ⟨x, h1, h2.symm⟩
theorem clsB_ok {K : PySem.W.Frag} {fnL clsL : List Str} {sup : Nat → Nat → Bool} (h : clsB clsL sup K = true) : TyOk (tblOf K fnL clsL) sup := by
  unfold clsB at h
  rw [Bool.and_eq_true] at h
  obtain ⟨h1, h2⟩ := h
  have one : ∀ x ∈ clsL, excB K (He.ga K x) = true ∧ ∀ n ∈ tyNames, PySem.W.kitOne K (.type n) (.ref (He.ga K x)) = some false ∧ PySem.W.kitOne K (.ref (He.ga K x)) (.type n) = some false := fun x hx => by
    have := List.all_eq_true.mp h1 x hx
    rw [Bool.and_eq_true] at this
    refine ⟨this.1, fun n hn => ?_⟩
    have := List.all_eq_true.mp this.2 n hn
    rw [Bool.and_eq_true, decide_eq_true_eq, decide_eq_true_eq] at this
    exact this
  refine ⟨fun k C hC n hn => ?_, fun k C hC n hn => ?_, fun k C j D hC hD => ?_, fun k C hC => ?_⟩
  · obtain ⟨x, hx, rfl⟩ := clA_inv hC
    exact ((one x (List.mem_of_getElem? hx)).2 n hn).1
  · obtain ⟨x, hx, rfl⟩ := clA_inv hC
    exact ((one x (List.mem_of_getElem? hx)).2 n hn).2
  · obtain ⟨x, hx, rfl⟩ := clA_inv hC
    obtain ⟨y, hy, rfl⟩ := clA_inv hD
    have lx := (List.getElem?_eq_some_iff.mp hx).1
    have ly := (List.getElem?_eq_some_iff.mp hy).1
    have := List.all_eq_true.mp (List.all_eq_true.mp h2 k (List.mem_range.mpr lx)) j (List.mem_range.mpr ly)
    rw [decide_eq_true_eq] at this
    have ex : clsL.getD k "" = x := by rw [List.getD_eq_getElem?_getD, hx]; rfl
    have ey : clsL.getD j "" = y := by rw [List.getD_eq_getElem?_getD, hy]; rfl
    rw [ex, ey] at this
    exact this
  · obtain ⟨x, hx, rfl⟩ := clA_inv hC
    exact excB_ok (one x (List.mem_of_getElem? hx)).1
/-! ### facts -/
def faOf (fnL clsL freeL : List Str) (gl : List He.Fa) : List He.Fa := fnL.map .glo ++ (clsL.map .glo ++ (freeL.map .free ++ (clsL.map .exc ++ gl)))
/-- what stays through all depths -/
structure BF (G : Prog) (B : Tbl) (M : Names) (K : PySem.W.Frag) (mg : Str → Option Value) : Prop where
  hK : B.K = K
  fnm : ∀ f x, M.fn f = some x → B.fnA f = some (He.ga K x) ∧ mg x = some (.ref (He.ga K x))
  fni : ∀ f a, B.fnA f = some a → ∃ x, M.fn f = some x ∧ a = He.ga K x
  kwn : ∀ i f x ks, M.kw i = some (f, x, ks) → M.fn f = some x
  glo : ∀ j x, M.glo j = some x → ∃ v c u, G.glo j = some v ∧ mg x = some u ∧ RelV c u ∧ ∀ H, Rp B H c v
  free : ∀ x ∈ M.free, mg x = none
  ty : TyOk B G.sup
  cls : ∀ k x, M.cls k = some x → ∃ A bm Bs ni ii, B.clA k = some A ∧ mg x = some (.ref A) ∧ ExcBaseFacts Bs ni ii bm ∧ PySem.W.excIn K A bm ni = true ∧ PySem.W.keepIn K (.ref A) = true ∧ PySem.W.subIn K (.ref A) (.type "BaseException") = some true ∧ PySem.W.typeIn K (.ref A) = some (.type "type")
theorem base_of {G : Prog} {K : PySem.W.Frag} {mg : Str → Option Value} {h : Heap} {fnL gloL clsL freeL : List Str} {kwL : List (Nat × Str × List Str)} {gl : List He.Fa} {ds : List He.DefD} (X : K.In h) (Gn : h.Ns mainGlobals mg) (c : He.SaysD (faOf fnL clsL freeL gl) ds K) (e : clsB clsL G.sup K = true)
    (kwn : (kwL.all fun p => decide (fnL[p.1]? = some p.2.1)) = true)
    (glo : ∀ j x, gloL[j]? = some x → ∃ v c u, G.glo j = some v ∧ mg x = some u ∧ RelV c u ∧ ∀ H, Rp (tblOf K fnL clsL) H c v) :
    BF G (tblOf K fnL clsL) ⟨fun f => fnL[f]?, fun j => gloL[j]?, fun c => clsL[c]?, fun i => kwL[i]?, freeL⟩ K mg := by
  have f1 : ∀ x ∈ fnL, mg x = some (.ref (He.ga K x)) := fun x hx => He.glo_ok X Gn (c.facts (f := .glo x) (List.mem_append_left _ (List.mem_map_of_mem hx)))
  have f2 : ∀ x ∈ clsL, mg x = some (.ref (He.ga K x)) := fun x hx => He.glo_ok X Gn (c.facts (f := .glo x) (List.mem_append_right _ (List.mem_append_left _ (List.mem_map_of_mem hx))))
  have f3 : ∀ x ∈ freeL, mg x = none := fun x hx => He.free_ok X Gn (c.facts (f := .free x) (List.mem_append_right _ (List.mem_append_right _ (List.mem_append_left _ (List.mem_map_of_mem hx)))))
  refine ⟨rfl, fun f x hx => ⟨show (fnL[f]?).map (He.ga K) = _ by rw [show fnL[f]? = some x from hx]; rfl, f1 x (List.mem_of_getElem? hx)⟩, fun f a ha => ?_, fun i f x ks hi => ?_, glo, f3, clsB_ok e, fun k x hx => ?_⟩
  · obtain ⟨x, h1, h2⟩ := Option.map_eq_some_iff.mp (show (fnL[f]?).map (He.ga K) = some a from ha)
    exact ⟨x, h1, h2.symm⟩
  · have := List.all_eq_true.mp kwn _ (List.mem_of_getElem? hi)
    exact of_decide_eq_true this
  · have hm := List.mem_of_getElem? hx
    obtain ⟨g1, g2, g3, g4⟩ := He.exc_ok (c.facts (f := .exc x) (List.mem_append_right _ (List.mem_append_right _ (List.mem_append_right _ (List.mem_append_left _ (List.mem_map_of_mem hm))))))
    exact ⟨He.ga K x, _, _, _, _, show (clsL[k]?).map (He.ga K) = _ by rw [show clsL[k]? = some x from hx]; rfl, f2 x hm, PySem.F.excBase_ValueError, g1, g2, g3, g4⟩
/-! ### all defs, n deep -/
def Call1 (G : Prog) (B : Tbl) (T : Tabl) (P : Program) (w : World) (K : PySem.W.Frag) (mg : Str → Option Value) (base : Heap) (n : Nat) (f : Nat) (x : Str) : Prop :=
  ∃ fd ps, FnOk P w K mg base (L2.CX P w) (4 * n) (He.ga K x) fd ps (spI B T (G.run n f)) ∧ Binds K fd ps [] ∧ PySem.W.keepIn K (.ref (He.ga K x)) = true
def CallK (G : Prog) (B : Tbl) (T : Tabl) (P : Program) (w : World) (K : PySem.W.Frag) (mg : Str → Option Value) (base : Heap) (n : Nat) (i : Nat) (q : Nat × Str × List Str) : Prop :=
  ∃ fd ps, FnOk P w K mg base (L2.CX P w) (4 * n) (He.ga K q.2.1) fd ps (spI B T (G.run n q.1)) ∧ KwB K fd ps q.2.2 (G.perm i) ∧ PySem.W.keepIn K (.ref (He.ga K q.2.1)) = true
structure Calls (G : Prog) (B : Tbl) (T : Tabl) (P : Program) (w : World) (K : PySem.W.Frag) (mg : Str → Option Value) (base : Heap) (fnL : List Str) (kwL : List (Nat × Str × List Str)) (n : Nat) : Prop where
  fn : AllAt (Call1 G B T P w K mg base n) 0 fnL
  kw : AllAt (CallK G B T P w K mg base n) 0 kwL
theorem fac_of {G : Prog} {B : Tbl} {T : Tabl} {P : Program} {w : World} {K : PySem.W.Frag} {mg : Str → Option Value} {base : Heap} {fnL gloL clsL freeL : List Str} {kwL : List (Nat × Str × List Str)} {n : Nat} (b : BF G B ⟨fun f => fnL[f]?, fun j => gloL[j]?, fun c => clsL[c]?, fun i => kwL[i]?, freeL⟩ K mg) (C : Calls G B T P w K mg base fnL kwL n) :
    Fac (G.env (G.run n)) B T ⟨fun f => fnL[f]?, fun j => gloL[j]?, fun c => clsL[c]?, fun i => kwL[i]?, freeL⟩ P w K mg base (4 * n) where
  hK := b.hK
  call := fun f x hx => by
    obtain ⟨fd, ps, h1, h2, h3⟩ := C.fn.get hx
    rw [Nat.zero_add] at h1
    exact ⟨_, fd, ps, h1, h2, h3, (b.fnm f x hx).2⟩
  fnv := fun f a ha => by
    obtain ⟨x, hx, rfl⟩ := b.fni f a ha
    obtain ⟨fd, ps, h1, h2, h3⟩ := C.fn.get hx
    rw [Nat.zero_add] at h1
    exact ⟨fd, ps, h1, h2, h3⟩
  fnm := fun f x hx => ⟨_, (b.fnm f x hx).1, (b.fnm f x hx).2⟩
  kw := fun i f x ks hi => by
    obtain ⟨fd, ps, h1, h2, h3⟩ := C.kw.get hi
    rw [Nat.zero_add] at h2
    exact ⟨_, fd, ps, h1, h2, h3, (b.fnm f x (b.kwn i f x ks hi)).2⟩
  glo := b.glo
  free := b.free
  ty := b.ty
  cls := b.cls
theorem bad_ok {B : Tbl} {T : Tabl} {P : Program} {w : World} {K : PySem.W.Frag} {mg : Str → Option Value} {base : Heap} {k : Nat} {a : Addr} {fd : FuncData} {ps : List Str} : FnOk P w K mg base (L2.CX P w) k a fd ps (spI B T fun _ => .bad) :=
  ⟨fun _ _ _ _ ⟨_, _, _, h⟩ => h.elim, fun _ _ _ _ _ _ _ _ _ _ _ _ _ ⟨_, _, _, h⟩ => h.elim⟩
theorem funD_kwb {K : PySem.W.Frag} {x qual : Str} {params : Arguments} {body : List Stmt} {scope : Scope} {f : Addr} {fd : FuncData} {ps ks : List Str} {p : List Nat} (F : FunD K x qual params body scope [] [] f fd) (hl : ks.length = p.length)
    (h : ∀ (kV doc pm : Value) (an : Option Addr) (cdv ct : Value) (ws : List Value), ws.length = ks.length → bindArgs (PySem.W.fnOf x qual params body scope .none kV doc pm an cdv ct) ⟨[], ks.zip ws⟩ = pure (ps.zip (permA p ws))) : KwB K fd ps ks p := by
  obtain ⟨_, _, _, kV, doc, pm, an, cdv, ct, _, rfl, _, _, dflt, _⟩ := F.ex
  rcases dflt with ⟨_, none_⟩ | ⟨e, _⟩
  · subst none_
    exact ⟨fun s ws _ hw => .of_eq (h kV doc pm an cdv ct ws hw), hl⟩
  · exact absurd rfl e
end Pv

/-! PvRun: loops of the small language by what each turn does. -/
namespace Pv
theorem compL_map {turn : PV → Sl → R (Option PV)} {s : Sl} (g : PV → PV) : ∀ {xs : List PV}, (∀ x ∈ xs, turn x s = .ok (some (g x)) s) → compL turn xs s = .ok (xs.map g) s
  | [], _ => by unfold compL; rfl
  | x :: xs, h => by
    unfold compL
    rw [h x List.mem_cons_self]
    simp only [R.bind]
    rw [compL_map g fun y hy => h y (List.mem_cons_of_mem _ hy)]
    rfl
theorem compL_fm {turn : PV → Sl → R (Option PV)} {s : Sl} (g : PV → Option PV) : ∀ {xs : List PV}, (∀ x ∈ xs, turn x s = .ok (g x) s) → compL turn xs s = .ok (xs.filterMap g) s
  | [], _ => by unfold compL; rfl
  | x :: xs, h => by
    unfold compL
    rw [h x List.mem_cons_self]
    simp only [R.bind]
    rw [compL_fm g fun y hy => h y (List.mem_cons_of_mem _ hy)]
    cases e : g x with
    | none => simp [e]
    | some v => simp [e]
/-- the state changes from turn to turn -/
theorem compL_inv {turn : PV → Sl → R (Option PV)} (I : Sl → Prop) (Φ : List PV → Prop) {xs : List PV} {s : Sl} (hI : I s) (h0 : Φ []) (step : ∀ x s, x ∈ xs → I s → ∃ o s', turn x s = .ok o s' ∧ I s' ∧ ∀ r, Φ r → Φ (match o with | some v => v :: r | none => r)) : ∃ r s', compL turn xs s = .ok r s' ∧ I s' ∧ Φ r := by
  induction xs generalizing s with
  | nil => exact ⟨[], s, by unfold compL; rfl, hI, h0⟩
  | cons x xs ih =>
    obtain ⟨o, s1, h1, h2, h3⟩ := step x s List.mem_cons_self hI
    obtain ⟨r, s2, h4, h5, h6⟩ := ih h2 (fun y s hy => step y s (List.mem_cons_of_mem _ hy))
    refine ⟨_, s2, ?_, h5, h3 r h6⟩
    unfold compL
    rw [h1]
    simp only [R.bind]
    rw [h4] <;> rfl
theorem forL_inv {turn : PV → Sl → XR} (I : Nat → Sl → Prop) : ∀ {xs : List PV} {k : Nat} {s : Sl}, I k s → (∀ (i : Nat) (x : PV) (s : Sl), xs[i]? = some x → I (k + i) s → ∃ s', turn x s = .next s' ∧ I (k + i + 1) s') → ∃ s', forL turn xs s = .next s' ∧ I (k + xs.length) s'
  | [], k, s, h, _ => ⟨s, by unfold forL; rfl, by simpa using h⟩
  | x :: xs, k, s, h, step => by
    obtain ⟨s1, h1, h2⟩ := step 0 x s rfl (by simpa using h)
    obtain ⟨s2, h3, h4⟩ := forL_inv I (xs := xs) (k := k + 1) (s := s1) (by simpa using h2) (fun i y s e hi => by
      have := step (i + 1) y s (by simpa using e) (by rwa [show k + (i + 1) = k + 1 + i by omega])
      rwa [show k + (i + 1) + 1 = k + 1 + i + 1 by omega] at this)
    refine ⟨s2, ?_, by rwa [List.length_cons, show k + (xs.length + 1) = k + 1 + xs.length by omega]⟩
    unfold forL
    rw [h1]
    exact h3
/-- the state stays within a word -/
theorem forL_same {turn : PV → Sl → XR} (I : Sl → Prop) {xs : List PV} {s : Sl} (h : I s) (step : ∀ x s, x ∈ xs → I s → ∃ s', turn x s = .next s' ∧ I s') : ∃ s', forL turn xs s = .next s' ∧ I s' :=
  forL_inv (fun _ => I) (k := 0) h fun i x s e hi => step x s (List.mem_of_getElem? e) hi
theorem mem_signs {z : List Nat} {x : PV} (h : x ∈ signs z) : ∃ c ∈ z, x = .str [c] := by
  induction z with
  | nil => simp [signs] at h
  | cons a z ih =>
    rw [signs] at h
    rcases List.mem_cons.mp h with h | h
    · exact ⟨a, List.mem_cons_self, h⟩
    · obtain ⟨c, hc, e⟩ := ih h
      exact ⟨c, List.mem_cons_of_mem _ hc, e⟩
/-- one turn of a comprehension -/
def turnQ (Q : Env) (e : E) (t : Tg) (c : O') (vs : List Nat) : PV → Sl → R (Option PV) := fun x s => match tgSet [] s t x with
  | none => .bad
  | some s' => noErr ((evC Q c s').bind fun k s'' => if k then (evR Q e s'').bind fun v s3 => (match wipeS s3 vs with
      | some s4 => .ok (some v.2) s4
      | none => .bad) else (match wipeS s'' vs with
      | some s4 => .ok none s4
      | none => .bad))
theorem comp_eq {Q : Env} {e : E} {t : Tg} {it : It} {c : O'} {vs : List Nat} {s s1 s2 : Sl} {xs : List PV} (hi : evIt Q it s = .ok xs s1) (hl : xs.length ≤ line) (hw : wipeS s1 vs = some s2) :
    evR Q (.comp e t it c vs) s = (compL (turnQ Q e t c vs) xs s2).bind fun r s3 => .ok (true, .lst r) (backW s1 s3 vs) := by
  rw [evR, hi]
  simp only [R.bind]
  rw [if_pos hl, hw]
  rfl
theorem comp_map {Q : Env} {e : E} {t : Tg} {it : It} {c : O'} {vs : List Nat} {s s1 s2 : Sl} {xs : List PV} (g : PV → PV) (hi : evIt Q it s = .ok xs s1) (hl : xs.length ≤ line) (hw : wipeS s1 vs = some s2) (ht : ∀ x ∈ xs, turnQ Q e t c vs x s2 = .ok (some (g x)) s2) :
    evR Q (.comp e t it c vs) s = .ok (true, .lst (xs.map g)) (backW s1 s2 vs) := by
  rw [comp_eq hi hl hw, compL_map g ht]
  rfl
theorem boolsOf_map {α : Type} (p : α → Bool) : ∀ l : List α, boolsOf (l.map fun x => PV.bl (p x)) = some (l.map p)
  | [] => rfl
  | x :: l => by rw [List.map_cons, boolsOf, boolsOf_map p l]; rfl
theorem strsOf_map {α : Type} (p : α → List Nat) : ∀ l : List α, strsOf (l.map fun x => PV.str (p x)) = some (l.map p)
  | [] => rfl
  | x :: l => by rw [List.map_cons, strsOf, strsOf_map p l]; rfl
theorem signs_map : ∀ z : List Nat, signs z = z.map fun c => PV.str [c]
  | [] => rfl
  | c :: z => by rw [signs, signs_map z]; rfl
theorem signs_length (z : List Nat) : (signs z).length = z.length := by rw [signs_map, List.length_map]
theorem joinS_one : ∀ z : List Nat, joinS [] (z.map fun c => [c]) = z
  | [] => rfl
  | [c] => rfl
  | c :: d :: z => by
    have := joinS_one (d :: z)
    simp only [List.map_cons] at this ⊢
    rw [joinS, this]
    rfl
theorem lenSum_one : ∀ z : List Nat, lenSum (z.map fun c => [c]) = z.length
  | [] => rfl
  | c :: z => by rw [List.map_cons, lenSum, lenSum_one z]; simp; omega
theorem env_call {G : Prog} {c : Nat → List SV → RC} : (G.env c).call = c := rfl
theorem env_glo {G : Prog} {c : Nat → List SV → RC} : (G.env c).glo = G.glo := rfl
theorem env_sup {G : Prog} {c : Nat → List SV → RC} : (G.env c).sup = G.sup := rfl
theorem env_perm {G : Prog} {c : Nat → List SV → RC} : (G.env c).perm = G.perm := rfl
theorem env_fuel {G : Prog} {c : Nat → List SV → RC} : (G.env c).fuel = G.fuel := rfl
/-! ### calls of what stays -/
def isFz : SV → Bool
  | .fz _ => true
  | .own _ => false
theorem outOf_fz {s : Sl} : ∀ {as : List SV} {n : Nat}, as.all isFz = true → outOf s as n = as
  | [], _, _ => by unfold outOf; rfl
  | .own v :: r, _, h => by simp [isFz] at h
  | .fz v :: r, n, h => by
    have h := (Bool.and_eq_true _ _).mp (List.all_cons ▸ h)
    unfold outOf
    rw [outOf_fz h.2]
    cases s[n]? with
    | none => rfl
    | some o => cases o <;> rfl
theorem outC_ok {s : Sl} {as : List SV} {v w : FV} {os : List SV} (h : outC s as (.ok v) = .ok w os) (hf : as.all isFz = true) : os = as := by
  unfold outC at h
  split at h
  · cases h; exact outOf_fz hf
  · cases h
theorem run_ok {G : Prog} {n f : Nat} {as os : List SV} {v : FV} (h : G.run n f as = .ok v os) (hf : as.all isFz = true) : os = as := by
  cases n with
  | zero => cases h
  | succ n =>
    unfold Prog.run at h
    split at h
    · unfold runDef at h
      split at h
      · split at h
        · exact outC_ok h hf
        · exact outC_ok h hf
        · unfold outC at h; split at h <;> cases h
        · cases h
      · cases h
    · cases h
theorem run_err {G : Prog} {n f k : Nat} {as os : List SV} {d : List PV} (h : G.run n f as = .err k d os) (hf : as.all isFz = true) : os = as := by
  cases n with
  | zero => cases h
  | succ n =>
    unfold Prog.run at h
    split at h
    · unfold runDef at h
      split at h
      · split at h
        · unfold outC at h; split at h <;> cases h
        · unfold outC at h; split at h <;> cases h
        · unfold outC at h
          split at h
          · cases h; exact outOf_fz hf
          · cases h
        · cases h
      · cases h
    · cases h
/-- a boolean look at an answer -/
def okV (fl : Bool) (p : PV → Bool) : RC → Bool
  | .ok (b, v) _ => b == fl && p v
  | _ => false
def isStr (s : List Nat) : PV → Bool
  | .str t => t == s
  | _ => false
def isBl (b : Bool) : PV → Bool
  | .bl c => c == b
  | _ => false
def isInt (i : Int) : PV → Bool
  | .int c => c == i
  | _ => false
def isStrs (ss : List (List Nat)) (xs : List PV) : Bool := strsOf xs == some ss
def isLst (ss : List (List Nat)) : PV → Bool
  | .lst xs => isStrs ss xs
  | _ => false
def isTup (ss : List (List Nat)) : PV → Bool
  | .tup xs => isStrs ss xs
  | _ => false
def isErr (k : Nat) : RC → Bool
  | .err c [] _ => c == k
  | _ => false
theorem strsOf_inv : ∀ {xs : List PV} {ss : List (List Nat)}, strsOf xs = some ss → xs = ss.map PV.str
  | [], ss, h => by cases h; rfl
  | x :: xs, ss, h => by
    cases x with
    | str s =>
      obtain ⟨r, h1, rfl⟩ := Option.map_eq_some_iff.mp (show (strsOf xs).map (s :: ·) = some ss from h)
      rw [strsOf_inv h1]; rfl
    | _ => cases h
section
variable {G : Prog} {n f k : Nat} {as : List SV}
theorem e_str {s : List Nat} (h : okV false (isStr s) (G.run n f as) = true) (hf : as.all isFz = true := by rfl) : G.run n f as = .ok (false, .str s) as := by
  cases q : G.run n f as with
  | ok v os =>
    obtain ⟨b, v⟩ := v
    rw [q] at h
    simp only [okV, Bool.and_eq_true, beq_iff_eq] at h
    obtain ⟨rfl, h⟩ := h
    cases v <;> simp [isStr] at h
    subst h
    rw [run_ok q hf]
  | err k d os => rw [q] at h; cases h
  | bad => rw [q] at h; cases h
theorem e_bl {b : Bool} (h : okV false (isBl b) (G.run n f as) = true) (hf : as.all isFz = true := by rfl) : G.run n f as = .ok (false, .bl b) as := by
  cases q : G.run n f as with
  | ok v os =>
    obtain ⟨b, v⟩ := v
    rw [q] at h
    simp only [okV, Bool.and_eq_true, beq_iff_eq] at h
    obtain ⟨rfl, h⟩ := h
    cases v <;> simp [isBl] at h
    subst h
    rw [run_ok q hf]
  | err k d os => rw [q] at h; cases h
  | bad => rw [q] at h; cases h
theorem e_int {i : Int} (h : okV false (isInt i) (G.run n f as) = true) (hf : as.all isFz = true := by rfl) : G.run n f as = .ok (false, .int i) as := by
  cases q : G.run n f as with
  | ok v os =>
    obtain ⟨b, v⟩ := v
    rw [q] at h
    simp only [okV, Bool.and_eq_true, beq_iff_eq] at h
    obtain ⟨rfl, h⟩ := h
    cases v <;> simp [isInt] at h
    subst h
    rw [run_ok q hf]
  | err k d os => rw [q] at h; cases h
  | bad => rw [q] at h; cases h
theorem e_non (h : okV false (isNon) (G.run n f as) = true) (hf : as.all isFz = true := by rfl) : G.run n f as = .ok (false, .non) as := by
  cases q : G.run n f as with
  | ok v os =>
    obtain ⟨b, v⟩ := v
    rw [q] at h
    simp only [okV, Bool.and_eq_true, beq_iff_eq] at h
    obtain ⟨rfl, h⟩ := h
    cases v <;> simp [isNon] at h
    rw [run_ok q hf]
  | err k d os => rw [q] at h; cases h
  | bad => rw [q] at h; cases h
theorem e_lst {fl : Bool} {ss : List (List Nat)} (h : okV fl (isLst ss) (G.run n f as) = true) (hf : as.all isFz = true := by rfl) : G.run n f as = .ok (fl, .lst (ss.map PV.str)) as := by
  cases q : G.run n f as with
  | ok v os =>
    obtain ⟨b, v⟩ := v
    rw [q] at h
    simp only [okV, Bool.and_eq_true, beq_iff_eq] at h
    obtain ⟨rfl, h⟩ := h
    cases v <;> simp [isLst, isStrs] at h
    rw [strsOf_inv h, run_ok q hf]
  | err k d os => rw [q] at h; cases h
  | bad => rw [q] at h; cases h
theorem e_tup {fl : Bool} {ss : List (List Nat)} (h : okV fl (isTup ss) (G.run n f as) = true) (hf : as.all isFz = true := by rfl) : G.run n f as = .ok (fl, .tup (ss.map PV.str)) as := by
  cases q : G.run n f as with
  | ok v os =>
    obtain ⟨b, v⟩ := v
    rw [q] at h
    simp only [okV, Bool.and_eq_true, beq_iff_eq] at h
    obtain ⟨rfl, h⟩ := h
    cases v <;> simp [isTup, isStrs] at h
    rw [strsOf_inv h, run_ok q hf]
  | err k d os => rw [q] at h; cases h
  | bad => rw [q] at h; cases h
theorem e_err (h : isErr k (G.run n f as) = true) (hf : as.all isFz = true := by rfl) : G.run n f as = .err k [] as := by
  cases q : G.run n f as with
  | ok v os => rw [q] at h; cases h
  | err k' d os =>
    rw [q] at h
    cases d with
    | nil =>
      have e : k' = k := by simpa [isErr] using h
      subst e
      rw [run_err q hf]
    | cons a d => simp [isErr] at h
  | bad => rw [q] at h; cases h
end
theorem whl_no {Q : Env} {ro : List Nat} {t : T} {b : Ss} {s s1 : Sl} (hf : Q.fuel ≠ 0) (h : evT Q t s = .ok false s1) : exS Q ro (.whl t b) s = .next s1 := by
  rw [exS]
  cases e : Q.fuel with
  | zero => exact absurd e hf
  | succ n =>
    unfold whileL
    simp only [h]
/-- it goes on, within a word -/
def NextI (I : Sl → Prop) : XR → Prop
  | .next s => I s
  | _ => False
theorem NextI.ex {I : Sl → Prop} {x : XR} (h : NextI I x) : ∃ s, x = .next s ∧ I s := by
  cases x with
  | next s => exact ⟨s, rfl, h⟩
  | _ => exact h.elim
def TurnI (Q : Env) (ro : List Nat) (t : Tg) (b : Ss) (I : Sl → Prop) (x : PV) (s : Sl) : Prop := match tgSet ro s t x with
  | some s2 => NextI I (exSs Q ro b s2)
  | none => False
theorem for_inv {Q : Env} {ro : List Nat} {t : Tg} {it : It} {b : Ss} {s s1 : Sl} {xs : List PV} (I : Nat → Sl → Prop) (hi : evIt Q it s = .ok xs s1) (h0 : I 0 s1) (step : ∀ (i : Nat) (x : PV) (s : Sl), xs[i]? = some x → I i s → TurnI Q ro t b (I (i + 1)) x s) : ∃ s', exS Q ro (.for_ t it b) s = .next s' ∧ I xs.length s' := by
  obtain ⟨s', h1, h2⟩ := forL_inv (turn := fun x s => ofO (tgSet ro s t x) fun s' => exSs Q ro b s') I (xs := xs) (k := 0) h0 fun i x s e h => by
    have h3 := step i x s e (by simpa using h)
    unfold TurnI at h3
    split at h3
    · rename_i s2 e2
      obtain ⟨s', e3, e4⟩ := h3.ex
      exact ⟨s', by simp only [e2, ofO, e3], by simpa using e4⟩
    · exact h3.elim
  refine ⟨s', ?_, by simpa using h2⟩
  rw [exS, hi]
  exact h1
end Pv

namespace K00
open Pv
/-- is_whole: slots 0 thing -/
def b_is_whole : Ss :=
  (.cons (.ret (.band (.isi (.v 0) [.int]) (.bnot (.isi (.v 0) [.bool]))))
  .nil)
/-- is_within_bounds: slots 0 thing 1 low 2 high -/
def b_is_within_bounds : Ss :=
  (.cons (.ret (.band (.call 0 (.l 0 .nil)) (.chn .le .le (.v 1) (.v 0) (.v 2))))
  .nil)
/-- need_width: slots 0 width -/
def b_need_width : Ss :=
  (.cons (.if_ (.tnot (.tt (.call 1 (.l 0 (.e (.cn (.int 1)) (.e (.glo 0) .nil))))))
  (.cons (.raise 1)
  .nil)
  .nil)
  .nil)
/-- letter_string: slots 0 width -/
def b_letter_string : Ss :=
  (.cons (.ret (.slc (.e (.glo 1)) .no (.so (.var 0))))
  .nil)
/-- row_rows: slots 0 width 1 found 2 place 3 longer 4 row -/
def b_row_rows : Ss :=
  (.cons (.asg 1 (.lst (.cons (.cn (.str [])) .nil)))
  (.cons (.for_ (.nm 2) (.rng1 (.var 0))
  (.cons (.asg 3 (.lst .nil))
  (.cons (.for_ (.nm 4) (.seq (.var 1))
  (.cons (.ext 3 (.lst (.cons (.bin .add (.v 4) (.e (.cn (.str [48])))) (.cons (.bin .add (.v 4) (.e (.cn (.str [49])))) .nil))))
  .nil))
  (.cons (.asg 1 (.var 3))
  .nil))))
  (.cons (.ret (.var 1))
  .nil)))
/-- is_row_form: slots 0 width 1 thing 2 sign -/
def b_is_row_form : Ss :=
  (.cons (.ret (.band (.isi (.v 1) [.str]) (.band (.bin .eq (.e (.un .len (.v 1))) (.v 0)) (.un .all (.e (.comp (.bin .in_ (.v 2) (.e (.cn (.str [48, 49])))) (.nm 2) (.seq (.var 1)) .no [2]))))))
  .nil)
/-- need_row: slots 0 width 1 row -/
def b_need_row : Ss :=
  (.cons (.if_ (.tnot (.tt (.call 5 (.l 0 (.l 1 .nil)))))
  (.cons (.raise 2)
  .nil)
  .nil)
  .nil)
/-- is_letters_form: slots 0 width 1 thing 2 letter 3 late -/
def b_is_letters_form : Ss :=
  (.cons (.if_ (.tor (.tnot (.tt (.isi (.v 1) [.str]))) (.tnot (.tt (.un .all (.e (.comp (.bin .in_ (.v 2) (.e (.call 3 (.l 0 .nil)))) (.nm 2) (.seq (.var 1)) .no [2]))))))
  (.cons (.ret (.cn (.bl false)))
  .nil)
  .nil)
  (.cons (.ret (.un .all (.e (.comp (.bin .lt (.v 2) (.v 3)) (.tp [2, 3]) (.zip (.var 1) (.slc (.v 1) (.so (.cn (.int 1))) .no)) .no [2, 3]))))
  .nil))
/-- need_letters: slots 0 width 1 letters -/
def b_need_letters : Ss :=
  (.cons (.if_ (.tnot (.tt (.call 7 (.l 0 (.l 1 .nil)))))
  (.cons (.raise 3)
  .nil)
  .nil)
  .nil)
/-- is_row: slots 0 width 1 thing -/
def b_is_row : Ss :=
  (.cons (.expr (.call 2 (.l 0 .nil)))
  (.cons (.ret (.call 5 (.l 0 (.l 1 .nil))))
  .nil))
/-- rows_all: slots 0 width -/
def b_rows_all : Ss :=
  (.cons (.expr (.call 2 (.l 0 .nil)))
  (.cons (.ret (.un .tuple (.e (.call 4 (.l 0 .nil)))))
  .nil))
/-- letters_of: slots 0 width -/
def b_letters_of : Ss :=
  (.cons (.expr (.call 2 (.l 0 .nil)))
  (.cons (.ret (.call 3 (.l 0 .nil)))
  .nil))
/-- signs_under: slots 0 row 1 letters 2 letter -/
def b_signs_under : Ss :=
  (.cons (.ret (.meth .join (.cn (.str [])) (.e (.comp (.bin .ix (.v 0) (.e (.meth .sfind (.glo 1) (.v 2)))) (.nm 2) (.seq (.var 1)) .no [2]))))
  .nil)
/-- under: slots 0 width 1 row 2 letters -/
def b_under : Ss :=
  (.cons (.expr (.call 2 (.l 0 .nil)))
  (.cons (.expr (.call 6 (.l 0 (.l 1 .nil))))
  (.cons (.expr (.call 8 (.l 0 (.l 2 .nil))))
  (.cons (.ret (.call 12 (.l 1 (.l 2 .nil))))
  .nil))))
/-- are_alike: slots 0 width 1 one 2 other 3 letters -/
def b_are_alike : Ss :=
  (.cons (.expr (.call 2 (.l 0 .nil)))
  (.cons (.if_ (.tnot (.tt (.call 5 (.l 0 (.l 1 .nil)))))
  (.cons (.raise 4)
  .nil)
  .nil)
  (.cons (.if_ (.tnot (.tt (.call 5 (.l 0 (.l 2 .nil)))))
  (.cons (.raise 5)
  .nil)
  .nil)
  (.cons (.expr (.call 8 (.l 0 (.l 3 .nil))))
  (.cons (.ret (.bin .eq (.e (.call 12 (.l 1 (.l 3 .nil)))) (.e (.call 12 (.l 2 (.l 3 .nil))))))
  .nil)))))
/-- row_number: slots 0 width 1 row -/
def b_row_number : Ss :=
  (.cons (.expr (.call 2 (.l 0 .nil)))
  (.cons (.expr (.call 6 (.l 0 (.l 1 .nil))))
  (.cons (.ret (.meth .lfind (.call 4 (.l 0 .nil)) (.v 1)))
  .nil)))
/-- row_at: slots 0 width 1 index 2 rows -/
def b_row_at : Ss :=
  (.cons (.expr (.call 2 (.l 0 .nil)))
  (.cons (.asg 2 (.call 4 (.l 0 .nil)))
  (.cons (.if_ (.tnot (.tt (.call 1 (.l 1 (.e (.cn (.int 0)) (.e (.bin .sub (.e (.un .len (.v 2))) (.e (.cn (.int 1)))) .nil))))))
  (.cons (.raise 6)
  .nil)
  .nil)
  (.cons (.ret (.bin .ix (.v 2) (.v 1)))
  .nil))))
/-- _law_begun: slots 0 script 1 whole 2 cells 3 cell -/
def b__law_begun : Ss :=
  (.cons (.par [1, 2] (.cons (.cn (.int 0)) (.cons (.lst .nil) .nil)))
  (.cons (.for_ (.nm 3) (.seq (.var 0))
  (.cons (.if_ (.tt (.isi (.v 3) [.int]))
  (.cons (.if_ (.cmp .ge (.v 3) (.e (.bin .pow (.e (.cn (.int 10))) (.e (.cn (.int 18))))))
  (.cons (.asg 1 (.bin .add (.e (.bin .mul (.v 1) (.e (.bin .add (.e (.bin .sub (.v 3) (.e (.bin .pow (.e (.cn (.int 10))) (.e (.cn (.int 18))))))) (.e (.cn (.int 1))))))) (.e (.bin .sub (.v 3) (.e (.bin .pow (.e (.cn (.int 10))) (.e (.cn (.int 18)))))))))
  .nil)
  .nil)
  (.cons (.app 2 (.var 3))
  .nil))
  .nil)
  .nil))
  (.cons (.ret (.dic (.cons (.cn (.str [119, 104, 111, 108, 101])) (.var 1) (.cons (.cn (.str [99, 101, 108, 108, 115])) (.var 2) (.cons (.cn (.str [99, 111, 117, 110, 116])) (.cn (.int 0)) .nil)))))
  .nil)))
/-- _law_mixed: slots 0 draw 1 found 2 cell -/
def b__law_mixed : Ss :=
  (.cons (.put 0 (.cn (.str [99, 111, 117, 110, 116])) (.bin .add (.e (.bin .ix (.v 0) (.e (.cn (.str [99, 111, 117, 110, 116]))))) (.e (.cn (.int 1)))))
  (.cons (.asg 1 (.bin .add (.e (.cn (.int 1469598103934665603))) (.e (.bin .mul (.e (.cn (.int 97))) (.e (.bin .ix (.v 0) (.e (.cn (.str [99, 111, 117, 110, 116])))))))))
  (.cons (.for_ (.nm 2) (.seq (.bin .add (.e (.bin .ix (.v 0) (.e (.cn (.str [99, 101, 108, 108, 115]))))) (.e (.lst (.cons (.bin .ix (.v 0) (.e (.cn (.str [99, 111, 117, 110, 116])))) .nil)))))
  (.cons (.asg 1 (.bin .mod (.e (.un .toint (.e (.bin .mul (.e (.bin .add (.v 1) (.v 2))) (.e (.cn (.int 1099511628211))))))) (.e (.bin .sub (.e (.bin .pow (.e (.cn (.int 2))) (.e (.cn (.int 61))))) (.e (.cn (.int 1)))))))
  (.cons (.asg 1 (.bin .add (.v 1) (.e (.bin .fdiv (.v 1) (.e (.bin .pow (.e (.cn (.int 2))) (.e (.cn (.int 17)))))))))
  .nil)))
  (.cons (.ret (.var 1))
  .nil))))
/-- _law_take: slots 0 draw 1 amount 2 found -/
def b__law_take : Ss :=
  (.cons (.if_ (.cmp .lt (.v 1) (.e (.cn (.int 2))))
  (.cons (.ret (.cn (.int 0)))
  .nil)
  .nil)
  (.cons (.if_ (.cmp .gt (.e (.bin .ix (.v 0) (.e (.cn (.str [119, 104, 111, 108, 101]))))) (.e (.cn (.int 0))))
  (.cons (.asg 2 (.bin .mod (.e (.un .toint (.e (.bin .ix (.v 0) (.e (.cn (.str [119, 104, 111, 108, 101]))))))) (.v 1)))
  (.cons (.put 0 (.cn (.str [119, 104, 111, 108, 101])) (.bin .fdiv (.e (.bin .ix (.v 0) (.e (.cn (.str [119, 104, 111, 108, 101]))))) (.v 1)))
  (.cons (.ret (.var 2))
  .nil)))
  .nil)
  (.cons (.asg 2 (.call 18 (.l 0 .nil)))
  (.cons (.whl (.tand (.cmp .gt (.v 1) (.e (.bin .pow (.e (.cn (.int 2))) (.e (.cn (.int 50)))))) (.cmp .lt (.v 2) (.e (.bin .mul (.v 1) (.v 1)))))
  (.cons (.asg 2 (.bin .add (.e (.bin .mul (.v 2) (.e (.bin .pow (.e (.cn (.int 2))) (.e (.cn (.int 61))))))) (.e (.call 18 (.l 0 .nil)))))
  .nil))
  (.cons (.ret (.bin .mod (.e (.un .toint (.e (.bin .fdiv (.v 2) (.e (.cn (.int 1024))))))) (.v 1)))
  .nil)))))
/-- _law_pick: slots 0 draw 1 items -/
def b__law_pick : Ss :=
  (.cons (.ret (.bin .ix (.v 1) (.e (.call 19 (.l 0 (.e (.un .len (.v 1)) .nil))))))
  .nil)
/-- _law_caught: slots 0 work 1 caught 2 error -/
def b__law_caught : Ss :=
  (.cons (.asg 1 (.cn .non))
  (.cons .dead
  (.cons (.ret (.var 1))
  .nil)))
/-- _law_kinds: slots 0 thing 1 key 2 item -/
def b__law_kinds : Ss :=
  (.cons (.if_ (.tt (.isi (.v 0) [.dict]))
  (.cons (.ret (.tup (.cons (.cn (.str [100, 105, 99, 116])) (.cons (.un .tuple (.e .dead)) .nil))))
  .nil)
  .nil)
  (.cons (.if_ (.tor (.tt (.isi (.v 0) [.tuple])) (.tt (.isi (.v 0) [.list])))
  (.cons (.ret (.tup (.cons (.ite (.tt (.isi (.v 0) [.list])) (.cn (.str [108, 105, 115, 116])) (.cn (.str [116, 117, 112, 108, 101]))) (.cons (.un .tuple (.e (.comp (.call 22 (.l 2 .nil)) (.nm 2) (.seq (.var 0)) .no [2]))) .nil))))
  .nil)
  .nil)
  (.cons (.ret (.tup (.cons (.ite (.tt (.isi (.v 0) [.bool])) (.cn (.str [116, 114, 117, 116, 104])) (.cn (.str [112, 108, 97, 105, 110]))) (.cons (.var 0) .nil))))
  .nil)))
/-- _law_says: slots 0 told 1 due -/
def b__law_says : Ss :=
  (.cons (.ret (.bin .eq (.e (.call 22 (.l 0 .nil))) (.e (.call 22 (.l 1 .nil)))))
  .nil)
/-- _law_number: slots 0 draw 1 low 2 high -/
def b__law_number : Ss :=
  (.cons (.ret (.call 20 (.l 0 (.e (.lst (.cons (.cn .non) (.cons (.bin .sub (.v 1) (.e (.cn (.int 1)))) (.cons (.bin .add (.v 2) (.e (.cn (.int 1)))) (.cons (.cn (.str [49])) (.cons (.cn (.bl true)) (.cons (.tup (.cons (.var 1) .nil)) (.cons (.lst .nil) (.cons (.bin .pow (.e (.cn (.int 10))) (.e (.cn (.int 30)))) .nil))))))))) .nil))))
  .nil)
/-- _law_rows: slots 0 width 1 found 2 place 3 longer 4 row -/
def b__law_rows : Ss :=
  (.cons (.asg 1 (.lst (.cons (.cn (.str [])) .nil)))
  (.cons (.for_ (.nm 2) (.rng1 (.var 0))
  (.cons (.asg 3 (.lst .nil))
  (.cons (.for_ (.nm 4) (.seq (.var 1))
  (.cons (.asg 3 (.bin .add (.v 3) (.e (.lst (.cons (.bin .add (.v 4) (.e (.cn (.str [48])))) (.cons (.bin .add (.v 4) (.e (.cn (.str [49])))) .nil))))))
  .nil))
  (.cons (.asg 1 (.var 3))
  .nil))))
  (.cons (.ret (.var 1))
  .nil)))
/-- _law_some_letters: slots 0 draw 1 width 2 letter -/
def b__law_some_letters : Ss :=
  (.cons (.ret (.meth .join (.cn (.str [])) (.e (.comp (.var 2) (.nm 2) (.seq (.slc (.e (.cn (.str [97, 98, 99, 100]))) .no (.so (.var 1)))) (.so (.cmp .eq (.e (.call 19 (.l 0 (.e (.cn (.int 2)) .nil)))) (.e (.cn (.int 0))))) [2]))))
  .nil)
/-- _law_under: slots 0 row 1 letters 2 sign -/
def b__law_under : Ss :=
  (.cons (.ret (.meth .join (.cn (.str [])) (.e (.comp (.ite (.cmp .in_ (.v 2) (.e (.cn (.str [48, 49])))) (.var 2) (.bin .ix (.v 0) (.e (.meth .sfind (.cn (.str [97, 98, 99, 100])) (.v 2))))) (.nm 2) (.seq (.var 1)) .no [2]))))
  .nil)
def law_0 : S := (.ret (.call 23 (.e (.lst (.cons (.call 10 (.e (.cn (.int 2)) .nil)) (.cons (.call 13 (.e (.cn (.int 3)) (.e (.cn (.str [49, 48, 49])) (.e (.cn (.str [97, 99])) .nil)))) (.cons (.call 14 (.e (.cn (.int 2)) (.e (.cn (.str [48, 49])) (.e (.cn (.str [49, 49])) (.e (.cn (.str [98])) .nil))))) (.cons (.call 14 (.e (.cn (.int 2)) (.e (.cn (.str [48, 49])) (.e (.cn (.str [49, 49])) (.e (.cn (.str [97])) .nil))))) (.cons (.call 16 (.e (.cn (.int 4)) (.e (.cn (.int 15)) .nil))) .nil)))))) (.e (.lst (.cons (.tup (.cons (.cn (.str [48, 48])) (.cons (.cn (.str [48, 49])) (.cons (.cn (.str [49, 48])) (.cons (.cn (.str [49, 49])) .nil))))) (.cons (.cn (.str [49, 49])) (.cons (.cn (.bl true)) (.cons (.cn (.bl false)) (.cons (.cn (.str [49, 49, 49, 49])) .nil)))))) .nil))))
def law_1 : S := (.if_ (.cmp .ne (.v 12) (.e (.bin .mul (.e (.lst (.cons (.cn (.bl true)) .nil))) (.e (.cn (.int 10))))))
  (.cons (.ret (.cn (.bl false)))
  .nil)
  .nil)
def law_2 : S := (.app 12 (.isi (.e (.caught (.call 16 (.l 3 (.e (.call 24 (.l 1 (.e (.cn (.int 0)) (.e (.bin .sub (.e (.un .len (.v 4))) (.e (.cn (.int 1)))) .nil)))) .nil))))) [.cls 6]))
def law_3 : S := (.app 12 (.isi (.e (.caught (.call 15 (.l 3 (.l 8 .nil))))) [.cls 2]))
def law_4 : S := (.app 12 (.isi (.e (.caught (.call 14 (.l 3 (.l 6 (.l 8 (.e (.cn .non) .nil))))))) [.cls 5]))
def law_5 : S := (.app 12 (.isi (.e (.caught (.call 14 (.l 3 (.l 8 (.e (.cn .non) (.e (.cn .non) .nil))))))) [.cls 4]))
def law_6 : S := (.app 12 (.isi (.e (.caught (.call 13 (.l 3 (.l 6 (.l 11 .nil)))))) [.cls 3]))
def law_7 : S := (.app 12 (.isi (.e (.caught (.call 13 (.l 3 (.l 8 (.e (.cn .non) .nil)))))) [.cls 2]))
def law_8 : S := (.app 12 (.isi (.e (.caught (.call 10 (.e (.call 24 (.l 1 (.e (.cn (.int 1)) (.e (.cn (.int 4)) .nil)))) .nil)))) [.cls 1]))
def law_9 : S := (.asg 12 (.comp (.isi (.e (.caught (.callv 13 (.e (.call 24 (.l 1 (.e (.cn (.int 1)) (.e (.cn (.int 4)) .nil)))) (.e (.cn .non) .nil))))) [.cls 1]) (.nm 13) (.seq (.lst (.cons (.fnv 9) (.cons (.fnv 15) (.cons (.fnv 16) .nil))))) .no [13]))
def law_10 : S := (.asg 11 (.call 20 (.l 1 (.e (.lst (.cons (.cn .non) (.cons (.cn (.str [101])) (.cons (.cn (.str [97, 97])) (.cons (.cn (.str [65])) (.cons (.lst (.cons (.cn (.str [97])) .nil)) (.cons (.cn (.str [48])) (.cons (.cn (.str [98, 97])) (.cons (.ite (.cmp .lt (.v 3) (.e (.cn (.int 4)))) (.slc (.e (.cn (.str [97, 98, 99, 100]))) .no (.so (.bin .add (.v 3) (.e (.cn (.int 1)))))) (.cn (.str [97, 98, 99, 100, 101]))) .nil))))))))) .nil))))
def law_11 : S := (.if_ (.tor (.tnot (.tt (.call 23 (.l 9 (.e (.lst (.cons (.var 10) (.cons (.var 6) (.cons (.var 10) (.cons (.var 6) (.cons (.call 27 (.l 6 (.l 5 .nil))) .nil)))))) .nil))))) (.tnot (.tt (.call 23 (.e (.callk 14 (.l 5 (.l 6 (.l 6 (.l 3 .nil)))) 0) (.e (.cn (.bl true)) .nil))))))
  (.cons (.ret (.cn (.bl false)))
  .nil)
  .nil)
def law_12 : S := (.asg 9 (.lst (.cons (.call 15 (.l 3 (.l 6 .nil))) (.cons (.call 16 (.l 3 (.l 10 .nil))) (.cons (.callk 15 (.l 6 (.l 3 .nil)) 3) (.cons (.callk 16 (.l 10 (.l 3 .nil)) 2) (.cons (.callk 13 (.l 5 (.l 6 (.l 3 .nil))) 1) .nil)))))))
def law_13 : S := (.asg 10 (.meth .lfind (.var 4) (.v 6)))
def law_14 : S := (.if_ (.tnot (.tt (.call 23 (.l 9 (.e (.lst (.cons (.cn (.bl true)) (.cons (.cn (.bl false)) (.cons (.un .tuple (.v 4)) (.cons (.slc (.e (.cn (.str [97, 98, 99, 100]))) .no (.so (.var 3))) (.cons (.call 27 (.l 6 (.l 5 .nil))) (.cons (.bin .eq (.e (.call 27 (.l 6 (.l 5 .nil)))) (.e (.call 27 (.l 7 (.l 5 .nil))))) .nil))))))) .nil)))))
  (.cons (.ret (.cn (.bl false)))
  .nil)
  .nil)
def law_15 : S := (.asg 9 (.lst (.cons (.call 9 (.l 3 (.l 6 .nil))) (.cons (.callk 9 (.l 8 (.l 3 .nil)) 4) (.cons (.call 10 (.l 3 .nil)) (.cons (.call 11 (.l 3 .nil)) (.cons (.call 13 (.l 3 (.l 6 (.l 5 .nil)))) (.cons (.call 14 (.l 3 (.l 6 (.l 7 (.l 5 .nil))))) .nil))))))))
def law_16 : S := (.asg 8 (.call 20 (.l 1 (.e (.lst (.cons (.cn .non) (.cons (.cn (.int 1)) (.cons (.cn (.str [])) (.cons (.bin .mul (.e (.cn (.str [48]))) (.e (.bin .add (.v 3) (.e (.cn (.int 1)))))) (.cons (.bin .mul (.e (.cn (.str [50]))) (.v 3)) (.cons (.lst (.cons (.cn (.str [48])) .nil)) (.cons (.bin .mul (.e (.cn (.str [97]))) (.v 3)) (.cons (.tup (.cons (.cn (.str [48])) .nil)) .nil))))))))) .nil))))
def law_17 : S := (.par [6, 7] (.cons (.call 20 (.l 1 (.l 4 .nil))) (.cons (.call 20 (.l 1 (.l 4 .nil))) .nil)))
def law_18 : S := (.par [4, 5] (.cons (.call 25 (.l 3 .nil)) (.cons (.call 26 (.l 1 (.l 3 .nil))) .nil)))
def law_19 : S := (.asg 3 (.bin .add (.e (.cn (.int 1))) (.e (.call 19 (.l 1 (.e (.cn (.int 4)) .nil))))))
def law_20 : S := (.for_ (.nm 2) (.rng1 (.bin .add (.e (.cn (.int 8))) (.e (.bin .min2 (.e (.un .len (.v 0))) (.e (.cn (.int 12)))))))
  (.cons law_19
  (.cons law_18
  (.cons law_17
  (.cons law_16
  (.cons law_15
  (.cons law_14
  (.cons law_13
  (.cons law_12
  (.cons law_11
  (.cons law_10
  (.cons law_9
  (.cons law_8
  (.cons law_7
  (.cons law_6
  (.cons law_5
  (.cons law_4
  (.cons law_3
  (.cons law_2
  (.cons law_1
  .nil))))))))))))))))))))
def law_21 : S := (.asg 1 (.call 17 (.l 0 .nil)))
/-- law: slots 0 script 1 draw 2 turn 3 width 4 rows 5 letters 6 one 7 other 8 wrong 9 told 10 index 11 odd 12 errors 13 work -/
def b_law : Ss :=
  (.cons law_21
  (.cons law_20
  (.cons law_0
  .nil)))
def defT : List Def := [⟨1, 1, b_is_whole⟩,
  ⟨3, 3, b_is_within_bounds⟩,
  ⟨1, 1, b_need_width⟩,
  ⟨1, 1, b_letter_string⟩,
  ⟨1, 5, b_row_rows⟩,
  ⟨2, 3, b_is_row_form⟩,
  ⟨2, 2, b_need_row⟩,
  ⟨2, 4, b_is_letters_form⟩,
  ⟨2, 2, b_need_letters⟩,
  ⟨2, 2, b_is_row⟩,
  ⟨1, 1, b_rows_all⟩,
  ⟨1, 1, b_letters_of⟩,
  ⟨2, 3, b_signs_under⟩,
  ⟨3, 3, b_under⟩,
  ⟨4, 4, b_are_alike⟩,
  ⟨2, 2, b_row_number⟩,
  ⟨2, 3, b_row_at⟩,
  ⟨1, 4, b__law_begun⟩,
  ⟨1, 3, b__law_mixed⟩,
  ⟨2, 3, b__law_take⟩,
  ⟨2, 2, b__law_pick⟩,
  ⟨1, 3, b__law_caught⟩,
  ⟨1, 3, b__law_kinds⟩,
  ⟨2, 2, b__law_says⟩,
  ⟨3, 3, b__law_number⟩,
  ⟨1, 5, b__law_rows⟩,
  ⟨2, 3, b__law_some_letters⟩,
  ⟨2, 3, b__law_under⟩,
  ⟨1, 14, b_law⟩]
def gloT : List PV := [(.int 4), (.str [97, 98, 99, 100])]
def supT : List (List Nat) := [[0], [0, 1], [0, 2], [0, 3], [0, 4], [0, 5], [0, 6]]
def permT : List (List Nat) := [[3, 2, 1, 0], [2, 1, 0], [1, 0], [1, 0], [1, 0]]
def prog : Prog := ⟨fun f => defT[f]?, fun j => gloT[j]?, fun c k => (supT.getD c []).elem k, fun w => permT.getD w [], 100000⟩
end K00

namespace K00
open PySem PySem.Calls PySem.W PyProof.Rows
open PySem.Spec L2 Pv
/-! ### the walk: each def keeps what its body in the small language says -/
def top (i : Nat) : Stmt := PySem.Challenge.pw_lotsofrows_k00_whole_rows_and_letters.main.body.getD i (.Pass ⟨0, 0, 0, 0⟩)
def fnL : List Str := ["is_whole", "is_within_bounds", "need_width", "letter_string", "row_rows", "is_row_form", "need_row", "is_letters_form", "need_letters", "is_row", "rows_all", "letters_of", "signs_under", "under", "are_alike", "row_number", "row_at", "_law_begun", "_law_mixed", "_law_take", "_law_pick", "_law_caught", "_law_kinds", "_law_says", "_law_number", "_law_rows", "_law_some_letters", "_law_under"]
def gloL : List Str := ["MOST_WIDTH", "LETTERS"]
def clsL : List Str := ["RowError", "BadWidth", "BadRow", "BadLetters", "BadOne", "BadOther", "BadIndex"]
def kwL : List (Nat × Str × List Str) := [(14, "are_alike", ["letters", "other", "one", "width"]), (13, "under", ["letters", "row", "width"]), (16, "row_at", ["index", "width"]), (15, "row_number", ["row", "width"]), (9, "is_row", ["thing", "width"])]
def freeL : List Str := ["len", "tuple", "int", "all", "any", "min", "max", "isinstance", "range", "zip", "enumerate", "bool", "str", "list", "dict"]
abbrev names : Names := ⟨fun f => fnL[f]?, fun j => gloL[j]?, fun c => clsL[c]?, fun i => kwL[i]?, freeL⟩
section
variable {P : Program} {w : World} {K : PySem.W.Frag} {mg : Str → Option Value} {base : Heap} {B : Tbl} {T : Tabl} {n : Nat} {f : Addr} {fd : FuncData}
abbrev s_is_whole : Stmt := top 11
theorem sc_is_whole : FnScope ["thing"] ["thing"] (defScope s_is_whole) := ⟨rfl, rfl, rfl, by decide +kernel, rfl, by decide +kernel, by decide +kernel⟩
theorem k_is_whole (F : Fac (prog.env (prog.run n)) B T names P w K mg base (4 * n)) (D : FunD K "is_whole" "is_whole" (defArgs s_is_whole) (defBody s_is_whole) (defScope s_is_whole) [] [] f fd) : FnOk P w K mg base (L2.CX P w) (4 * n + 4) f fd ["thing"] (spI B T (prog.run (n + 1) 0)) := by
  have S := sc_is_whole
  refine def_ok (d := ⟨1, 1, b_is_whole⟩) D S rfl rfl fun ro cdv A outer s H E hr3 tk hp => ?_
  have hr := hr3.mono (show 4 * n ≤ 4 * n + 3 by omega)
  exact (snd_scons (snd_ret (snd_band (w_isT F (t := .int) rfl (w_v 0) (w_ty F PyProof.Rows.boot_int)) (pe_one (snd_bnot (w_isT F (t := .bool) rfl (w_v 0) (w_ty F PyProof.Rows.boot_bool))))))
  snd_snil)
abbrev s_is_within_bounds : Stmt := top 12
theorem sc_is_within_bounds : FnScope ["thing", "low", "high"] ["thing", "low", "high"] (defScope s_is_within_bounds) := ⟨rfl, rfl, rfl, by decide +kernel, rfl, by decide +kernel, by decide +kernel⟩
theorem k_is_within_bounds (F : Fac (prog.env (prog.run n)) B T names P w K mg base (4 * n)) (D : FunD K "is_within_bounds" "is_within_bounds" (defArgs s_is_within_bounds) (defBody s_is_within_bounds) (defScope s_is_within_bounds) [] [] f fd) : FnOk P w K mg base (L2.CX P w) (4 * n + 4) f fd ["thing", "low", "high"] (spI B T (prog.run (n + 1) 1)) := by
  have S := sc_is_within_bounds
  refine def_ok (d := ⟨3, 3, b_is_within_bounds⟩) D S rfl rfl fun ro cdv A outer s H E hr3 tk hp => ?_
  have hr := hr3.mono (show 4 * n ≤ 4 * n + 3 by omega)
  exact (snd_scons (snd_ret (snd_band (w_call F hr tk 0 (w_al 0 snd_anil)) (pe_one (w_chn op_le' op_le' (w_v 1) (w_v 0) (w_v 2)))))
  snd_snil)
abbrev s_need_width : Stmt := top 13
theorem sc_need_width : FnScope ["width"] ["width"] (defScope s_need_width) := ⟨rfl, rfl, rfl, by decide +kernel, rfl, by decide +kernel, by decide +kernel⟩
theorem k_need_width (F : Fac (prog.env (prog.run n)) B T names P w K mg base (4 * n)) (D : FunD K "need_width" "need_width" (defArgs s_need_width) (defBody s_need_width) (defScope s_need_width) [] [] f fd) : FnOk P w K mg base (L2.CX P w) (4 * n + 4) f fd ["width"] (spI B T (prog.run (n + 1) 2)) := by
  have S := sc_need_width
  refine def_ok (d := ⟨1, 1, b_need_width⟩) D S rfl rfl fun ro cdv A outer s H E hr3 tk hp => ?_
  have hr := hr3.mono (show 4 * n ≤ 4 * n + 3 by omega)
  exact (snd_scons (snd_if (snd_tnot (w_tt F (w_call F hr tk 1 (w_al 0 (w_ae w_int (w_ae (w_glo F 0) snd_anil))))))
  (snd_scons (w_raise F tk 1 rfl)
  snd_snil)
  snd_snil)
  snd_snil)
abbrev s_letter_string : Stmt := top 14
theorem sc_letter_string : FnScope ["width"] ["width"] (defScope s_letter_string) := ⟨rfl, rfl, rfl, by decide +kernel, rfl, by decide +kernel, by decide +kernel⟩
theorem k_letter_string (F : Fac (prog.env (prog.run n)) B T names P w K mg base (4 * n)) (D : FunD K "letter_string" "letter_string" (defArgs s_letter_string) (defBody s_letter_string) (defScope s_letter_string) [] [] f fd) : FnOk P w K mg base (L2.CX P w) (4 * n + 4) f fd ["width"] (spI B T (prog.run (n + 1) 3)) := by
  have S := sc_letter_string
  refine def_ok (d := ⟨1, 1, b_letter_string⟩) D S rfl rfl fun ro cdv A outer s H E hr3 tk hp => ?_
  have hr := hr3.mono (show 4 * n ≤ 4 * n + 3 by omega)
  exact (snd_scons (snd_ret (w_slc F (snd_e (w_glo F 1)) snd_ono (snd_oso (w_var 0))))
  snd_snil)
abbrev s_row_rows : Stmt := top 15
theorem sc_row_rows : FnScope ["width", "found", "place", "longer", "row"] ["width"] (defScope s_row_rows) := ⟨rfl, rfl, rfl, by decide +kernel, rfl, by decide +kernel, by decide +kernel⟩
theorem k_row_rows (F : Fac (prog.env (prog.run n)) B T names P w K mg base (4 * n)) (D : FunD K "row_rows" "row_rows" (defArgs s_row_rows) (defBody s_row_rows) (defScope s_row_rows) [] [] f fd) : FnOk P w K mg base (L2.CX P w) (4 * n + 4) f fd ["width"] (spI B T (prog.run (n + 1) 4)) := by
  have S := sc_row_rows
  refine def_ok (d := ⟨1, 5, b_row_rows⟩) D S rfl rfl fun ro cdv A outer s H E hr3 tk hp => ?_
  have hr := hr3.mono (show 4 * n ≤ 4 * n + 3 by omega)
  exact (snd_scons (w_asg 1 S.nd (snd_lst (w_es (w_str []) snd_enil)))
  (snd_scons (w_for F hp rfl (w_rng1 F (w_var 0)) (w_nm 2 S.nd)
  (snd_scons (w_asg 3 S.nd (snd_lst snd_enil))
  (snd_scons (w_for F hp rfl (snd_seq F.hK (w_var 1)) (w_nm 4 S.nd)
  (snd_scons (w_ext 3 (snd_lst (w_es (w_bin op_add' (w_v 4) (snd_e (w_str [48]))) (w_es (w_bin op_add' (w_v 4) (snd_e (w_str [49]))) snd_enil))))
  snd_snil))
  (snd_scons (w_asg 1 S.nd (w_var 3))
  snd_snil))))
  (snd_scons (snd_ret (w_var 1))
  snd_snil)))
abbrev s_is_row_form : Stmt := top 16
theorem sc_is_row_form : FnScope ["width", "thing", "sign"] ["width", "thing"] (defScope s_is_row_form) := ⟨rfl, rfl, rfl, by decide +kernel, rfl, by decide +kernel, by decide +kernel⟩
theorem k_is_row_form (F : Fac (prog.env (prog.run n)) B T names P w K mg base (4 * n)) (D : FunD K "is_row_form" "is_row_form" (defArgs s_is_row_form) (defBody s_is_row_form) (defScope s_is_row_form) [] [] f fd) : FnOk P w K mg base (L2.CX P w) (4 * n + 4) f fd ["width", "thing"] (spI B T (prog.run (n + 1) 5)) := by
  have S := sc_is_row_form
  refine def_ok (d := ⟨2, 3, b_is_row_form⟩) D S rfl rfl fun ro cdv A outer s H E hr3 tk hp => ?_
  have hr := hr3.mono (show 4 * n ≤ 4 * n + 3 by omega)
  exact (snd_scons (snd_ret (snd_band (w_isT F (t := .str) rfl (w_v 1) (w_ty F PyProof.Rows.boot_str)) (snd_band (w_cmp (o_eq F hr) (snd_e (w_len F (w_v 1))) (w_v 0)) (pe_one (w_all F rfl (snd_e (w_comp F [("sign", 2)] rfl S.nd (snd_seq F.hK (w_var 1)) (fun _ _ _ _ _ => (w_nm 2 S.nd)) (fun _ _ _ _ _ => snd_cno) (fun _ _ _ _ _ => (w_cmp (o_in F hr) (w_v 2) (snd_e (w_str [48, 49])))))))))))
  snd_snil)
abbrev s_need_row : Stmt := top 17
theorem sc_need_row : FnScope ["width", "row"] ["width", "row"] (defScope s_need_row) := ⟨rfl, rfl, rfl, by decide +kernel, rfl, by decide +kernel, by decide +kernel⟩
theorem k_need_row (F : Fac (prog.env (prog.run n)) B T names P w K mg base (4 * n)) (D : FunD K "need_row" "need_row" (defArgs s_need_row) (defBody s_need_row) (defScope s_need_row) [] [] f fd) : FnOk P w K mg base (L2.CX P w) (4 * n + 4) f fd ["width", "row"] (spI B T (prog.run (n + 1) 6)) := by
  have S := sc_need_row
  refine def_ok (d := ⟨2, 2, b_need_row⟩) D S rfl rfl fun ro cdv A outer s H E hr3 tk hp => ?_
  have hr := hr3.mono (show 4 * n ≤ 4 * n + 3 by omega)
  exact (snd_scons (snd_if (snd_tnot (w_tt F (w_call F hr tk 5 (w_al 0 (w_al 1 snd_anil)))))
  (snd_scons (w_raise F tk 2 rfl)
  snd_snil)
  snd_snil)
  snd_snil)
abbrev s_is_letters_form : Stmt := top 18
theorem sc_is_letters_form : FnScope ["width", "thing", "letter", "late"] ["width", "thing"] (defScope s_is_letters_form) := ⟨rfl, rfl, rfl, by decide +kernel, rfl, by decide +kernel, by decide +kernel⟩
theorem k_is_letters_form (F : Fac (prog.env (prog.run n)) B T names P w K mg base (4 * n)) (D : FunD K "is_letters_form" "is_letters_form" (defArgs s_is_letters_form) (defBody s_is_letters_form) (defScope s_is_letters_form) [] [] f fd) : FnOk P w K mg base (L2.CX P w) (4 * n + 4) f fd ["width", "thing"] (spI B T (prog.run (n + 1) 7)) := by
  have S := sc_is_letters_form
  refine def_ok (d := ⟨2, 4, b_is_letters_form⟩) D S rfl rfl fun ro cdv A outer s H E hr3 tk hp => ?_
  have hr := hr3.mono (show 4 * n ≤ 4 * n + 3 by omega)
  exact (snd_scons (snd_if (PW.pt (snd_tor (snd_tnot (w_tt F (w_isT F (t := .str) rfl (w_v 1) (w_ty F PyProof.Rows.boot_str)))) (w_pw1 (snd_tnot (w_tt F (w_all F rfl (snd_e (w_comp F [("letter", 2)] rfl S.nd (snd_seq F.hK (w_var 1)) (fun _ _ _ _ _ => (w_nm 2 S.nd)) (fun _ _ _ _ _ => snd_cno) (fun _ _ _ _ _ => (w_cmp (o_in F hr) (w_v 2) (snd_e (w_call F hr LamX.takes0 3 (w_al 0 snd_anil)))))))))))))
  (snd_scons (snd_ret w_bl)
  snd_snil)
  snd_snil)
  (snd_scons (snd_ret (w_all F rfl (snd_e (w_comp F [("letter", 2), ("late", 3)] rfl S.nd (w_zip F (w_var 1) (w_slc F (w_v 1) (snd_oso w_int) snd_ono)) (fun _ _ _ _ _ => (w_tp rfl (w_gcons 2 S.nd (w_gcons 3 S.nd w_gnil)))) (fun _ _ _ _ _ => snd_cno) (fun _ _ _ _ _ => (w_cmp op_lt' (w_v 2) (w_v 3)))))))
  snd_snil))
abbrev s_need_letters : Stmt := top 19
theorem sc_need_letters : FnScope ["width", "letters"] ["width", "letters"] (defScope s_need_letters) := ⟨rfl, rfl, rfl, by decide +kernel, rfl, by decide +kernel, by decide +kernel⟩
theorem k_need_letters (F : Fac (prog.env (prog.run n)) B T names P w K mg base (4 * n)) (D : FunD K "need_letters" "need_letters" (defArgs s_need_letters) (defBody s_need_letters) (defScope s_need_letters) [] [] f fd) : FnOk P w K mg base (L2.CX P w) (4 * n + 4) f fd ["width", "letters"] (spI B T (prog.run (n + 1) 8)) := by
  have S := sc_need_letters
  refine def_ok (d := ⟨2, 2, b_need_letters⟩) D S rfl rfl fun ro cdv A outer s H E hr3 tk hp => ?_
  have hr := hr3.mono (show 4 * n ≤ 4 * n + 3 by omega)
  exact (snd_scons (snd_if (snd_tnot (w_tt F (w_call F hr tk 7 (w_al 0 (w_al 1 snd_anil)))))
  (snd_scons (w_raise F tk 3 rfl)
  snd_snil)
  snd_snil)
  snd_snil)
abbrev s_is_row : Stmt := top 21
theorem sc_is_row : FnScope ["width", "thing"] ["width", "thing"] (defScope s_is_row) := ⟨rfl, rfl, rfl, by decide +kernel, rfl, by decide +kernel, by decide +kernel⟩
theorem k_is_row (F : Fac (prog.env (prog.run n)) B T names P w K mg base (4 * n)) (D : FunD K "is_row" "is_row" (defArgs s_is_row) (defBody s_is_row) (defScope s_is_row) [] [] f fd) : FnOk P w K mg base (L2.CX P w) (4 * n + 4) f fd ["width", "thing"] (spI B T (prog.run (n + 1) 9)) := by
  have S := sc_is_row
  refine def_ok (d := ⟨2, 2, b_is_row⟩) D S rfl rfl fun ro cdv A outer s H E hr3 tk hp => ?_
  have hr := hr3.mono (show 4 * n ≤ 4 * n + 3 by omega)
  exact (snd_scons (w_expr (w_call F hr tk 2 (w_al 0 snd_anil)))
  (snd_scons (snd_ret (w_call F hr tk 5 (w_al 0 (w_al 1 snd_anil))))
  snd_snil))
abbrev s_rows_all : Stmt := top 22
theorem sc_rows_all : FnScope ["width"] ["width"] (defScope s_rows_all) := ⟨rfl, rfl, rfl, by decide +kernel, rfl, by decide +kernel, by decide +kernel⟩
theorem k_rows_all (F : Fac (prog.env (prog.run n)) B T names P w K mg base (4 * n)) (D : FunD K "rows_all" "rows_all" (defArgs s_rows_all) (defBody s_rows_all) (defScope s_rows_all) [] [] f fd) : FnOk P w K mg base (L2.CX P w) (4 * n + 4) f fd ["width"] (spI B T (prog.run (n + 1) 10)) := by
  have S := sc_rows_all
  refine def_ok (d := ⟨1, 1, b_rows_all⟩) D S rfl rfl fun ro cdv A outer s H E hr3 tk hp => ?_
  have hr := hr3.mono (show 4 * n ≤ 4 * n + 3 by omega)
  exact (snd_scons (w_expr (w_call F hr tk 2 (w_al 0 snd_anil)))
  (snd_scons (snd_ret (w_tuple F (snd_e (w_call F hr tk 4 (w_al 0 snd_anil)))))
  snd_snil))
abbrev s_letters_of : Stmt := top 23
theorem sc_letters_of : FnScope ["width"] ["width"] (defScope s_letters_of) := ⟨rfl, rfl, rfl, by decide +kernel, rfl, by decide +kernel, by decide +kernel⟩
theorem k_letters_of (F : Fac (prog.env (prog.run n)) B T names P w K mg base (4 * n)) (D : FunD K "letters_of" "letters_of" (defArgs s_letters_of) (defBody s_letters_of) (defScope s_letters_of) [] [] f fd) : FnOk P w K mg base (L2.CX P w) (4 * n + 4) f fd ["width"] (spI B T (prog.run (n + 1) 11)) := by
  have S := sc_letters_of
  refine def_ok (d := ⟨1, 1, b_letters_of⟩) D S rfl rfl fun ro cdv A outer s H E hr3 tk hp => ?_
  have hr := hr3.mono (show 4 * n ≤ 4 * n + 3 by omega)
  exact (snd_scons (w_expr (w_call F hr tk 2 (w_al 0 snd_anil)))
  (snd_scons (snd_ret (w_call F hr tk 3 (w_al 0 snd_anil)))
  snd_snil))
abbrev s_signs_under : Stmt := top 24
theorem sc_signs_under : FnScope ["row", "letters", "letter"] ["row", "letters"] (defScope s_signs_under) := ⟨rfl, rfl, rfl, by decide +kernel, rfl, by decide +kernel, by decide +kernel⟩
theorem k_signs_under (F : Fac (prog.env (prog.run n)) B T names P w K mg base (4 * n)) (D : FunD K "signs_under" "signs_under" (defArgs s_signs_under) (defBody s_signs_under) (defScope s_signs_under) [] [] f fd) : FnOk P w K mg base (L2.CX P w) (4 * n + 4) f fd ["row", "letters"] (spI B T (prog.run (n + 1) 12)) := by
  have S := sc_signs_under
  refine def_ok (d := ⟨2, 3, b_signs_under⟩) D S rfl rfl fun ro cdv A outer s H E hr3 tk hp => ?_
  have hr := hr3.mono (show 4 * n ≤ 4 * n + 3 by omega)
  exact (snd_scons (snd_ret (w_join F (w_str []) (snd_e (w_comp F [("letter", 2)] rfl S.nd (snd_seq F.hK (w_var 1)) (fun _ _ _ _ _ => (w_nm 2 S.nd)) (fun _ _ _ _ _ => snd_cno) (fun _ _ _ _ _ => (w_ix F hr (w_v 0) (snd_e (w_sfind rfl (w_glo F 1) (w_v 2)))))))))
  snd_snil)
abbrev s_under : Stmt := top 25
theorem sc_under : FnScope ["width", "row", "letters"] ["width", "row", "letters"] (defScope s_under) := ⟨rfl, rfl, rfl, by decide +kernel, rfl, by decide +kernel, by decide +kernel⟩
theorem k_under (F : Fac (prog.env (prog.run n)) B T names P w K mg base (4 * n)) (D : FunD K "under" "under" (defArgs s_under) (defBody s_under) (defScope s_under) [] [] f fd) : FnOk P w K mg base (L2.CX P w) (4 * n + 4) f fd ["width", "row", "letters"] (spI B T (prog.run (n + 1) 13)) := by
  have S := sc_under
  refine def_ok (d := ⟨3, 3, b_under⟩) D S rfl rfl fun ro cdv A outer s H E hr3 tk hp => ?_
  have hr := hr3.mono (show 4 * n ≤ 4 * n + 3 by omega)
  exact (snd_scons (w_expr (w_call F hr tk 2 (w_al 0 snd_anil)))
  (snd_scons (w_expr (w_call F hr tk 6 (w_al 0 (w_al 1 snd_anil))))
  (snd_scons (w_expr (w_call F hr tk 8 (w_al 0 (w_al 2 snd_anil))))
  (snd_scons (snd_ret (w_call F hr tk 12 (w_al 1 (w_al 2 snd_anil))))
  snd_snil))))
abbrev s_are_alike : Stmt := top 26
theorem sc_are_alike : FnScope ["width", "one", "other", "letters"] ["width", "one", "other", "letters"] (defScope s_are_alike) := ⟨rfl, rfl, rfl, by decide +kernel, rfl, by decide +kernel, by decide +kernel⟩
theorem k_are_alike (F : Fac (prog.env (prog.run n)) B T names P w K mg base (4 * n)) (D : FunD K "are_alike" "are_alike" (defArgs s_are_alike) (defBody s_are_alike) (defScope s_are_alike) [] [] f fd) : FnOk P w K mg base (L2.CX P w) (4 * n + 4) f fd ["width", "one", "other", "letters"] (spI B T (prog.run (n + 1) 14)) := by
  have S := sc_are_alike
  refine def_ok (d := ⟨4, 4, b_are_alike⟩) D S rfl rfl fun ro cdv A outer s H E hr3 tk hp => ?_
  have hr := hr3.mono (show 4 * n ≤ 4 * n + 3 by omega)
  exact (snd_scons (w_expr (w_call F hr tk 2 (w_al 0 snd_anil)))
  (snd_scons (snd_if (snd_tnot (w_tt F (w_call F hr tk 5 (w_al 0 (w_al 1 snd_anil)))))
  (snd_scons (w_raise F tk 4 rfl)
  snd_snil)
  snd_snil)
  (snd_scons (snd_if (snd_tnot (w_tt F (w_call F hr tk 5 (w_al 0 (w_al 2 snd_anil)))))
  (snd_scons (w_raise F tk 5 rfl)
  snd_snil)
  snd_snil)
  (snd_scons (w_expr (w_call F hr tk 8 (w_al 0 (w_al 3 snd_anil))))
  (snd_scons (snd_ret (w_cmp (o_eq F hr) (snd_e (w_call F hr tk 12 (w_al 1 (w_al 3 snd_anil)))) (snd_e (w_call F hr tk 12 (w_al 2 (w_al 3 snd_anil))))))
  snd_snil)))))
abbrev s_row_number : Stmt := top 27
theorem sc_row_number : FnScope ["width", "row"] ["width", "row"] (defScope s_row_number) := ⟨rfl, rfl, rfl, by decide +kernel, rfl, by decide +kernel, by decide +kernel⟩
theorem k_row_number (F : Fac (prog.env (prog.run n)) B T names P w K mg base (4 * n)) (D : FunD K "row_number" "row_number" (defArgs s_row_number) (defBody s_row_number) (defScope s_row_number) [] [] f fd) : FnOk P w K mg base (L2.CX P w) (4 * n + 4) f fd ["width", "row"] (spI B T (prog.run (n + 1) 15)) := by
  have S := sc_row_number
  refine def_ok (d := ⟨2, 2, b_row_number⟩) D S rfl rfl fun ro cdv A outer s H E hr3 tk hp => ?_
  have hr := hr3.mono (show 4 * n ≤ 4 * n + 3 by omega)
  exact (snd_scons (w_expr (w_call F hr tk 2 (w_al 0 snd_anil)))
  (snd_scons (w_expr (w_call F hr tk 6 (w_al 0 (w_al 1 snd_anil))))
  (snd_scons (snd_ret (w_lfind F hr (w_call F hr tk 4 (w_al 0 snd_anil)) (w_v 1)))
  snd_snil)))
abbrev s_row_at : Stmt := top 28
theorem sc_row_at : FnScope ["width", "index", "rows"] ["width", "index"] (defScope s_row_at) := ⟨rfl, rfl, rfl, by decide +kernel, rfl, by decide +kernel, by decide +kernel⟩
theorem k_row_at (F : Fac (prog.env (prog.run n)) B T names P w K mg base (4 * n)) (D : FunD K "row_at" "row_at" (defArgs s_row_at) (defBody s_row_at) (defScope s_row_at) [] [] f fd) : FnOk P w K mg base (L2.CX P w) (4 * n + 4) f fd ["width", "index"] (spI B T (prog.run (n + 1) 16)) := by
  have S := sc_row_at
  refine def_ok (d := ⟨2, 3, b_row_at⟩) D S rfl rfl fun ro cdv A outer s H E hr3 tk hp => ?_
  have hr := hr3.mono (show 4 * n ≤ 4 * n + 3 by omega)
  exact (snd_scons (w_expr (w_call F hr tk 2 (w_al 0 snd_anil)))
  (snd_scons (w_asg 2 S.nd (w_call F hr tk 4 (w_al 0 snd_anil)))
  (snd_scons (snd_if (snd_tnot (w_tt F (w_call F hr tk 1 (w_al 1 (w_ae w_int (w_ae (w_bin op_sub' (snd_e (w_len F (w_v 2))) (snd_e w_int)) snd_anil))))))
  (snd_scons (w_raise F tk 6 rfl)
  snd_snil)
  snd_snil)
  (snd_scons (snd_ret (w_ix F hr (w_v 2) (w_v 1)))
  snd_snil))))
abbrev s__law_begun : Stmt := top 30
theorem sc__law_begun : FnScope ["script", "whole", "cells", "cell"] ["script"] (defScope s__law_begun) := ⟨rfl, rfl, rfl, by decide +kernel, rfl, by decide +kernel, by decide +kernel⟩
theorem k__law_begun (F : Fac (prog.env (prog.run n)) B T names P w K mg base (4 * n)) (D : FunD K "_law_begun" "_law_begun" (defArgs s__law_begun) (defBody s__law_begun) (defScope s__law_begun) [] [] f fd) : FnOk P w K mg base (L2.CX P w) (4 * n + 4) f fd ["script"] (spI B T (prog.run (n + 1) 17)) := by
  have S := sc__law_begun
  refine def_ok (d := ⟨1, 4, b__law_begun⟩) D S rfl rfl fun ro cdv A outer s H E hr3 tk hp => ?_
  have hr := hr3.mono (show 4 * n ≤ 4 * n + 3 by omega)
  exact (snd_scons (w_par2 1 2 rfl S.nd (w_fs w_int (w_fs (snd_lst snd_enil) snd_fnil)))
  (snd_scons (w_for F hp rfl (snd_seq F.hK (w_var 0)) (w_nm 3 S.nd)
  (snd_scons (snd_if (w_tt F (w_isT F (t := .int) rfl (w_v 3) (w_ty F PyProof.Rows.boot_int)))
  (snd_scons (snd_if (w_tcmp op_ge' (w_v 3) (snd_e (w_bin op_pow' (snd_e w_int) (snd_e w_int))))
  (snd_scons (w_asg 1 S.nd (w_bin op_add' (snd_e (w_bin op_mul' (w_v 1) (snd_e (w_bin op_add' (snd_e (w_bin op_sub' (w_v 3) (snd_e (w_bin op_pow' (snd_e w_int) (snd_e w_int))))) (snd_e w_int))))) (snd_e (w_bin op_sub' (w_v 3) (snd_e (w_bin op_pow' (snd_e w_int) (snd_e w_int)))))))
  snd_snil)
  snd_snil)
  (snd_scons (w_app 2 (w_var 3))
  snd_snil))
  snd_snil)
  snd_snil))
  (snd_scons (snd_ret (w_dic (snd_dcons (w_str [119, 104, 111, 108, 101]) (w_var 1) (snd_dcons (w_str [99, 101, 108, 108, 115]) (w_var 2) (snd_dcons (w_str [99, 111, 117, 110, 116]) w_int snd_dnil)))))
  snd_snil)))
abbrev s__law_mixed : Stmt := top 31
theorem sc__law_mixed : FnScope ["draw", "found", "cell"] ["draw"] (defScope s__law_mixed) := ⟨rfl, rfl, rfl, by decide +kernel, rfl, by decide +kernel, by decide +kernel⟩
theorem k__law_mixed (F : Fac (prog.env (prog.run n)) B T names P w K mg base (4 * n)) (D : FunD K "_law_mixed" "_law_mixed" (defArgs s__law_mixed) (defBody s__law_mixed) (defScope s__law_mixed) [] [] f fd) : FnOk P w K mg base (L2.CX P w) (4 * n + 4) f fd ["draw"] (spI B T (prog.run (n + 1) 18)) := by
  have S := sc__law_mixed
  refine def_ok (d := ⟨1, 3, b__law_mixed⟩) D S rfl rfl fun ro cdv A outer s H E hr3 tk hp => ?_
  have hr := hr3.mono (show 4 * n ≤ 4 * n + 3 by omega)
  exact (snd_scons (w_put hr 0 (w_str [99, 111, 117, 110, 116]) (w_bin op_add' (snd_e (w_ix F hr (w_v 0) (snd_e (w_str [99, 111, 117, 110, 116])))) (snd_e w_int)))
  (snd_scons (w_asg 1 S.nd (w_bin op_add' (snd_e w_int) (snd_e (w_bin op_mul' (snd_e w_int) (snd_e (w_ix F hr (w_v 0) (snd_e (w_str [99, 111, 117, 110, 116]))))))))
  (snd_scons (w_for F hp rfl (snd_seq F.hK (w_bin op_add' (snd_e (w_ix F hr (w_v 0) (snd_e (w_str [99, 101, 108, 108, 115])))) (snd_e (snd_lst (w_es (w_ix F hr (w_v 0) (snd_e (w_str [99, 111, 117, 110, 116]))) snd_enil))))) (w_nm 2 S.nd)
  (snd_scons (w_asg 1 S.nd (w_bin op_mod' (snd_e (w_toint F (snd_e (w_bin op_mul' (snd_e (w_bin op_add' (w_v 1) (w_v 2))) (snd_e w_int))))) (snd_e (w_bin op_sub' (snd_e (w_bin op_pow' (snd_e w_int) (snd_e w_int))) (snd_e w_int)))))
  (snd_scons (w_asg 1 S.nd (w_bin op_add' (w_v 1) (snd_e (w_bin op_fdiv' (w_v 1) (snd_e (w_bin op_pow' (snd_e w_int) (snd_e w_int)))))))
  snd_snil)))
  (snd_scons (snd_ret (w_var 1))
  snd_snil))))
abbrev s__law_take : Stmt := top 32
theorem sc__law_take : FnScope ["draw", "amount", "found"] ["draw", "amount"] (defScope s__law_take) := ⟨rfl, rfl, rfl, by decide +kernel, rfl, by decide +kernel, by decide +kernel⟩
theorem k__law_take (F : Fac (prog.env (prog.run n)) B T names P w K mg base (4 * n)) (D : FunD K "_law_take" "_law_take" (defArgs s__law_take) (defBody s__law_take) (defScope s__law_take) [] [] f fd) : FnOk P w K mg base (L2.CX P w) (4 * n + 4) f fd ["draw", "amount"] (spI B T (prog.run (n + 1) 19)) := by
  have S := sc__law_take
  refine def_ok (d := ⟨2, 3, b__law_take⟩) D S rfl rfl fun ro cdv A outer s H E hr3 tk hp => ?_
  have hr := hr3.mono (show 4 * n ≤ 4 * n + 3 by omega)
  exact (snd_scons (snd_if (w_tcmp op_lt' (w_v 1) (snd_e w_int))
  (snd_scons (snd_ret w_int)
  snd_snil)
  snd_snil)
  (snd_scons (snd_if (w_tcmp op_gt' (snd_e (w_ix F hr (w_v 0) (snd_e (w_str [119, 104, 111, 108, 101])))) (snd_e w_int))
  (snd_scons (w_asg 2 S.nd (w_bin op_mod' (snd_e (w_toint F (snd_e (w_ix F hr (w_v 0) (snd_e (w_str [119, 104, 111, 108, 101])))))) (w_v 1)))
  (snd_scons (w_put hr 0 (w_str [119, 104, 111, 108, 101]) (w_bin op_fdiv' (snd_e (w_ix F hr (w_v 0) (snd_e (w_str [119, 104, 111, 108, 101])))) (w_v 1)))
  (snd_scons (snd_ret (w_var 2))
  snd_snil)))
  snd_snil)
  (snd_scons (w_asg 2 S.nd (w_call F hr tk 18 (w_al 0 snd_anil)))
  (snd_scons (snd_whl hp (PW.pt (snd_tand (w_tcmp op_gt' (w_v 1) (snd_e (w_bin op_pow' (snd_e w_int) (snd_e w_int)))) (w_pw1 (w_tcmp op_lt' (w_v 2) (snd_e (w_bin op_mul' (w_v 1) (w_v 1)))))))
  (snd_scons (w_asg 2 S.nd (w_bin op_add' (snd_e (w_bin op_mul' (w_v 2) (snd_e (w_bin op_pow' (snd_e w_int) (snd_e w_int))))) (snd_e (w_call F hr tk 18 (w_al 0 snd_anil)))))
  snd_snil))
  (snd_scons (snd_ret (w_bin op_mod' (snd_e (w_toint F (snd_e (w_bin op_fdiv' (w_v 2) (snd_e w_int))))) (w_v 1)))
  snd_snil)))))
abbrev s__law_pick : Stmt := top 33
theorem sc__law_pick : FnScope ["draw", "items"] ["draw", "items"] (defScope s__law_pick) := ⟨rfl, rfl, rfl, by decide +kernel, rfl, by decide +kernel, by decide +kernel⟩
theorem k__law_pick (F : Fac (prog.env (prog.run n)) B T names P w K mg base (4 * n)) (D : FunD K "_law_pick" "_law_pick" (defArgs s__law_pick) (defBody s__law_pick) (defScope s__law_pick) [] [] f fd) : FnOk P w K mg base (L2.CX P w) (4 * n + 4) f fd ["draw", "items"] (spI B T (prog.run (n + 1) 20)) := by
  have S := sc__law_pick
  refine def_ok (d := ⟨2, 2, b__law_pick⟩) D S rfl rfl fun ro cdv A outer s H E hr3 tk hp => ?_
  have hr := hr3.mono (show 4 * n ≤ 4 * n + 3 by omega)
  exact (snd_scons (snd_ret (w_ix F hr (w_v 1) (snd_e (w_call F hr tk 19 (w_al 0 (w_ae (w_len F (w_v 1)) snd_anil))))))
  snd_snil)
abbrev s__law_caught : Stmt := top 34
theorem sc__law_caught : FnScope ["work", "caught", "error"] ["work"] (defScope s__law_caught) := ⟨rfl, rfl, rfl, by decide +kernel, rfl, by decide +kernel, by decide +kernel⟩
theorem k__law_caught (F : Fac (prog.env (prog.run n)) B T names P w K mg base (4 * n)) (D : FunD K "_law_caught" "_law_caught" (defArgs s__law_caught) (defBody s__law_caught) (defScope s__law_caught) [] [] f fd) : FnOk P w K mg base (L2.CX P w) (4 * n + 4) f fd ["work"] (spI B T (prog.run (n + 1) 21)) := by
  have S := sc__law_caught
  refine def_ok (d := ⟨1, 3, b__law_caught⟩) D S rfl rfl fun ro cdv A outer s H E hr3 tk hp => ?_
  have hr := hr3.mono (show 4 * n ≤ 4 * n + 3 by omega)
  exact (snd_scons (w_asg 1 S.nd w_non)
  (snd_scons snd_sdead
  (snd_scons (snd_ret (w_var 1))
  snd_snil)))
abbrev s__law_kinds : Stmt := top 35
theorem sc__law_kinds : FnScope ["thing", "key", "item"] ["thing"] (defScope s__law_kinds) := ⟨rfl, rfl, rfl, by decide +kernel, rfl, by decide +kernel, by decide +kernel⟩
theorem k__law_kinds (F : Fac (prog.env (prog.run n)) B T names P w K mg base (4 * n)) (D : FunD K "_law_kinds" "_law_kinds" (defArgs s__law_kinds) (defBody s__law_kinds) (defScope s__law_kinds) [] [] f fd) : FnOk P w K mg base (L2.CX P w) (4 * n + 4) f fd ["thing"] (spI B T (prog.run (n + 1) 22)) := by
  have S := sc__law_kinds
  refine def_ok (d := ⟨1, 3, b__law_kinds⟩) D S rfl rfl fun ro cdv A outer s H E hr3 tk hp => ?_
  have hr := hr3.mono (show 4 * n ≤ 4 * n + 3 by omega)
  exact (snd_scons (snd_if (w_tt F (w_isT F (t := .dict) rfl (w_v 0) (w_ty F PyProof.Rows.boot_dict)))
  (snd_scons (snd_ret (snd_tup (w_es (w_str [100, 105, 99, 116]) (w_es (w_tuple F (snd_e snd_dead)) snd_enil))))
  snd_snil)
  snd_snil)
  (snd_scons (snd_if (PW.pt (snd_tor (w_tt F (w_isT F (t := .tuple) rfl (w_v 0) (w_ty F PyProof.Rows.boot_tuple))) (w_pw1 (w_tt F (w_isT F (t := .list) rfl (w_v 0) (w_ty F PyProof.Rows.boot_list))))))
  (snd_scons (snd_ret (snd_tup (w_es (snd_ite (w_tt F (w_isT F (t := .list) rfl (w_v 0) (w_ty F PyProof.Rows.boot_list))) (w_str [108, 105, 115, 116]) (w_str [116, 117, 112, 108, 101])) (w_es (w_tuple F (snd_e (w_comp F [("item", 2)] rfl S.nd (snd_seq F.hK (w_var 0)) (fun _ _ _ _ _ => (w_nm 2 S.nd)) (fun _ _ _ _ _ => snd_cno) (fun _ _ _ _ _ => (w_call F hr LamX.takes0 22 (w_al 2 snd_anil)))))) snd_enil))))
  snd_snil)
  snd_snil)
  (snd_scons (snd_ret (snd_tup (w_es (snd_ite (w_tt F (w_isT F (t := .bool) rfl (w_v 0) (w_ty F PyProof.Rows.boot_bool))) (w_str [116, 114, 117, 116, 104]) (w_str [112, 108, 97, 105, 110])) (w_es (w_var 0) snd_enil))))
  snd_snil)))
abbrev s__law_says : Stmt := top 36
theorem sc__law_says : FnScope ["told", "due"] ["told", "due"] (defScope s__law_says) := ⟨rfl, rfl, rfl, by decide +kernel, rfl, by decide +kernel, by decide +kernel⟩
theorem k__law_says (F : Fac (prog.env (prog.run n)) B T names P w K mg base (4 * n)) (D : FunD K "_law_says" "_law_says" (defArgs s__law_says) (defBody s__law_says) (defScope s__law_says) [] [] f fd) : FnOk P w K mg base (L2.CX P w) (4 * n + 4) f fd ["told", "due"] (spI B T (prog.run (n + 1) 23)) := by
  have S := sc__law_says
  refine def_ok (d := ⟨2, 2, b__law_says⟩) D S rfl rfl fun ro cdv A outer s H E hr3 tk hp => ?_
  have hr := hr3.mono (show 4 * n ≤ 4 * n + 3 by omega)
  exact (snd_scons (snd_ret (w_cmp (o_eq F hr) (snd_e (w_call F hr tk 22 (w_al 0 snd_anil))) (snd_e (w_call F hr tk 22 (w_al 1 snd_anil)))))
  snd_snil)
abbrev s__law_number : Stmt := top 37
theorem sc__law_number : FnScope ["draw", "low", "high"] ["draw", "low", "high"] (defScope s__law_number) := ⟨rfl, rfl, rfl, by decide +kernel, rfl, by decide +kernel, by decide +kernel⟩
theorem k__law_number (F : Fac (prog.env (prog.run n)) B T names P w K mg base (4 * n)) (D : FunD K "_law_number" "_law_number" (defArgs s__law_number) (defBody s__law_number) (defScope s__law_number) [] [] f fd) : FnOk P w K mg base (L2.CX P w) (4 * n + 4) f fd ["draw", "low", "high"] (spI B T (prog.run (n + 1) 24)) := by
  have S := sc__law_number
  refine def_ok (d := ⟨3, 3, b__law_number⟩) D S rfl rfl fun ro cdv A outer s H E hr3 tk hp => ?_
  have hr := hr3.mono (show 4 * n ≤ 4 * n + 3 by omega)
  exact (snd_scons (snd_ret (w_call F hr tk 20 (w_al 0 (w_ae (snd_lst (w_es w_non (w_es (w_bin op_sub' (w_v 1) (snd_e w_int)) (w_es (w_bin op_add' (w_v 2) (snd_e w_int)) (w_es (w_str [49]) (w_es w_bl (w_es (snd_tup (w_es (w_var 1) snd_enil)) (w_es (snd_lst snd_enil) (w_es (w_bin op_pow' (snd_e w_int) (snd_e w_int)) snd_enil))))))))) snd_anil))))
  snd_snil)
abbrev s__law_rows : Stmt := top 38
theorem sc__law_rows : FnScope ["width", "found", "place", "longer", "row"] ["width"] (defScope s__law_rows) := ⟨rfl, rfl, rfl, by decide +kernel, rfl, by decide +kernel, by decide +kernel⟩
theorem k__law_rows (F : Fac (prog.env (prog.run n)) B T names P w K mg base (4 * n)) (D : FunD K "_law_rows" "_law_rows" (defArgs s__law_rows) (defBody s__law_rows) (defScope s__law_rows) [] [] f fd) : FnOk P w K mg base (L2.CX P w) (4 * n + 4) f fd ["width"] (spI B T (prog.run (n + 1) 25)) := by
  have S := sc__law_rows
  refine def_ok (d := ⟨1, 5, b__law_rows⟩) D S rfl rfl fun ro cdv A outer s H E hr3 tk hp => ?_
  have hr := hr3.mono (show 4 * n ≤ 4 * n + 3 by omega)
  exact (snd_scons (w_asg 1 S.nd (snd_lst (w_es (w_str []) snd_enil)))
  (snd_scons (w_for F hp rfl (w_rng1 F (w_var 0)) (w_nm 2 S.nd)
  (snd_scons (w_asg 3 S.nd (snd_lst snd_enil))
  (snd_scons (w_for F hp rfl (snd_seq F.hK (w_var 1)) (w_nm 4 S.nd)
  (snd_scons (w_asg 3 S.nd (w_bin op_add' (w_v 3) (snd_e (snd_lst (w_es (w_bin op_add' (w_v 4) (snd_e (w_str [48]))) (w_es (w_bin op_add' (w_v 4) (snd_e (w_str [49]))) snd_enil))))))
  snd_snil))
  (snd_scons (w_asg 1 S.nd (w_var 3))
  snd_snil))))
  (snd_scons (snd_ret (w_var 1))
  snd_snil)))
abbrev s__law_some_letters : Stmt := top 39
theorem sc__law_some_letters : FnScope ["draw", "width", "letter"] ["draw", "width"] (defScope s__law_some_letters) := ⟨rfl, rfl, rfl, by decide +kernel, rfl, by decide +kernel, by decide +kernel⟩
theorem k__law_some_letters (F : Fac (prog.env (prog.run n)) B T names P w K mg base (4 * n)) (D : FunD K "_law_some_letters" "_law_some_letters" (defArgs s__law_some_letters) (defBody s__law_some_letters) (defScope s__law_some_letters) [] [] f fd) : FnOk P w K mg base (L2.CX P w) (4 * n + 4) f fd ["draw", "width"] (spI B T (prog.run (n + 1) 26)) := by
  have S := sc__law_some_letters
  refine def_ok (d := ⟨2, 3, b__law_some_letters⟩) D S rfl rfl fun ro cdv A outer s H E hr3 tk hp => ?_
  have hr := hr3.mono (show 4 * n ≤ 4 * n + 3 by omega)
  exact (snd_scons (snd_ret (w_join F (w_str []) (snd_e (w_comp F [("letter", 2)] rfl S.nd (snd_seq F.hK (w_slc F (snd_e (w_str [97, 98, 99, 100])) snd_ono (snd_oso (w_var 1)))) (fun _ _ _ _ _ => (w_nm 2 S.nd)) (fun _ _ _ _ _ => (snd_cso (w_tcmp (o_eq F hr) (snd_e (w_call F hr LamX.takes0 19 (w_al 0 (w_ae w_int snd_anil)))) (snd_e w_int)))) (fun _ _ _ _ _ => (w_var 2))))))
  snd_snil)
abbrev s__law_under : Stmt := top 40
theorem sc__law_under : FnScope ["row", "letters", "sign"] ["row", "letters"] (defScope s__law_under) := ⟨rfl, rfl, rfl, by decide +kernel, rfl, by decide +kernel, by decide +kernel⟩
theorem k__law_under (F : Fac (prog.env (prog.run n)) B T names P w K mg base (4 * n)) (D : FunD K "_law_under" "_law_under" (defArgs s__law_under) (defBody s__law_under) (defScope s__law_under) [] [] f fd) : FnOk P w K mg base (L2.CX P w) (4 * n + 4) f fd ["row", "letters"] (spI B T (prog.run (n + 1) 27)) := by
  have S := sc__law_under
  refine def_ok (d := ⟨2, 3, b__law_under⟩) D S rfl rfl fun ro cdv A outer s H E hr3 tk hp => ?_
  have hr := hr3.mono (show 4 * n ≤ 4 * n + 3 by omega)
  exact (snd_scons (snd_ret (w_join F (w_str []) (snd_e (w_comp F [("sign", 2)] rfl S.nd (snd_seq F.hK (w_var 1)) (fun _ _ _ _ _ => (w_nm 2 S.nd)) (fun _ _ _ _ _ => snd_cno) (fun _ _ _ _ _ => (snd_ite (w_tcmp (o_in F hr) (w_v 2) (snd_e (w_str [48, 49]))) (w_var 2) (w_ix F hr (w_v 0) (snd_e (w_sfind rfl (w_str [97, 98, 99, 100]) (w_v 2))))))))))
  snd_snil)
abbrev s_law : Stmt := top 41
theorem sc_law : FnScope ["script", "draw", "turn", "width", "rows", "letters", "one", "other", "wrong", "told", "index", "odd", "errors", "work"] ["script"] (defScope s_law) := ⟨rfl, rfl, rfl, by decide +kernel, rfl, by decide +kernel, by decide +kernel⟩
theorem k_law (F : Fac (prog.env (prog.run n)) B T names P w K mg base (4 * n)) (CF : CauO (prog.env (prog.run n)) B K mg "_law_caught") {dV kV doc pm ct oc : Value} {an od : Option Addr} {osl : Array (Option Value)} {c Pt : Addr} (LC : LamC T base mg c Pt ("law.<locals>.<lambda>"))
  (lk : K.lookup f = some ⟨oc, od, .func (PySem.W.fnOf "law" "law" (defArgs s_law) (defBody s_law) (defScope s_law) dV kV doc pm an (.ref c) ct), osl⟩) (hcd : PySem.W.codeIn K (.ref c) "law" = true) : FnOk P w K mg base (L2.CX P w) (4 * n + 4) f (PySem.W.fnOf "law" "law" (defArgs s_law) (defBody s_law) (defScope s_law) dV kV doc pm an (.ref c) ct) ["script"] (spLaw K T (prog.run (n + 1) 28)) := by
  have S := sc_law
  refine law_ok (B := B) (d := ⟨1, 14, b_law⟩) F.hK lk hcd S rfl rfl rfl fun ro A outer s H E hr3 tk hp => ?_
  have hr := hr3.mono (show 4 * n ≤ 4 * n + 3 by omega)
  have hr2 := hr3.mono (show 4 * n + 2 ≤ 4 * n + 3 by omega)
  exact (snd_scons (w_asg 1 S.nd (w_call F hr tk 17 (w_al 0 snd_anil)))
  (snd_scons (w_for F hp rfl (w_rng1 F (w_bin op_add' (snd_e w_int) (snd_e (w_min F rfl (snd_e (w_len F (w_v 0))) (snd_e w_int))))) (w_nm 2 S.nd)
  (snd_scons (w_asg 3 S.nd (w_bin op_add' (snd_e w_int) (snd_e (w_call F hr tk 19 (w_al 1 (w_ae w_int snd_anil))))))
  (snd_scons (w_parT F (w_fs (w_call F hr tk 25 (w_al 3 snd_anil)) (w_fs (w_call F hr tk 26 (w_al 1 (w_al 3 snd_anil))) snd_fnil)) (w_tp rfl (w_gcons 4 S.nd (w_gcons 5 S.nd w_gnil))))
  (snd_scons (w_parT F (w_fs (w_call F hr tk 20 (w_al 1 (w_al 4 snd_anil))) (w_fs (w_call F hr tk 20 (w_al 1 (w_al 4 snd_anil))) snd_fnil)) (w_tp rfl (w_gcons 6 S.nd (w_gcons 7 S.nd w_gnil))))
  (snd_scons (w_asg 8 S.nd (w_call F hr tk 20 (w_al 1 (w_ae (snd_lst (w_es w_non (w_es w_int (w_es (w_str []) (w_es (w_bin op_mul' (snd_e (w_str [48])) (snd_e (w_bin op_add' (w_v 3) (snd_e w_int)))) (w_es (w_bin op_mul' (snd_e (w_str [50])) (w_v 3)) (w_es (snd_lst (w_es (w_str [48]) snd_enil)) (w_es (w_bin op_mul' (snd_e (w_str [97])) (w_v 3)) (w_es (snd_tup (w_es (w_str [48]) snd_enil)) snd_enil))))))))) snd_anil))))
  (snd_scons (w_asg 9 S.nd (snd_lst (w_es (w_call F hr tk 9 (w_al 3 (w_al 6 snd_anil))) (w_es (w_callk F hr tk 9 4 (w_kl 8 (w_kl 3 snd_knil))) (w_es (w_call F hr tk 10 (w_al 3 snd_anil)) (w_es (w_call F hr tk 11 (w_al 3 snd_anil)) (w_es (w_call F hr tk 13 (w_al 3 (w_al 6 (w_al 5 snd_anil)))) (w_es (w_call F hr tk 14 (w_al 3 (w_al 6 (w_al 7 (w_al 5 snd_anil))))) snd_enil))))))))
  (snd_scons (snd_if (snd_tnot (w_tt F (w_call F hr tk 23 (w_al 9 (w_ae (snd_lst (w_es w_bl (w_es w_bl (w_es (w_tuple F (w_v 4)) (w_es (w_slc F (snd_e (w_str [97, 98, 99, 100])) snd_ono (snd_oso (w_var 3))) (w_es (w_call F hr tk 27 (w_al 6 (w_al 5 snd_anil))) (w_es (w_cmp (o_eq F hr) (snd_e (w_call F hr tk 27 (w_al 6 (w_al 5 snd_anil)))) (snd_e (w_call F hr tk 27 (w_al 7 (w_al 5 snd_anil))))) snd_enil))))))) snd_anil)))))
  (snd_scons (snd_ret w_bl)
  snd_snil)
  snd_snil)
  (snd_scons (w_asg 10 S.nd (w_lfind F hr (w_var 4) (w_v 6)))
  (snd_scons (w_asg 9 S.nd (snd_lst (w_es (w_call F hr tk 15 (w_al 3 (w_al 6 snd_anil))) (w_es (w_call F hr tk 16 (w_al 3 (w_al 10 snd_anil))) (w_es (w_callk F hr tk 15 3 (w_kl 6 (w_kl 3 snd_knil))) (w_es (w_callk F hr tk 16 2 (w_kl 10 (w_kl 3 snd_knil))) (w_es (w_callk F hr tk 13 1 (w_kl 5 (w_kl 6 (w_kl 3 snd_knil)))) snd_enil)))))))
  (snd_scons (snd_if (PW.pt (snd_tor (snd_tnot (w_tt F (w_call F hr tk 23 (w_al 9 (w_ae (snd_lst (w_es (w_var 10) (w_es (w_var 6) (w_es (w_var 10) (w_es (w_var 6) (w_es (w_call F hr tk 27 (w_al 6 (w_al 5 snd_anil))) snd_enil)))))) snd_anil))))) (w_pw1 (snd_tnot (w_tt F (w_call F hr tk 23 (w_ae (w_callk F hr tk 14 0 (w_kl 5 (w_kl 6 (w_kl 6 (w_kl 3 snd_knil))))) (w_ae w_bl snd_anil))))))))
  (snd_scons (snd_ret w_bl)
  snd_snil)
  snd_snil)
  (snd_scons (w_asg 11 S.nd (w_call F hr tk 20 (w_al 1 (w_ae (snd_lst (w_es w_non (w_es (w_str [101]) (w_es (w_str [97, 97]) (w_es (w_str [65]) (w_es (snd_lst (w_es (w_str [97]) snd_enil)) (w_es (w_str [48]) (w_es (w_str [98, 97]) (w_es (snd_ite (w_tcmp op_lt' (w_v 3) (snd_e w_int)) (w_slc F (snd_e (w_str [97, 98, 99, 100])) snd_ono (snd_oso (w_bin op_add' (w_v 3) (snd_e w_int)))) (w_str [97, 98, 99, 100, 101])) snd_enil))))))))) snd_anil))))
  (snd_scons (w_asgLc F [("work", 13)] 12 rfl S.nd (snd_seq F.hK (snd_lst (w_es (w_fnv F 9) (w_es (w_fnv F 15) (w_es (w_fnv F 16) snd_enil))))) (fun _ _ _ _ _ => (w_nm 13 S.nd)) (fun _ _ _ _ _ => snd_cno) (fun _ _ _ _ _ => (w_isC F 1 (snd_e (w_caught CF LC hr2 (fun _ _ _ _ _ _ _ hr => (w_callv F hr (takes_of rfl rfl rfl rfl) 13 (w_ae (w_call F hr (takes_of rfl rfl rfl rfl) 24 (w_al 1 (w_ae w_int (w_ae w_int snd_anil)))) (w_ae w_non snd_anil)))))))))
  (snd_scons (w_app 12 (w_isC F 1 (snd_e (w_caught CF LC hr2 (fun _ _ _ _ _ _ _ hr => (w_call F hr (takes_of rfl rfl rfl rfl) 10 (w_ae (w_call F hr (takes_of rfl rfl rfl rfl) 24 (w_al 1 (w_ae w_int (w_ae w_int snd_anil)))) snd_anil)))))))
  (snd_scons (w_app 12 (w_isC F 2 (snd_e (w_caught CF LC hr2 (fun _ _ _ _ _ _ _ hr => (w_call F hr (takes_of rfl rfl rfl rfl) 13 (w_al 3 (w_al 8 (w_ae w_non snd_anil)))))))))
  (snd_scons (w_app 12 (w_isC F 3 (snd_e (w_caught CF LC hr2 (fun _ _ _ _ _ _ _ hr => (w_call F hr (takes_of rfl rfl rfl rfl) 13 (w_al 3 (w_al 6 (w_al 11 snd_anil)))))))))
  (snd_scons (w_app 12 (w_isC F 4 (snd_e (w_caught CF LC hr2 (fun _ _ _ _ _ _ _ hr => (w_call F hr (takes_of rfl rfl rfl rfl) 14 (w_al 3 (w_al 8 (w_ae w_non (w_ae w_non snd_anil))))))))))
  (snd_scons (w_app 12 (w_isC F 5 (snd_e (w_caught CF LC hr2 (fun _ _ _ _ _ _ _ hr => (w_call F hr (takes_of rfl rfl rfl rfl) 14 (w_al 3 (w_al 6 (w_al 8 (w_ae w_non snd_anil))))))))))
  (snd_scons (w_app 12 (w_isC F 2 (snd_e (w_caught CF LC hr2 (fun _ _ _ _ _ _ _ hr => (w_call F hr (takes_of rfl rfl rfl rfl) 15 (w_al 3 (w_al 8 snd_anil))))))))
  (snd_scons (w_app 12 (w_isC F 6 (snd_e (w_caught CF LC hr2 (fun _ _ _ _ _ _ _ hr => (w_call F hr (takes_of rfl rfl rfl rfl) 16 (w_al 3 (w_ae (w_call F hr (takes_of rfl rfl rfl rfl) 24 (w_al 1 (w_ae w_int (w_ae (w_bin op_sub' (snd_e (w_len F (w_v 4))) (snd_e w_int)) snd_anil)))) snd_anil))))))))
  (snd_scons (snd_if (w_tcmp (o_ne F hr) (w_v 12) (snd_e (w_bin op_mul' (snd_e (snd_lst (w_es w_bl snd_enil))) (snd_e w_int))))
  (snd_scons (snd_ret w_bl)
  snd_snil)
  snd_snil)
  snd_snil))))))))))))))))))))
  (snd_scons (snd_ret (w_call F hr tk 23 (w_ae (snd_lst (w_es (w_call F hr tk 10 (w_ae w_int snd_anil)) (w_es (w_call F hr tk 13 (w_ae w_int (w_ae (w_str [49, 48, 49]) (w_ae (w_str [97, 99]) snd_anil)))) (w_es (w_call F hr tk 14 (w_ae w_int (w_ae (w_str [48, 49]) (w_ae (w_str [49, 49]) (w_ae (w_str [98]) snd_anil))))) (w_es (w_call F hr tk 14 (w_ae w_int (w_ae (w_str [48, 49]) (w_ae (w_str [49, 49]) (w_ae (w_str [97]) snd_anil))))) (w_es (w_call F hr tk 16 (w_ae w_int (w_ae w_int snd_anil))) snd_enil)))))) (w_ae (snd_lst (w_es (snd_tup (w_es (w_str [48, 48]) (w_es (w_str [48, 49]) (w_es (w_str [49, 48]) (w_es (w_str [49, 49]) snd_enil))))) (w_es (w_str [49, 49]) (w_es w_bl (w_es w_bl (w_es (w_str [49, 49, 49, 49]) snd_enil)))))) snd_anil))))
  snd_snil)))
theorem d_is_whole (D : FunD K "is_whole" "is_whole" (defArgs s_is_whole) (defBody s_is_whole) (defScope s_is_whole) [] [] f fd) : Binds K fd ["thing"] [] := D.bindsN fun _ _ _ _ _ _ us hl => match us, hl with | [_], _ => rfl
theorem d_is_within_bounds (D : FunD K "is_within_bounds" "is_within_bounds" (defArgs s_is_within_bounds) (defBody s_is_within_bounds) (defScope s_is_within_bounds) [] [] f fd) : Binds K fd ["thing", "low", "high"] [] := D.bindsN fun _ _ _ _ _ _ us hl => match us, hl with | [_, _, _], _ => rfl
theorem d_need_width (D : FunD K "need_width" "need_width" (defArgs s_need_width) (defBody s_need_width) (defScope s_need_width) [] [] f fd) : Binds K fd ["width"] [] := D.bindsN fun _ _ _ _ _ _ us hl => match us, hl with | [_], _ => rfl
theorem d_letter_string (D : FunD K "letter_string" "letter_string" (defArgs s_letter_string) (defBody s_letter_string) (defScope s_letter_string) [] [] f fd) : Binds K fd ["width"] [] := D.bindsN fun _ _ _ _ _ _ us hl => match us, hl with | [_], _ => rfl
theorem d_row_rows (D : FunD K "row_rows" "row_rows" (defArgs s_row_rows) (defBody s_row_rows) (defScope s_row_rows) [] [] f fd) : Binds K fd ["width"] [] := D.bindsN fun _ _ _ _ _ _ us hl => match us, hl with | [_], _ => rfl
theorem d_is_row_form (D : FunD K "is_row_form" "is_row_form" (defArgs s_is_row_form) (defBody s_is_row_form) (defScope s_is_row_form) [] [] f fd) : Binds K fd ["width", "thing"] [] := D.bindsN fun _ _ _ _ _ _ us hl => match us, hl with | [_, _], _ => rfl
theorem d_need_row (D : FunD K "need_row" "need_row" (defArgs s_need_row) (defBody s_need_row) (defScope s_need_row) [] [] f fd) : Binds K fd ["width", "row"] [] := D.bindsN fun _ _ _ _ _ _ us hl => match us, hl with | [_, _], _ => rfl
theorem d_is_letters_form (D : FunD K "is_letters_form" "is_letters_form" (defArgs s_is_letters_form) (defBody s_is_letters_form) (defScope s_is_letters_form) [] [] f fd) : Binds K fd ["width", "thing"] [] := D.bindsN fun _ _ _ _ _ _ us hl => match us, hl with | [_, _], _ => rfl
theorem d_need_letters (D : FunD K "need_letters" "need_letters" (defArgs s_need_letters) (defBody s_need_letters) (defScope s_need_letters) [] [] f fd) : Binds K fd ["width", "letters"] [] := D.bindsN fun _ _ _ _ _ _ us hl => match us, hl with | [_, _], _ => rfl
theorem d_is_row (D : FunD K "is_row" "is_row" (defArgs s_is_row) (defBody s_is_row) (defScope s_is_row) [] [] f fd) : Binds K fd ["width", "thing"] [] := D.bindsN fun _ _ _ _ _ _ us hl => match us, hl with | [_, _], _ => rfl
theorem d_rows_all (D : FunD K "rows_all" "rows_all" (defArgs s_rows_all) (defBody s_rows_all) (defScope s_rows_all) [] [] f fd) : Binds K fd ["width"] [] := D.bindsN fun _ _ _ _ _ _ us hl => match us, hl with | [_], _ => rfl
theorem d_letters_of (D : FunD K "letters_of" "letters_of" (defArgs s_letters_of) (defBody s_letters_of) (defScope s_letters_of) [] [] f fd) : Binds K fd ["width"] [] := D.bindsN fun _ _ _ _ _ _ us hl => match us, hl with | [_], _ => rfl
theorem d_signs_under (D : FunD K "signs_under" "signs_under" (defArgs s_signs_under) (defBody s_signs_under) (defScope s_signs_under) [] [] f fd) : Binds K fd ["row", "letters"] [] := D.bindsN fun _ _ _ _ _ _ us hl => match us, hl with | [_, _], _ => rfl
theorem d_under (D : FunD K "under" "under" (defArgs s_under) (defBody s_under) (defScope s_under) [] [] f fd) : Binds K fd ["width", "row", "letters"] [] := D.bindsN fun _ _ _ _ _ _ us hl => match us, hl with | [_, _, _], _ => rfl
theorem d_are_alike (D : FunD K "are_alike" "are_alike" (defArgs s_are_alike) (defBody s_are_alike) (defScope s_are_alike) [] [] f fd) : Binds K fd ["width", "one", "other", "letters"] [] := D.bindsN fun _ _ _ _ _ _ us hl => match us, hl with | [_, _, _, _], _ => rfl
theorem d_row_number (D : FunD K "row_number" "row_number" (defArgs s_row_number) (defBody s_row_number) (defScope s_row_number) [] [] f fd) : Binds K fd ["width", "row"] [] := D.bindsN fun _ _ _ _ _ _ us hl => match us, hl with | [_, _], _ => rfl
theorem d_row_at (D : FunD K "row_at" "row_at" (defArgs s_row_at) (defBody s_row_at) (defScope s_row_at) [] [] f fd) : Binds K fd ["width", "index"] [] := D.bindsN fun _ _ _ _ _ _ us hl => match us, hl with | [_, _], _ => rfl
theorem d__law_begun (D : FunD K "_law_begun" "_law_begun" (defArgs s__law_begun) (defBody s__law_begun) (defScope s__law_begun) [] [] f fd) : Binds K fd ["script"] [] := D.bindsN fun _ _ _ _ _ _ us hl => match us, hl with | [_], _ => rfl
theorem d__law_mixed (D : FunD K "_law_mixed" "_law_mixed" (defArgs s__law_mixed) (defBody s__law_mixed) (defScope s__law_mixed) [] [] f fd) : Binds K fd ["draw"] [] := D.bindsN fun _ _ _ _ _ _ us hl => match us, hl with | [_], _ => rfl
theorem d__law_take (D : FunD K "_law_take" "_law_take" (defArgs s__law_take) (defBody s__law_take) (defScope s__law_take) [] [] f fd) : Binds K fd ["draw", "amount"] [] := D.bindsN fun _ _ _ _ _ _ us hl => match us, hl with | [_, _], _ => rfl
theorem d__law_pick (D : FunD K "_law_pick" "_law_pick" (defArgs s__law_pick) (defBody s__law_pick) (defScope s__law_pick) [] [] f fd) : Binds K fd ["draw", "items"] [] := D.bindsN fun _ _ _ _ _ _ us hl => match us, hl with | [_, _], _ => rfl
theorem d__law_caught (D : FunD K "_law_caught" "_law_caught" (defArgs s__law_caught) (defBody s__law_caught) (defScope s__law_caught) [] [] f fd) : Binds K fd ["work"] [] := D.bindsN fun _ _ _ _ _ _ us hl => match us, hl with | [_], _ => rfl
theorem d__law_kinds (D : FunD K "_law_kinds" "_law_kinds" (defArgs s__law_kinds) (defBody s__law_kinds) (defScope s__law_kinds) [] [] f fd) : Binds K fd ["thing"] [] := D.bindsN fun _ _ _ _ _ _ us hl => match us, hl with | [_], _ => rfl
theorem d__law_says (D : FunD K "_law_says" "_law_says" (defArgs s__law_says) (defBody s__law_says) (defScope s__law_says) [] [] f fd) : Binds K fd ["told", "due"] [] := D.bindsN fun _ _ _ _ _ _ us hl => match us, hl with | [_, _], _ => rfl
theorem d__law_number (D : FunD K "_law_number" "_law_number" (defArgs s__law_number) (defBody s__law_number) (defScope s__law_number) [] [] f fd) : Binds K fd ["draw", "low", "high"] [] := D.bindsN fun _ _ _ _ _ _ us hl => match us, hl with | [_, _, _], _ => rfl
theorem d__law_rows (D : FunD K "_law_rows" "_law_rows" (defArgs s__law_rows) (defBody s__law_rows) (defScope s__law_rows) [] [] f fd) : Binds K fd ["width"] [] := D.bindsN fun _ _ _ _ _ _ us hl => match us, hl with | [_], _ => rfl
theorem d__law_some_letters (D : FunD K "_law_some_letters" "_law_some_letters" (defArgs s__law_some_letters) (defBody s__law_some_letters) (defScope s__law_some_letters) [] [] f fd) : Binds K fd ["draw", "width"] [] := D.bindsN fun _ _ _ _ _ _ us hl => match us, hl with | [_, _], _ => rfl
theorem d__law_under (D : FunD K "_law_under" "_law_under" (defArgs s__law_under) (defBody s__law_under) (defScope s__law_under) [] [] f fd) : Binds K fd ["row", "letters"] [] := D.bindsN fun _ _ _ _ _ _ us hl => match us, hl with | [_, _], _ => rfl
theorem kw_0 (D : FunD K "are_alike" "are_alike" (defArgs s_are_alike) (defBody s_are_alike) (defScope s_are_alike) [] [] f fd) : KwB K fd ["width", "one", "other", "letters"] ["letters", "other", "one", "width"] [3, 2, 1, 0] := funD_kwb D rfl fun _ _ _ _ _ _ ws hl => match ws, hl with | [_, _, _, _], _ => rfl
theorem kw_1 (D : FunD K "under" "under" (defArgs s_under) (defBody s_under) (defScope s_under) [] [] f fd) : KwB K fd ["width", "row", "letters"] ["letters", "row", "width"] [2, 1, 0] := funD_kwb D rfl fun _ _ _ _ _ _ ws hl => match ws, hl with | [_, _, _], _ => rfl
theorem kw_2 (D : FunD K "row_at" "row_at" (defArgs s_row_at) (defBody s_row_at) (defScope s_row_at) [] [] f fd) : KwB K fd ["width", "index"] ["index", "width"] [1, 0] := funD_kwb D rfl fun _ _ _ _ _ _ ws hl => match ws, hl with | [_, _], _ => rfl
theorem kw_3 (D : FunD K "row_number" "row_number" (defArgs s_row_number) (defBody s_row_number) (defScope s_row_number) [] [] f fd) : KwB K fd ["width", "row"] ["row", "width"] [1, 0] := funD_kwb D rfl fun _ _ _ _ _ _ ws hl => match ws, hl with | [_, _], _ => rfl
theorem kw_4 (D : FunD K "is_row" "is_row" (defArgs s_is_row) (defBody s_is_row) (defScope s_is_row) [] [] f fd) : KwB K fd ["width", "thing"] ["thing", "width"] [1, 0] := funD_kwb D rfl fun _ _ _ _ _ _ ws hl => match ws, hl with | [_, _], _ => rfl
end
def dd_is_whole : He.DefD := ⟨("is_whole", none), "is_whole", "is_whole", defArgs s_is_whole, defBody s_is_whole, defScope s_is_whole, [], []⟩
def dd_is_within_bounds : He.DefD := ⟨("is_within_bounds", none), "is_within_bounds", "is_within_bounds", defArgs s_is_within_bounds, defBody s_is_within_bounds, defScope s_is_within_bounds, [], []⟩
def dd_need_width : He.DefD := ⟨("need_width", none), "need_width", "need_width", defArgs s_need_width, defBody s_need_width, defScope s_need_width, [], []⟩
def dd_letter_string : He.DefD := ⟨("letter_string", none), "letter_string", "letter_string", defArgs s_letter_string, defBody s_letter_string, defScope s_letter_string, [], []⟩
def dd_row_rows : He.DefD := ⟨("row_rows", none), "row_rows", "row_rows", defArgs s_row_rows, defBody s_row_rows, defScope s_row_rows, [], []⟩
def dd_is_row_form : He.DefD := ⟨("is_row_form", none), "is_row_form", "is_row_form", defArgs s_is_row_form, defBody s_is_row_form, defScope s_is_row_form, [], []⟩
def dd_need_row : He.DefD := ⟨("need_row", none), "need_row", "need_row", defArgs s_need_row, defBody s_need_row, defScope s_need_row, [], []⟩
def dd_is_letters_form : He.DefD := ⟨("is_letters_form", none), "is_letters_form", "is_letters_form", defArgs s_is_letters_form, defBody s_is_letters_form, defScope s_is_letters_form, [], []⟩
def dd_need_letters : He.DefD := ⟨("need_letters", none), "need_letters", "need_letters", defArgs s_need_letters, defBody s_need_letters, defScope s_need_letters, [], []⟩
def dd_is_row : He.DefD := ⟨("is_row", none), "is_row", "is_row", defArgs s_is_row, defBody s_is_row, defScope s_is_row, [], []⟩
def dd_rows_all : He.DefD := ⟨("rows_all", none), "rows_all", "rows_all", defArgs s_rows_all, defBody s_rows_all, defScope s_rows_all, [], []⟩
def dd_letters_of : He.DefD := ⟨("letters_of", none), "letters_of", "letters_of", defArgs s_letters_of, defBody s_letters_of, defScope s_letters_of, [], []⟩
def dd_signs_under : He.DefD := ⟨("signs_under", none), "signs_under", "signs_under", defArgs s_signs_under, defBody s_signs_under, defScope s_signs_under, [], []⟩
def dd_under : He.DefD := ⟨("under", none), "under", "under", defArgs s_under, defBody s_under, defScope s_under, [], []⟩
def dd_are_alike : He.DefD := ⟨("are_alike", none), "are_alike", "are_alike", defArgs s_are_alike, defBody s_are_alike, defScope s_are_alike, [], []⟩
def dd_row_number : He.DefD := ⟨("row_number", none), "row_number", "row_number", defArgs s_row_number, defBody s_row_number, defScope s_row_number, [], []⟩
def dd_row_at : He.DefD := ⟨("row_at", none), "row_at", "row_at", defArgs s_row_at, defBody s_row_at, defScope s_row_at, [], []⟩
def dd__law_begun : He.DefD := ⟨("_law_begun", none), "_law_begun", "_law_begun", defArgs s__law_begun, defBody s__law_begun, defScope s__law_begun, [], []⟩
def dd__law_mixed : He.DefD := ⟨("_law_mixed", none), "_law_mixed", "_law_mixed", defArgs s__law_mixed, defBody s__law_mixed, defScope s__law_mixed, [], []⟩
def dd__law_take : He.DefD := ⟨("_law_take", none), "_law_take", "_law_take", defArgs s__law_take, defBody s__law_take, defScope s__law_take, [], []⟩
def dd__law_pick : He.DefD := ⟨("_law_pick", none), "_law_pick", "_law_pick", defArgs s__law_pick, defBody s__law_pick, defScope s__law_pick, [], []⟩
def dd__law_caught : He.DefD := ⟨("_law_caught", none), "_law_caught", "_law_caught", defArgs s__law_caught, defBody s__law_caught, defScope s__law_caught, [], []⟩
def dd__law_kinds : He.DefD := ⟨("_law_kinds", none), "_law_kinds", "_law_kinds", defArgs s__law_kinds, defBody s__law_kinds, defScope s__law_kinds, [], []⟩
def dd__law_says : He.DefD := ⟨("_law_says", none), "_law_says", "_law_says", defArgs s__law_says, defBody s__law_says, defScope s__law_says, [], []⟩
def dd__law_number : He.DefD := ⟨("_law_number", none), "_law_number", "_law_number", defArgs s__law_number, defBody s__law_number, defScope s__law_number, [], []⟩
def dd__law_rows : He.DefD := ⟨("_law_rows", none), "_law_rows", "_law_rows", defArgs s__law_rows, defBody s__law_rows, defScope s__law_rows, [], []⟩
def dd__law_some_letters : He.DefD := ⟨("_law_some_letters", none), "_law_some_letters", "_law_some_letters", defArgs s__law_some_letters, defBody s__law_some_letters, defScope s__law_some_letters, [], []⟩
def dd__law_under : He.DefD := ⟨("_law_under", none), "_law_under", "_law_under", defArgs s__law_under, defBody s__law_under, defScope s__law_under, [], []⟩
def dd_law : He.DefD := ⟨("law", none), "law", "law", defArgs s_law, defBody s_law, defScope s_law, [], []⟩
def dds : List He.DefD := [dd_is_whole, dd_is_within_bounds, dd_need_width, dd_letter_string, dd_row_rows, dd_is_row_form, dd_need_row, dd_is_letters_form, dd_need_letters, dd_is_row, dd_rows_all, dd_letters_of, dd_signs_under, dd_under, dd_are_alike, dd_row_number, dd_row_at, dd__law_begun, dd__law_mixed, dd__law_take, dd__law_pick, dd__law_caught, dd__law_kinds, dd__law_says, dd__law_number, dd__law_rows, dd__law_some_letters, dd__law_under, dd_law]
def glX : List He.Fa := [.glo "law", .int "MOST_WIDTH" 4, .str "LETTERS" "abcd"]
def fa : List He.Fa := faOf fnL clsL freeL (clsL.map (fun x => He.Fa.exm x "RowError" true) ++ glX)
section
variable {P : Program} {w : World} {K : PySem.W.Frag} {mg : Str → Option Value} {base : Heap} {B : Tbl} {T : Tabl}
theorem calls0 (c : He.SaysD fa dds K) : Calls prog B T P w K mg base fnL kwL 0 := by
  obtain ⟨fd0, D0⟩ := c.def_ 0 (d := dd_is_whole) rfl
  obtain ⟨fd1, D1⟩ := c.def_ 1 (d := dd_is_within_bounds) rfl
  obtain ⟨fd2, D2⟩ := c.def_ 2 (d := dd_need_width) rfl
  obtain ⟨fd3, D3⟩ := c.def_ 3 (d := dd_letter_string) rfl
  obtain ⟨fd4, D4⟩ := c.def_ 4 (d := dd_row_rows) rfl
  obtain ⟨fd5, D5⟩ := c.def_ 5 (d := dd_is_row_form) rfl
  obtain ⟨fd6, D6⟩ := c.def_ 6 (d := dd_need_row) rfl
  obtain ⟨fd7, D7⟩ := c.def_ 7 (d := dd_is_letters_form) rfl
  obtain ⟨fd8, D8⟩ := c.def_ 8 (d := dd_need_letters) rfl
  obtain ⟨fd9, D9⟩ := c.def_ 9 (d := dd_is_row) rfl
  obtain ⟨fd10, D10⟩ := c.def_ 10 (d := dd_rows_all) rfl
  obtain ⟨fd11, D11⟩ := c.def_ 11 (d := dd_letters_of) rfl
  obtain ⟨fd12, D12⟩ := c.def_ 12 (d := dd_signs_under) rfl
  obtain ⟨fd13, D13⟩ := c.def_ 13 (d := dd_under) rfl
  obtain ⟨fd14, D14⟩ := c.def_ 14 (d := dd_are_alike) rfl
  obtain ⟨fd15, D15⟩ := c.def_ 15 (d := dd_row_number) rfl
  obtain ⟨fd16, D16⟩ := c.def_ 16 (d := dd_row_at) rfl
  obtain ⟨fd17, D17⟩ := c.def_ 17 (d := dd__law_begun) rfl
  obtain ⟨fd18, D18⟩ := c.def_ 18 (d := dd__law_mixed) rfl
  obtain ⟨fd19, D19⟩ := c.def_ 19 (d := dd__law_take) rfl
  obtain ⟨fd20, D20⟩ := c.def_ 20 (d := dd__law_pick) rfl
  obtain ⟨fd21, D21⟩ := c.def_ 21 (d := dd__law_caught) rfl
  obtain ⟨fd22, D22⟩ := c.def_ 22 (d := dd__law_kinds) rfl
  obtain ⟨fd23, D23⟩ := c.def_ 23 (d := dd__law_says) rfl
  obtain ⟨fd24, D24⟩ := c.def_ 24 (d := dd__law_number) rfl
  obtain ⟨fd25, D25⟩ := c.def_ 25 (d := dd__law_rows) rfl
  obtain ⟨fd26, D26⟩ := c.def_ 26 (d := dd__law_some_letters) rfl
  obtain ⟨fd27, D27⟩ := c.def_ 27 (d := dd__law_under) rfl
  exact ⟨⟨⟨fd0, _, bad_ok, d_is_whole D0, D0.kp⟩, ⟨fd1, _, bad_ok, d_is_within_bounds D1, D1.kp⟩, ⟨fd2, _, bad_ok, d_need_width D2, D2.kp⟩, ⟨fd3, _, bad_ok, d_letter_string D3, D3.kp⟩, ⟨fd4, _, bad_ok, d_row_rows D4, D4.kp⟩, ⟨fd5, _, bad_ok, d_is_row_form D5, D5.kp⟩, ⟨fd6, _, bad_ok, d_need_row D6, D6.kp⟩, ⟨fd7, _, bad_ok, d_is_letters_form D7, D7.kp⟩, ⟨fd8, _, bad_ok, d_need_letters D8, D8.kp⟩, ⟨fd9, _, bad_ok, d_is_row D9, D9.kp⟩, ⟨fd10, _, bad_ok, d_rows_all D10, D10.kp⟩, ⟨fd11, _, bad_ok, d_letters_of D11, D11.kp⟩, ⟨fd12, _, bad_ok, d_signs_under D12, D12.kp⟩, ⟨fd13, _, bad_ok, d_under D13, D13.kp⟩, ⟨fd14, _, bad_ok, d_are_alike D14, D14.kp⟩, ⟨fd15, _, bad_ok, d_row_number D15, D15.kp⟩, ⟨fd16, _, bad_ok, d_row_at D16, D16.kp⟩, ⟨fd17, _, bad_ok, d__law_begun D17, D17.kp⟩, ⟨fd18, _, bad_ok, d__law_mixed D18, D18.kp⟩, ⟨fd19, _, bad_ok, d__law_take D19, D19.kp⟩, ⟨fd20, _, bad_ok, d__law_pick D20, D20.kp⟩, ⟨fd21, _, bad_ok, d__law_caught D21, D21.kp⟩, ⟨fd22, _, bad_ok, d__law_kinds D22, D22.kp⟩, ⟨fd23, _, bad_ok, d__law_says D23, D23.kp⟩, ⟨fd24, _, bad_ok, d__law_number D24, D24.kp⟩, ⟨fd25, _, bad_ok, d__law_rows D25, D25.kp⟩, ⟨fd26, _, bad_ok, d__law_some_letters D26, D26.kp⟩, ⟨fd27, _, bad_ok, d__law_under D27, D27.kp⟩, trivial⟩, ⟨⟨fd14, _, bad_ok, kw_0 D14, D14.kp⟩, ⟨fd13, _, bad_ok, kw_1 D13, D13.kp⟩, ⟨fd16, _, bad_ok, kw_2 D16, D16.kp⟩, ⟨fd15, _, bad_ok, kw_3 D15, D15.kp⟩, ⟨fd9, _, bad_ok, kw_4 D9, D9.kp⟩, trivial⟩⟩
theorem callsS (b : BF prog B names K mg) (c : He.SaysD fa dds K) {n : Nat} (h : Calls prog B T P w K mg base fnL kwL n) : Calls prog B T P w K mg base fnL kwL (n + 1) := by
  have F := fac_of b h
  obtain ⟨fd0, D0⟩ := c.def_ 0 (d := dd_is_whole) rfl
  obtain ⟨fd1, D1⟩ := c.def_ 1 (d := dd_is_within_bounds) rfl
  obtain ⟨fd2, D2⟩ := c.def_ 2 (d := dd_need_width) rfl
  obtain ⟨fd3, D3⟩ := c.def_ 3 (d := dd_letter_string) rfl
  obtain ⟨fd4, D4⟩ := c.def_ 4 (d := dd_row_rows) rfl
  obtain ⟨fd5, D5⟩ := c.def_ 5 (d := dd_is_row_form) rfl
  obtain ⟨fd6, D6⟩ := c.def_ 6 (d := dd_need_row) rfl
  obtain ⟨fd7, D7⟩ := c.def_ 7 (d := dd_is_letters_form) rfl
  obtain ⟨fd8, D8⟩ := c.def_ 8 (d := dd_need_letters) rfl
  obtain ⟨fd9, D9⟩ := c.def_ 9 (d := dd_is_row) rfl
  obtain ⟨fd10, D10⟩ := c.def_ 10 (d := dd_rows_all) rfl
  obtain ⟨fd11, D11⟩ := c.def_ 11 (d := dd_letters_of) rfl
  obtain ⟨fd12, D12⟩ := c.def_ 12 (d := dd_signs_under) rfl
  obtain ⟨fd13, D13⟩ := c.def_ 13 (d := dd_under) rfl
  obtain ⟨fd14, D14⟩ := c.def_ 14 (d := dd_are_alike) rfl
  obtain ⟨fd15, D15⟩ := c.def_ 15 (d := dd_row_number) rfl
  obtain ⟨fd16, D16⟩ := c.def_ 16 (d := dd_row_at) rfl
  obtain ⟨fd17, D17⟩ := c.def_ 17 (d := dd__law_begun) rfl
  obtain ⟨fd18, D18⟩ := c.def_ 18 (d := dd__law_mixed) rfl
  obtain ⟨fd19, D19⟩ := c.def_ 19 (d := dd__law_take) rfl
  obtain ⟨fd20, D20⟩ := c.def_ 20 (d := dd__law_pick) rfl
  obtain ⟨fd21, D21⟩ := c.def_ 21 (d := dd__law_caught) rfl
  obtain ⟨fd22, D22⟩ := c.def_ 22 (d := dd__law_kinds) rfl
  obtain ⟨fd23, D23⟩ := c.def_ 23 (d := dd__law_says) rfl
  obtain ⟨fd24, D24⟩ := c.def_ 24 (d := dd__law_number) rfl
  obtain ⟨fd25, D25⟩ := c.def_ 25 (d := dd__law_rows) rfl
  obtain ⟨fd26, D26⟩ := c.def_ 26 (d := dd__law_some_letters) rfl
  obtain ⟨fd27, D27⟩ := c.def_ 27 (d := dd__law_under) rfl
  exact ⟨⟨⟨fd0, _, k_is_whole F D0, d_is_whole D0, D0.kp⟩, ⟨fd1, _, k_is_within_bounds F D1, d_is_within_bounds D1, D1.kp⟩, ⟨fd2, _, k_need_width F D2, d_need_width D2, D2.kp⟩, ⟨fd3, _, k_letter_string F D3, d_letter_string D3, D3.kp⟩, ⟨fd4, _, k_row_rows F D4, d_row_rows D4, D4.kp⟩, ⟨fd5, _, k_is_row_form F D5, d_is_row_form D5, D5.kp⟩, ⟨fd6, _, k_need_row F D6, d_need_row D6, D6.kp⟩, ⟨fd7, _, k_is_letters_form F D7, d_is_letters_form D7, D7.kp⟩, ⟨fd8, _, k_need_letters F D8, d_need_letters D8, D8.kp⟩, ⟨fd9, _, k_is_row F D9, d_is_row D9, D9.kp⟩, ⟨fd10, _, k_rows_all F D10, d_rows_all D10, D10.kp⟩, ⟨fd11, _, k_letters_of F D11, d_letters_of D11, D11.kp⟩, ⟨fd12, _, k_signs_under F D12, d_signs_under D12, D12.kp⟩, ⟨fd13, _, k_under F D13, d_under D13, D13.kp⟩, ⟨fd14, _, k_are_alike F D14, d_are_alike D14, D14.kp⟩, ⟨fd15, _, k_row_number F D15, d_row_number D15, D15.kp⟩, ⟨fd16, _, k_row_at F D16, d_row_at D16, D16.kp⟩, ⟨fd17, _, k__law_begun F D17, d__law_begun D17, D17.kp⟩, ⟨fd18, _, k__law_mixed F D18, d__law_mixed D18, D18.kp⟩, ⟨fd19, _, k__law_take F D19, d__law_take D19, D19.kp⟩, ⟨fd20, _, k__law_pick F D20, d__law_pick D20, D20.kp⟩, ⟨fd21, _, k__law_caught F D21, d__law_caught D21, D21.kp⟩, ⟨fd22, _, k__law_kinds F D22, d__law_kinds D22, D22.kp⟩, ⟨fd23, _, k__law_says F D23, d__law_says D23, D23.kp⟩, ⟨fd24, _, k__law_number F D24, d__law_number D24, D24.kp⟩, ⟨fd25, _, k__law_rows F D25, d__law_rows D25, D25.kp⟩, ⟨fd26, _, k__law_some_letters F D26, d__law_some_letters D26, D26.kp⟩, ⟨fd27, _, k__law_under F D27, d__law_under D27, D27.kp⟩, trivial⟩, ⟨⟨fd14, _, k_are_alike F D14, kw_0 D14, D14.kp⟩, ⟨fd13, _, k_under F D13, kw_1 D13, D13.kp⟩, ⟨fd16, _, k_row_at F D16, kw_2 D16, D16.kp⟩, ⟨fd15, _, k_row_number F D15, kw_3 D15, D15.kp⟩, ⟨fd9, _, k_is_row F D9, kw_4 D9, D9.kp⟩, trivial⟩⟩
theorem calls (b : BF prog B names K mg) (c : He.SaysD fa dds K) : ∀ n, Calls prog B T P w K mg base fnL kwL n
  | 0 => calls0 c
  | n + 1 => callsS b c (calls b c n)
theorem sup0 {h : Heap} (c : He.SaysD fa dds K) (n : Nat) (hs : prog.sup n 0 = true) : ∃ D, (tblOf K fnL clsL).clA n = some D ∧ PySem.W.exmOne K (.ref D) (.ref (He.ga K "RowError")) = some true := by
  rcases Nat.lt_or_ge n clsL.length with h1 | h1
  · have hx : clsL[n]? = some clsL[n] := List.getElem?_eq_getElem h1
    exact ⟨_, show (clsL[n]?).map (He.ga K) = _ by rw [hx]; rfl, He.exm_ok (c.facts (f := .exm clsL[n] "RowError" true) (List.mem_append_right _ (List.mem_append_right _ (List.mem_append_right _ (List.mem_append_right _ (List.mem_append_left _ (List.mem_map_of_mem (List.mem_of_getElem? hx))))))))⟩
  · have hs : (supT.getD n []).elem 0 = true := hs
    have e : supT.getD n [] = [] := by rw [List.getD_eq_getElem?_getD, List.getElem?_eq_none (show supT.length ≤ n from h1)]; rfl
    rw [e] at hs
    cases hs
theorem cau {n : Nat} {h : Heap} (X : K.In h) (Gn : h.Ns mainGlobals mg) (b : BF prog (tblOf K fnL clsL) names K mg) (c : He.SaysD fa dds K) : CauO (prog.env (prog.run n)) (tblOf K fnL clsL) K mg "_law_caught" := by
  obtain ⟨fd, D⟩ := c.def_ 21 (d := dd__law_caught) rfl
  have bn := d__law_caught D
  have kp := D.kp
  obtain ⟨oc, od, dV, kV, doc, pm, an, cdv, ct, osl, rfl, lk, hcd, _, _⟩ := D.ex
  exact ⟨"work", "RowError", "caught", "error", He.ga K "_law_caught", He.ga K "RowError", defArgs s__law_caught, defScope s__law_caught, dV, kV, doc, pm, cdv, ct, oc, an, od, osl, _, _, _, _, _, _, _, _, _, _, _, _, _, _, _, (b.fnm 21 "_law_caught" rfl).2, kp, lk, hcd, bn, sc__law_caught, .inl rfl, rfl,
    He.glo_ok X Gn (c.facts (f := .glo "RowError") (List.mem_append_right _ (List.mem_append_left _ (List.mem_map_of_mem (List.mem_of_getElem? (i := 0) rfl))))), by decide, rfl, rfl, ⟨by decide, by decide, by decide, by decide, by decide, by decide⟩, sup0 (h := h) c⟩
theorem glos {h : Heap} (X : K.In h) (Gn : h.Ns mainGlobals mg) (c : He.SaysD fa dds K) : AllAt (fun j x => ∃ v c u, prog.glo j = some v ∧ mg x = some u ∧ RelV c u ∧ ∀ H, Rp (tblOf K fnL clsL) H c v) 0 gloL := by
  obtain ⟨t0, h0⟩ := He.int_ok X Gn (c.facts (f := .int "MOST_WIDTH" 4) (List.mem_append_right _ (List.mem_append_right _ (List.mem_append_right _ (List.mem_append_right _ (List.mem_append_right _ (List.mem_of_getElem? (i := 1) rfl)))))))
  obtain ⟨t1, h1⟩ := He.str_ok X Gn (c.facts (f := .str "LETTERS" "abcd") (List.mem_append_right _ (List.mem_append_right _ (List.mem_append_right _ (List.mem_append_right _ (List.mem_append_right _ (List.mem_of_getElem? (i := 2) rfl)))))))
  exact ⟨⟨.int 4, .int 4, _, rfl, h0, ⟨_, rfl⟩, fun _ => .int _⟩, ⟨.str [97, 98, 99, 100], .str (toS [97, 98, 99, 100]), _, rfl, h1, ⟨_, rfl⟩, fun _ => .str _⟩, trivial⟩
theorem bf {h : Heap} (X : K.In h) (Gn : h.Ns mainGlobals mg) (c : He.SaysD fa dds K) (e : clsB clsL prog.sup K = true) : BF prog (tblOf K fnL clsL) names K mg := base_of (gl := clsL.map (fun x => He.Fa.exm x "RowError" true) ++ glX) X Gn c e (by decide +kernel) fun j x hj => by
  have := (glos X Gn c).get hj
  rwa [Nat.zero_add] at this
end
abbrev Rw : PySem.W.OpenRow := PySem.W.OpenLaw.row PySem.Challenge.rw_lotsofrows_k00_whole_rows_and_letters
def tf : List He.Defn := [("law", none)]
abbrev hk : PySem.W.Hook := He.hookX 4 fa dds [] tf (clsB clsL prog.sup)
def ob (s : PySem.W.SharedT) : He.AlX := He.obsX 4 fa dds [] tf (clsB clsL prog.sup) (HandSHeadRun.getT s)
theorem ob_eq (s : PySem.W.SharedT) : ob s = hk.obs s.abs := He.obsX_eq (HandSHeadRun.getT_eq s)
def loose : List Str := fnL ++ clsL ++ gloL
theorem run (w : World) : HandSHeadRun.RunEq Rw (PySem.W.view Rw.prog [41]) hk ob 20000 loose w := by
  intro os
  kernel_rfl
theorem law_at {w : World} {mg : Str → Option Value} {fA : Addr} {h : Heap} {K : PySem.W.Frag} {N : Nat} (hlaw : ∀ ns : List Int, ns.length ≤ 63 → (∀ z ∈ ns, Builtin.Int.intBits z ≤ 1048576) → ∃ os, prog.run (N + 1) 28 [.fz (.scr (ns.map PV.int))] = .ok (false, .bl true) os)
    (X : K.In h) (c : He.SaysX fa dds [] tf (clsB clsL prog.sup) w h K) (Gn : h.Ns mainGlobals mg) (hmg : mg ("law" : Str) = some (.ref fA)) : LamX.LawAtS PySem.Challenge.rw_lotsofrows_k00_whole_rows_and_letters w K (L2.CX (PySem.Challenge.rw_lotsofrows_k00_whole_rows_and_letters).prog w) (4 * N + 4) 63 "script" mg fA h := by
  have cd := c.t.d
  obtain ⟨fd, D⟩ := cd.def_ 28 (d := dd_law) rfl
  have b := FunD.bindsA (ps := ["script"]) D fun _ _ _ _ _ _ us hl => match us, hl with | [_], _ => rfl
  obtain ⟨oc, od, dV, kV, doc, pm, an, cdv, ct, osl, rfl, lk, hcd, _, _⟩ := D.ex
  obtain ⟨cc, rfl⟩ := He.codeIn_ref hcd
  have e1 : fA = He.ga K "law" := by
    have := He.glo_ok X Gn (cd.facts (f := .glo "law") (List.mem_append_right _ (List.mem_append_right _ (List.mem_append_right _ (List.mem_append_right _ (List.mem_append_right _ (List.mem_of_getElem? (i := 0) rfl)))))))
    rw [hmg] at this
    cases this
    rfl
  subst e1
  have ec : He.codeOf K ("law", none) = cc := He.codeOf_eq lk rfl
  have ect : (He.cT K ("law", none)).1 = cc := ec
  have BB := bf X Gn cd c.more
  refine ⟨_, [He.cT K ("law", none)], spLaw K [((He.cT K ("law", none)).2, "law.<locals>.<lambda>")] (prog.run (N + 1) 28), ?_, ?_, ?_, fun s u => b s [u] rfl, fun H a ns hl hb hT hS => ⟨a, ns, rfl, hS, ?_, hlaw ns hl hb, fun _ => rfl⟩, fun base KB Gb TB => ?_⟩
  · intro p hp
    rw [List.mem_singleton.mp hp]
    exact c.empty _ List.mem_cons_self
  · intro p hp
    rw [List.mem_singleton.mp hp]
    exact c.out _ List.mem_cons_self
  · intro p hp
    rw [List.mem_singleton.mp hp]
    exact PySem.W.codeHd_of_K X (c.hd _ List.mem_cons_self)
  · intro p hp
    rw [List.mem_singleton.mp hp]
    exact .nil (hT _ List.mem_cons_self)
  · have tb := TB _ List.mem_cons_self
    rw [ect] at tb
    exact k_law (fac_of BB (calls BB cd N)) (cau X Gn BB cd) ⟨tb, List.mem_cons_self, fun p hp _ => by rw [List.mem_singleton.mp hp]⟩ lk hcd
theorem holds_of (N : Nat) (hN : N ≤ 50) (hlaw : ∀ ns : List Int, ns.length ≤ 63 → (∀ z ∈ ns, Builtin.Int.intBits z ≤ 1048576) → ∃ os, prog.run (N + 1) 28 [.fz (.scr (ns.map PV.int))] = .ok (false, .bl true) os) : PySem.Challenge.rw_lotsofrows_k00_whole_rows_and_letters.Holds := by
  w_on; o_law
  refine HandSHeadRun.head_any (r := PySem.W.OpenLaw.row PySem.Challenge.rw_lotsofrows_k00_whole_rows_and_letters) (q := PySem.W.view (PySem.W.OpenLaw.row PySem.Challenge.rw_lotsofrows_k00_whole_rows_and_letters).prog [41]) (H := hk) (ob := ob) (M := 20000) (loose := loose) (d := HandSHeadRun.topDef (PySem.W.OpenLaw.row PySem.Challenge.rw_lotsofrows_k00_whole_rows_and_letters).prog 41) (kwd := []) ob_eq
    (by kernel_rfl) (fun s => by kernel_rfl) run (by kernel_rfl) (by kernel_rfl) (by kernel_rfl) (by rfl) (by first | assumption | decide +kernel) (by decide +kernel) ⟨rfl, rfl, rfl, rfl, rfl, by decide +kernel⟩ ?hw ?hc
  case hw => w_witness2
  case hc =>
    refine LamX.walk_ofTsE (l := PySem.Challenge.rw_lotsofrows_k00_whole_rows_and_letters) (n := 63) (k := 4 * N + 4) (x := "script") (CX := fun w => L2.CX (PySem.Challenge.rw_lotsofrows_k00_whole_rows_and_letters).prog w) rfl (by decide) (by kernel_rfl) ⟨rfl, ?h1, ?h2⟩ ?F (fun _ _ _ _ _ z => by obtain ⟨_, _, _, _, _, _, _, _, _, _, _, _, z⟩ := z; exact z)
    case h1 =>
      have e : callerA.depth ≤ 301 := by decide
      have e2 : recursionLimit = 1000 := rfl
      omega
    case h2 =>
      have e : callerA.units ≤ 2000 := by decide
      have e2 : 9900 ≤ cLine := by decide
      omega
    case F =>
      intro w mg fA h Y G hmg0
      obtain ⟨K, KX, c⟩ := Y
      have hmg : mg ("law" : Str) = some (.ref fA) := by
        have e : (HandSHeadRun.topDef (PySem.W.OpenLaw.row PySem.Challenge.rw_lotsofrows_k00_whole_rows_and_letters).prog 41).name = ("law" : Str) := by kernel_rfl
        rw [← e]
        exact hmg0
      exact ⟨K, KX, law_at hlaw KX c G hmg⟩
end K00

/-! K00F: what the calls of k00 answer on all of its finite choices. -/
namespace K00
open Pv
def rowsN : Nat → List (List Nat)
  | 0 => [[]]
  | n + 1 => (rowsN n).flatMap fun r => [r ++ [48], r ++ [49]]
def subs : List Nat → List (List Nat)
  | [] => [[]]
  | a :: l => (subs l).flatMap fun r => [r, a :: r]
def lw (w : Nat) : List Nat := [97, 98, 99, 100].take w
def ws : List Nat := [1, 2, 3, 4]
def und (row ls : List Nat) : List Nat := ls.map fun c => row.getD (c - 97) 0
def ix (w : Nat) (r : List Nat) : Nat := (rowsN w).findIdx fun x => x == r
def wrongs (w : Nat) : List PV := [.non, .int 1, .str [], .str (List.replicate (w + 1) 48), .str (List.replicate w 50), .lst [.str [48]], .str (List.replicate w 97), .tup [.str [48]]]
def odds (w : Nat) : List PV := [.non, .str [101], .str [97, 97], .str [65], .lst [.str [97]], .str [48], .str [98, 97], .str (if w < 4 then lw (w + 1) else [97, 98, 99, 100, 101])]
def nums (lo hi : Int) : List PV := [.non, .int (lo - 1), .int (hi + 1), .str [49], .bl true, .tup [.int lo], .lst [], .int 1000000000000000000000000000000]
theorem f_rows : ∀ w ∈ ws, okV false (isLst (rowsN w)) (prog.run 12 25 [.fz (.int w)]) = true := by decide +kernel
theorem f_isrow : ∀ w ∈ ws, ∀ r ∈ rowsN w, okV false (isBl true) (prog.run 12 9 [.fz (.int w), .fz (.str r)]) = true := by decide +kernel
theorem f_wrow : ∀ w ∈ ws, ∀ x ∈ wrongs w, okV false (isBl false) (prog.run 12 9 [.fz (.int w), .fz x]) = true := by decide +kernel
theorem f_rowsall : ∀ w ∈ ws, okV false (isTup (rowsN w)) (prog.run 12 10 [.fz (.int w)]) = true := by decide +kernel
theorem f_letters : ∀ w ∈ ws, okV false (isStr (lw w)) (prog.run 12 11 [.fz (.int w)]) = true := by decide +kernel
theorem f_under : ∀ w ∈ ws, ∀ r ∈ rowsN w, ∀ ls ∈ subs (lw w), okV false (isStr (und r ls)) (prog.run 12 13 [.fz (.int w), .fz (.str r), .fz (.str ls)]) = true := by decide +kernel
theorem f_lund : ∀ w ∈ ws, ∀ r ∈ rowsN w, ∀ ls ∈ subs (lw w), okV false (isStr (und r ls)) (prog.run 12 27 [.fz (.str r), .fz (.str ls)]) = true := by decide +kernel
theorem f_nw : ∀ w ∈ ws, okV false isNon (prog.run 11 2 [.fz (.int w)]) = true := by decide +kernel
theorem f_rf : ∀ w ∈ ws, ∀ r ∈ rowsN w, okV false (isBl true) (prog.run 11 5 [.fz (.int w), .fz (.str r)]) = true := by decide +kernel
theorem f_nl : ∀ w ∈ ws, ∀ ls ∈ subs (lw w), okV false isNon (prog.run 11 8 [.fz (.int w), .fz (.str ls)]) = true := by decide +kernel
theorem f_su : ∀ w ∈ ws, ∀ r ∈ rowsN w, ∀ ls ∈ subs (lw w), okV false (isStr (und r ls)) (prog.run 11 12 [.fz (.str r), .fz (.str ls)]) = true := by decide +kernel
theorem f_rownum : ∀ w ∈ ws, ∀ r ∈ rowsN w, okV false (isInt (ix w r)) (prog.run 12 15 [.fz (.int w), .fz (.str r)]) = true := by decide +kernel
theorem f_rowat : ∀ w ∈ ws, ∀ r ∈ rowsN w, okV false (isStr r) (prog.run 12 16 [.fz (.int w), .fz (.int (ix w r))]) = true := by decide +kernel
theorem f_find : ∀ w ∈ ws, ∀ r ∈ rowsN w, findEq (.str r) ((rowsN w).map PV.str) 0 = some (ix w r) := by decide +kernel
theorem f_plain : ∀ w ∈ ws, plainAll ((rowsN w).map PV.str) = true ∧ deepAll ((rowsN w).map PV.str) = 0 ∧ (rowsN w).length = 2 ^ w ∧ (rowsN w) ≠ [] := by decide +kernel
theorem f_odd : ∀ w ∈ ws, ∀ r ∈ rowsN w, ∀ x ∈ odds w, isErr 3 (prog.run 12 13 [.fz (.int w), .fz (.str r), .fz x]) = true := by decide +kernel
theorem f_n9 : ∀ x ∈ nums 1 4, isErr 1 (prog.run 12 9 [.fz x, .fz .non]) = true ∧ isErr 1 (prog.run 12 15 [.fz x, .fz .non]) = true ∧ isErr 1 (prog.run 12 16 [.fz x, .fz .non]) = true ∧ isErr 1 (prog.run 12 10 [.fz x]) = true := by decide +kernel
theorem f_e13 : ∀ w ∈ ws, ∀ x ∈ wrongs w, isErr 2 (prog.run 12 13 [.fz (.int w), .fz x, .fz .non]) = true ∧ isErr 4 (prog.run 12 14 [.fz (.int w), .fz x, .fz .non, .fz .non]) = true ∧ isErr 2 (prog.run 12 15 [.fz (.int w), .fz x]) = true := by decide +kernel
theorem f_e14 : ∀ w ∈ ws, ∀ r ∈ rowsN w, ∀ x ∈ wrongs w, isErr 5 (prog.run 12 14 [.fz (.int w), .fz (.str r), .fz x, .fz .non]) = true := by decide +kernel
theorem f_e16 : ∀ w ∈ ws, ∀ x ∈ nums 0 (((rowsN w).length : Int) - 1), isErr 6 (prog.run 12 16 [.fz (.int w), .fz x]) = true := by decide +kernel
end K00

/-! K00D: the drawing and the telling of this law. -/
namespace K00
open Pv
/-- the draw -/
def dr (w : Int) (cs : List Int) (k : Int) : PV := .dct [.str [119, 104, 111, 108, 101], .str [99, 101, 108, 108, 115], .str [99, 111, 117, 110, 116]] [.int w, .lst (cs.map PV.int), .int k]
theorem run18 (n : Nat) (as : List SV) : prog.run (n + 1) 18 as = runDef (prog.env (prog.run n)) ⟨1, 3, b__law_mixed⟩ as := rfl
theorem run19 (n : Nat) (as : List SV) : prog.run (n + 1) 19 as = runDef (prog.env (prog.run n)) ⟨2, 3, b__law_take⟩ as := rfl
theorem run20 (n : Nat) (as : List SV) : prog.run (n + 1) 20 as = runDef (prog.env (prog.run n)) ⟨2, 2, b__law_pick⟩ as := rfl
theorem run24 (n : Nat) (as : List SV) : prog.run (n + 1) 24 as = runDef (prog.env (prog.run n)) ⟨3, 3, b__law_number⟩ as := rfl
theorem lg17 : Nat.log2 131072 < 9000 := by decide +kernel
theorem lg10 : Nat.log2 1024 < 9000 := by decide +kernel
theorem mul41 (i : Int) : mulOk i 1099511628211 = true := by
  unfold mulOk
  rw [show decide (bits 1099511628211 ≤ 64) = true from by decide +kernel]
  simp
theorem mul97 (i : Int) : mulOk 97 i = true := by
  unfold mulOk
  rw [show decide (bits 97 ≤ 64) = true from by decide +kernel]
  simp
theorem mixed {n : Nat} {w : Int} {cs : List Int} {k : Int} (hl : cs.length ≤ 1000) : ∃ r : Int, prog.run (n + 1) 18 [.own (dr w cs k)] = .ok (false, .int r) [.own (dr w cs (k + 1))] := by
  rw [run18]
  have hf : ∀ r0 : Int, ∃ s', exS (prog.env (prog.run n)) [0] (.for_ (.nm 2) (.seq (.bin .add (.e (.bin .ix (.v 0) (.e (.cn (.str [99, 101, 108, 108, 115]))))) (.e (.lst (.cons (.bin .ix (.v 0) (.e (.cn (.str [99, 111, 117, 110, 116])))) .nil)))))
      (.cons (.asg 1 (.bin .mod (.e (.un .toint (.e (.bin .mul (.e (.bin .add (.v 1) (.v 2))) (.e (.cn (.int 1099511628211))))))) (.e (.bin .sub (.e (.bin .pow (.e (.cn (.int 2))) (.e (.cn (.int 61))))) (.e (.cn (.int 1)))))))
      (.cons (.asg 1 (.bin .add (.v 1) (.e (.bin .fdiv (.v 1) (.e (.bin .pow (.e (.cn (.int 2))) (.e (.cn (.int 17)))))))))
      .nil))) [some (.own (dr w cs (k + 1))), some (.fz (.int r0)), none] = .next s' ∧ ∃ (r : Int) (o : Option SV), s' = [some (.own (dr w cs (k + 1))), some (.fz (.int r)), o] := fun r0 => by
    refine for_inv (s1 := [some (.own (dr w cs (k + 1))), some (.fz (.int r0)), none]) (xs := cs.map PV.int ++ [.int (k + 1)]) (fun _ s' => ∃ (r : Int) (o : Option SV), s' = [some (.own (dr w cs (k + 1))), some (.fz (.int r)), o]) ?_ ⟨r0, none, rfl⟩ ?_
    · have h2 : cs.length + 1 ≤ 16777216 := by omega
      simp [runDef, exSs, exS.eq_1, exS.eq_2, exS.eq_3, exS.eq_4, exS.eq_5, exS.eq_6, exS.eq_7, exS.eq_8, exS.eq_11, exS.eq_12, exS.eq_13, exS.eq_14, exS.eq_15, exS.eq_16, exS.eq_17, evR.eq_1, evR.eq_2, evR.eq_3, evR.eq_4, evR.eq_5, evR.eq_6, evR.eq_7, evR.eq_8, evR.eq_9, evR.eq_10, evR.eq_11, evR.eq_12, evR.eq_13, evR.eq_14, evR.eq_15, evR.eq_16, evR.eq_17, evR.eq_18, evR.eq_19, evR.eq_20, evR.eq_21, evR.eq_22, evP, evAs, evT, evEs, evFs, evD, evO, evC, evIt, ownAt, getS, SV.val, R.bind, runCall, argsOf, argOf, lentOf, noDup, isOwn, env_call, env_glo, env_sup, env_perm, env_fuel, backS, reread, liftO, ofR, ofO, b2, u1, bInt, bAdd, bEq, bLt, bIs, bIx, isNon, outC, heldAll, outOf, keepS, setS, setFs, mkSV, wipeS, backW, tgSet, setAll, itemsOf, noErr, recvOk, truth, isTy, PV.plain, plainAll, PV.deep, deepAll, line, dr, isKey, dget, keyEq, h2]
    · rintro i x s hx ⟨r, o, rfl⟩
      have hi : ∃ c : Int, x = .int c := by
        have := List.mem_of_getElem? hx
        rcases List.mem_append.mp this with h | h
        · obtain ⟨c, _, rfl⟩ := List.mem_map.mp h; exact ⟨c, rfl⟩
        · exact ⟨k + 1, by simpa using h⟩
      obtain ⟨c, rfl⟩ := hi
      simp [runDef, exSs, exS.eq_1, exS.eq_2, exS.eq_3, exS.eq_4, exS.eq_5, exS.eq_6, exS.eq_7, exS.eq_8, exS.eq_11, exS.eq_12, exS.eq_13, exS.eq_14, exS.eq_15, exS.eq_16, exS.eq_17, evR.eq_1, evR.eq_2, evR.eq_3, evR.eq_4, evR.eq_5, evR.eq_6, evR.eq_7, evR.eq_8, evR.eq_9, evR.eq_10, evR.eq_11, evR.eq_12, evR.eq_13, evR.eq_14, evR.eq_15, evR.eq_16, evR.eq_17, evR.eq_18, evR.eq_19, evR.eq_20, evR.eq_21, evR.eq_22, evP, evAs, evT, evEs, evFs, evD, evO, evC, evIt, ownAt, getS, SV.val, R.bind, runCall, argsOf, argOf, lentOf, noDup, isOwn, env_call, env_glo, env_sup, env_perm, env_fuel, backS, reread, liftO, ofR, ofO, b2, u1, bInt, bAdd, bEq, bLt, bIs, bIx, isNon, outC, heldAll, outOf, keepS, setS, setFs, mkSV, wipeS, backW, tgSet, setAll, itemsOf, noErr, recvOk, truth, isTy, PV.plain, plainAll, PV.deep, deepAll, line, TurnI, NextI, bMul, mul41, lg17]
  obtain ⟨s', h1, r, o, rfl⟩ := hf (1469598103934665603 + 97 * (k + 1))
  refine ⟨r, ?_⟩
  simp only [dr] at h1
  simp [runDef, exSs, exS.eq_1, exS.eq_2, exS.eq_3, exS.eq_4, exS.eq_5, exS.eq_6, exS.eq_7, exS.eq_8, exS.eq_11, exS.eq_12, exS.eq_13, exS.eq_14, exS.eq_15, exS.eq_16, exS.eq_17, evR.eq_1, evR.eq_2, evR.eq_3, evR.eq_4, evR.eq_5, evR.eq_6, evR.eq_7, evR.eq_8, evR.eq_9, evR.eq_10, evR.eq_11, evR.eq_12, evR.eq_13, evR.eq_14, evR.eq_15, evR.eq_16, evR.eq_17, evR.eq_18, evR.eq_19, evR.eq_20, evR.eq_21, evR.eq_22, evP, evAs, evT, evEs, evFs, evD, evO, evC, evIt, ownAt, getS, SV.val, R.bind, runCall, argsOf, argOf, lentOf, noDup, isOwn, env_call, env_glo, env_sup, env_perm, env_fuel, backS, reread, liftO, ofR, ofO, b2, u1, bInt, bAdd, bEq, bLt, bIs, bIx, isNon, outC, heldAll, outOf, keepS, setS, setFs, mkSV, wipeS, backW, tgSet, setAll, itemsOf, noErr, recvOk, truth, isTy, PV.plain, plainAll, PV.deep, deepAll, line, b__law_mixed, dr, isKey, dget, keyEq, dput, dset, bMul, mul97, h1]
/-- a draw below m -/
theorem take {n : Nat} {w : Int} {cs : List Int} {k m : Int} (hl : cs.length ≤ 1000) (h0 : 0 ≤ m) (h1 : m ≤ 1000) : ∃ r w' k' : Int, prog.run (n + 2) 19 [.own (dr w cs k), .fz (.int m)] = .ok (false, .int r) [.own (dr w' cs k'), .fz (.int m)] ∧ 0 ≤ r ∧ (2 ≤ m → r < m) ∧ (m < 2 → r = 0) := by
  rw [run19]
  by_cases h2 : m < 2
  · refine ⟨0, w, k, ?_, Int.le_refl 0, fun h => by omega, fun _ => rfl⟩
    simp [runDef, exSs, exS.eq_1, exS.eq_2, exS.eq_3, exS.eq_4, exS.eq_5, exS.eq_6, exS.eq_7, exS.eq_8, exS.eq_11, exS.eq_12, exS.eq_13, exS.eq_14, exS.eq_15, exS.eq_16, exS.eq_17, evR.eq_1, evR.eq_2, evR.eq_3, evR.eq_4, evR.eq_5, evR.eq_6, evR.eq_7, evR.eq_8, evR.eq_9, evR.eq_10, evR.eq_11, evR.eq_12, evR.eq_13, evR.eq_14, evR.eq_15, evR.eq_16, evR.eq_17, evR.eq_18, evR.eq_19, evR.eq_20, evR.eq_21, evR.eq_22, evP, evAs, evT, evEs, evFs, evD, evO, evC, evIt, ownAt, getS, SV.val, R.bind, runCall, argsOf, argOf, lentOf, noDup, isOwn, env_call, env_glo, env_sup, env_perm, env_fuel, backS, reread, liftO, ofR, ofO, b2, u1, bInt, bAdd, bEq, bLt, bIs, bIx, isNon, outC, heldAll, outOf, keepS, setS, setFs, mkSV, wipeS, backW, tgSet, setAll, itemsOf, noErr, recvOk, truth, isTy, PV.plain, plainAll, PV.deep, deepAll, line, b__law_take, h2]
  · have hm : 0 < m := by omega
    have lg : m.natAbs.log2 < 9000 := Nat.lt_of_le_of_lt (Nat.log2_le_self _) (by omega)
    by_cases hw : 0 < w
    · refine ⟨w % m, w / m, k, ?_, Int.emod_nonneg _ (by omega), fun _ => Int.emod_lt_of_pos _ hm, fun h => absurd h h2⟩
      simp [runDef, exSs, exS.eq_1, exS.eq_2, exS.eq_3, exS.eq_4, exS.eq_5, exS.eq_6, exS.eq_7, exS.eq_8, exS.eq_11, exS.eq_12, exS.eq_13, exS.eq_14, exS.eq_15, exS.eq_16, exS.eq_17, evR.eq_1, evR.eq_2, evR.eq_3, evR.eq_4, evR.eq_5, evR.eq_6, evR.eq_7, evR.eq_8, evR.eq_9, evR.eq_10, evR.eq_11, evR.eq_12, evR.eq_13, evR.eq_14, evR.eq_15, evR.eq_16, evR.eq_17, evR.eq_18, evR.eq_19, evR.eq_20, evR.eq_21, evR.eq_22, evP, evAs, evT, evEs, evFs, evD, evO, evC, evIt, ownAt, getS, SV.val, R.bind, runCall, argsOf, argOf, lentOf, noDup, isOwn, env_call, env_glo, env_sup, env_perm, env_fuel, backS, reread, liftO, ofR, ofO, b2, u1, bInt, bAdd, bEq, bLt, bIs, bIx, isNon, outC, heldAll, outOf, keepS, setS, setFs, mkSV, wipeS, backW, tgSet, setAll, itemsOf, noErr, recvOk, truth, isTy, PV.plain, plainAll, PV.deep, deepAll, line, b__law_take, h2, dr, isKey, dget, keyEq, hw, hm, lg, dput, dset]
    · obtain ⟨r, hr⟩ := mixed (n := n) (w := w) (k := k) hl
      refine ⟨r / 1024 % m, w, k + 1, ?_, Int.emod_nonneg _ (by omega), fun _ => Int.emod_lt_of_pos _ hm, fun h => absurd h h2⟩
      have hw2 : ¬ (1125899906842624 : Int) < m := by omega
      have hq : exS (prog.env (prog.run (n + 1))) [0] (.whl (.tand (.cmp .gt (.v 1) (.e (.bin .pow (.e (.cn (.int 2))) (.e (.cn (.int 50)))))) (.cmp .lt (.v 2) (.e (.bin .mul (.v 1) (.v 1)))))
        (.cons (.asg 2 (.bin .add (.e (.bin .mul (.v 2) (.e (.bin .pow (.e (.cn (.int 2))) (.e (.cn (.int 61))))))) (.e (.call 18 (.l 0 .nil))))) .nil)) [some (.own (dr w cs (k + 1))), some (.fz (.int m)), some (.fz (.int r))] = .next [some (.own (dr w cs (k + 1))), some (.fz (.int m)), some (.fz (.int r))] := by
        refine whl_no (by show (100000 : Nat) ≠ 0; decide) ?_
        simp [runDef, exSs, exS.eq_1, exS.eq_2, exS.eq_3, exS.eq_4, exS.eq_5, exS.eq_6, exS.eq_7, exS.eq_8, exS.eq_11, exS.eq_12, exS.eq_13, exS.eq_14, exS.eq_15, exS.eq_16, exS.eq_17, evR.eq_1, evR.eq_2, evR.eq_3, evR.eq_4, evR.eq_5, evR.eq_6, evR.eq_7, evR.eq_8, evR.eq_9, evR.eq_10, evR.eq_11, evR.eq_12, evR.eq_13, evR.eq_14, evR.eq_15, evR.eq_16, evR.eq_17, evR.eq_18, evR.eq_19, evR.eq_20, evR.eq_21, evR.eq_22, evP, evAs, evT, evEs, evFs, evD, evO, evC, evIt, ownAt, getS, SV.val, R.bind, runCall, argsOf, argOf, lentOf, noDup, isOwn, env_call, env_glo, env_sup, env_perm, env_fuel, backS, reread, liftO, ofR, ofO, b2, u1, bInt, bAdd, bEq, bLt, bIs, bIx, isNon, outC, heldAll, outOf, keepS, setS, setFs, mkSV, wipeS, backW, tgSet, setAll, itemsOf, noErr, recvOk, truth, isTy, PV.plain, plainAll, PV.deep, deepAll, line, hw2]
      simp only [dr] at hr hq
      simp [runDef, exSs, exS.eq_1, exS.eq_2, exS.eq_3, exS.eq_4, exS.eq_5, exS.eq_6, exS.eq_7, exS.eq_8, exS.eq_11, exS.eq_12, exS.eq_13, exS.eq_14, exS.eq_15, exS.eq_16, exS.eq_17, evR.eq_1, evR.eq_2, evR.eq_3, evR.eq_4, evR.eq_5, evR.eq_6, evR.eq_7, evR.eq_8, evR.eq_9, evR.eq_10, evR.eq_11, evR.eq_12, evR.eq_13, evR.eq_14, evR.eq_15, evR.eq_16, evR.eq_17, evR.eq_18, evR.eq_19, evR.eq_20, evR.eq_21, evR.eq_22, evP, evAs, evT, evEs, evFs, evD, evO, evC, evIt, ownAt, getS, SV.val, R.bind, runCall, argsOf, argOf, lentOf, noDup, isOwn, env_call, env_glo, env_sup, env_perm, env_fuel, backS, reread, liftO, ofR, ofO, b2, u1, bInt, bAdd, bEq, bLt, bIs, bIx, isNon, outC, heldAll, outOf, keepS, setS, setFs, mkSV, wipeS, backW, tgSet, setAll, itemsOf, noErr, recvOk, truth, isTy, PV.plain, plainAll, PV.deep, deepAll, line, b__law_take, h2, dr, isKey, dget, keyEq, hw, hm, lg, lg10, dput, dset, hr, hq]
/-- one of these -/
theorem pick {n : Nat} {w : Int} {cs : List Int} {k : Int} {xs : List PV} (hl : cs.length ≤ 1000) (h0 : xs ≠ []) (h1 : xs.length ≤ 1000) : ∃ (x : PV) (w' k' : Int), x ∈ xs ∧ prog.run (n + 3) 20 [.own (dr w cs k), .fz (.lst xs)] = .ok (false, x) [.own (dr w' cs k'), .fz (.lst xs)] := by
  have hp : 0 < xs.length := List.length_pos_iff.mpr h0
  obtain ⟨r, w', k', e, g0, g1, g2⟩ := take (n := n) (w := w) (k := k) (m := (xs.length : Int)) hl (by omega) (by omega)
  have hr : r < xs.length := by
    by_cases h : (2 : Int) ≤ xs.length
    · exact g1 h
    · have := g2 (by omega)
      omega
  have hr2 : r.toNat < xs.length := by omega
  refine ⟨xs[r.toNat], w', k', List.getElem_mem hr2, ?_⟩
  rw [run20]
  have hx : xs[r.toNat]? = some xs[r.toNat] := List.getElem?_eq_getElem hr2
  simp only [dr] at e
  simp [runDef, exSs, exS.eq_1, exS.eq_2, exS.eq_3, exS.eq_4, exS.eq_5, exS.eq_6, exS.eq_7, exS.eq_8, exS.eq_11, exS.eq_12, exS.eq_13, exS.eq_14, exS.eq_15, exS.eq_16, exS.eq_17, evR.eq_1, evR.eq_2, evR.eq_3, evR.eq_4, evR.eq_5, evR.eq_6, evR.eq_7, evR.eq_8, evR.eq_9, evR.eq_10, evR.eq_11, evR.eq_12, evR.eq_13, evR.eq_14, evR.eq_15, evR.eq_16, evR.eq_17, evR.eq_18, evR.eq_19, evR.eq_20, evR.eq_21, evR.eq_22, evP, evAs, evT, evEs, evFs, evD, evO, evC, evIt, ownAt, getS, SV.val, R.bind, runCall, argsOf, argOf, lentOf, noDup, isOwn, env_call, env_glo, env_sup, env_perm, env_fuel, backS, reread, liftO, ofR, ofO, b2, u1, bInt, bAdd, bEq, bLt, bIs, bIx, isNon, outC, heldAll, outOf, keepS, setS, setFs, mkSV, wipeS, backW, tgSet, setAll, itemsOf, noErr, recvOk, truth, isTy, PV.plain, plainAll, PV.deep, deepAll, line, b__law_pick, dr, e, ixAt, g0, hr, hx]
theorem number {n : Nat} {w : Int} {cs : List Int} {k lo hi : Int} (hl : cs.length ≤ 1000) : ∃ (x : PV) (w' k' : Int), x ∈ nums lo hi ∧ prog.run (n + 4) 24 [.own (dr w cs k), .fz (.int lo), .fz (.int hi)] = .ok (false, x) [.own (dr w' cs k'), .fz (.int lo), .fz (.int hi)] := by
  obtain ⟨x, w', k', hx, e⟩ := pick (n := n) (w := w) (k := k) (xs := nums lo hi) hl (by simp [nums]) (by simp [nums])
  refine ⟨x, w', k', hx, ?_⟩
  rw [run24]
  simp only [dr, nums] at e
  simp [runDef, exSs, exS.eq_1, exS.eq_2, exS.eq_3, exS.eq_4, exS.eq_5, exS.eq_6, exS.eq_7, exS.eq_8, exS.eq_11, exS.eq_12, exS.eq_13, exS.eq_14, exS.eq_15, exS.eq_16, exS.eq_17, evR.eq_1, evR.eq_2, evR.eq_3, evR.eq_4, evR.eq_5, evR.eq_6, evR.eq_7, evR.eq_8, evR.eq_9, evR.eq_10, evR.eq_11, evR.eq_12, evR.eq_13, evR.eq_14, evR.eq_15, evR.eq_16, evR.eq_17, evR.eq_18, evR.eq_19, evR.eq_20, evR.eq_21, evR.eq_22, evP, evAs, evT, evEs, evFs, evD, evO, evC, evIt, ownAt, getS, SV.val, R.bind, runCall, argsOf, argOf, lentOf, noDup, isOwn, env_call, env_glo, env_sup, env_perm, env_fuel, backS, reread, liftO, ofR, ofO, b2, u1, bInt, bAdd, bEq, bLt, bIs, bIx, isNon, outC, heldAll, outOf, keepS, setS, setFs, mkSV, wipeS, backW, tgSet, setAll, itemsOf, noErr, recvOk, truth, isTy, PV.plain, plainAll, PV.deep, deepAll, line, b__law_number, dr, e]
end K00

/-! K00E: letters drawn, the draw begun, what is said of told things. -/
namespace K00
open Pv
theorem run26 (n : Nat) (as : List SV) : prog.run (n + 1) 26 as = runDef (prog.env (prog.run n)) ⟨2, 3, b__law_some_letters⟩ as := rfl
theorem run17 (n : Nat) (as : List SV) : prog.run (n + 1) 17 as = runDef (prog.env (prog.run n)) ⟨1, 4, b__law_begun⟩ as := rfl
theorem run22 (n : Nat) (as : List SV) : prog.run (n + 1) 22 as = runDef (prog.env (prog.run n)) ⟨1, 3, b__law_kinds⟩ as := rfl
theorem run23 (n : Nat) (as : List SV) : prog.run (n + 1) 23 as = runDef (prog.env (prog.run n)) ⟨2, 2, b__law_says⟩ as := rfl
theorem compL_subs {turn : PV → Sl → R (Option PV)} (I : Sl → Prop) (step : ∀ c s, I s → ∃ s', (turn (.str [c]) s = .ok (some (.str [c])) s' ∨ turn (.str [c]) s = .ok none s') ∧ I s') : ∀ (z : List Nat) (s : Sl), I s → ∃ z' s', z' ∈ subs z ∧ compL turn (signs z) s = .ok (signs z') s' ∧ I s'
  | [], s, h => ⟨[], s, by simp [subs], by rw [signs]; unfold compL; rfl, h⟩
  | c :: z, s, h => by
    obtain ⟨s1, h1, i1⟩ := step c s h
    obtain ⟨z', s2, m, h2, i2⟩ := compL_subs I step z s1 i1
    rcases h1 with h1 | h1
    · refine ⟨c :: z', s2, ?_, ?_, i2⟩
      · rw [subs, List.mem_flatMap]; exact ⟨z', m, by simp⟩
      · rw [signs, signs]
        unfold compL
        rw [h1]
        simp only [R.bind]
        rw [h2]
    · refine ⟨z', s2, ?_, ?_, i2⟩
      · rw [subs, List.mem_flatMap]; exact ⟨z', m, by simp⟩
      · rw [signs]
        unfold compL
        rw [h1]
        simp only [R.bind]
        rw [h2]
theorem strsOf_signs (z : List Nat) : strsOf (signs z) = some (z.map fun c => [c]) := by rw [signs_map]; exact strsOf_map (fun c => [c]) z
theorem subs_len : ∀ w ∈ ws, ∀ z ∈ subs (lw w), z.length ≤ 4 := by decide +kernel
theorem cut_lw : ∀ w ∈ ws, cutL [97, 98, 99, 100] none (some (w : Int)) = lw w ∧ (lw w).length ≤ 4 := by decide +kernel
theorem some_letters {n w0 : Nat} {w : Int} {cs : List Int} {k : Int} (hl : cs.length ≤ 1000) (hw : w0 ∈ ws) : ∃ (z : List Nat) (w' k' : Int), z ∈ subs (lw w0) ∧ prog.run (n + 3) 26 [.own (dr w cs k), .fz (.int w0)] = .ok (false, .str z) [.own (dr w' cs k'), .fz (.int w0)] := by
  obtain ⟨c1, c2⟩ := cut_lw w0 hw
  have hc : ∃ z s', z ∈ subs (lw w0) ∧ compL (turnQ (prog.env (prog.run (n + 2))) (.var 2) (.nm 2) (.so (.cmp .eq (.e (.call 19 (.l 0 (.e (.cn (.int 2)) .nil)))) (.e (.cn (.int 0))))) [2]) (signs (lw w0)) [some (.own (dr w cs k)), some (.fz (.int w0)), none] = .ok (signs z) s' ∧ ∃ w' k' : Int, s' = [some (.own (dr w' cs k')), some (.fz (.int w0)), none] := by
    refine compL_subs (fun s => ∃ w' k' : Int, s = [some (.own (dr w' cs k')), some (.fz (.int w0)), none]) ?_ _ _ ⟨w, k, rfl⟩
    rintro c s ⟨w1, k1, rfl⟩
    obtain ⟨r, w2, k2, e, _⟩ := take (n := n) (w := w1) (k := k1) (m := 2) hl (by omega) (by omega)
    refine ⟨[some (.own (dr w2 cs k2)), some (.fz (.int w0)), none], ?_, w2, k2, rfl⟩
    simp only [dr] at e ⊢
    cases q : (r == 0)
    · refine .inr ?_
      simp [runDef, exSs, exS.eq_1, exS.eq_2, exS.eq_3, exS.eq_4, exS.eq_5, exS.eq_6, exS.eq_7, exS.eq_8, exS.eq_11, exS.eq_12, exS.eq_13, exS.eq_14, exS.eq_15, exS.eq_16, exS.eq_17, evR.eq_1, evR.eq_2, evR.eq_3, evR.eq_4, evR.eq_5, evR.eq_6, evR.eq_7, evR.eq_8, evR.eq_9, evR.eq_10, evR.eq_11, evR.eq_12, evR.eq_13, evR.eq_14, evR.eq_15, evR.eq_16, evR.eq_17, evR.eq_18, evR.eq_19, evR.eq_20, evR.eq_21, evR.eq_22, evP, evAs, evT, evEs, evFs, evD, evO, evC, evIt, ownAt, getS, SV.val, R.bind, runCall, argsOf, argOf, lentOf, noDup, isOwn, env_call, env_glo, env_sup, env_perm, env_fuel, backS, reread, liftO, ofR, ofO, b2, u1, bInt, bAdd, bEq, bLt, bIs, bIx, isNon, outC, heldAll, outOf, keepS, setS, setFs, mkSV, wipeS, backW, tgSet, setAll, itemsOf, noErr, recvOk, truth, isTy, PV.plain, plainAll, PV.deep, deepAll, line, turnQ, e, eqv, q]
    · refine .inl ?_
      simp [runDef, exSs, exS.eq_1, exS.eq_2, exS.eq_3, exS.eq_4, exS.eq_5, exS.eq_6, exS.eq_7, exS.eq_8, exS.eq_11, exS.eq_12, exS.eq_13, exS.eq_14, exS.eq_15, exS.eq_16, exS.eq_17, evR.eq_1, evR.eq_2, evR.eq_3, evR.eq_4, evR.eq_5, evR.eq_6, evR.eq_7, evR.eq_8, evR.eq_9, evR.eq_10, evR.eq_11, evR.eq_12, evR.eq_13, evR.eq_14, evR.eq_15, evR.eq_16, evR.eq_17, evR.eq_18, evR.eq_19, evR.eq_20, evR.eq_21, evR.eq_22, evP, evAs, evT, evEs, evFs, evD, evO, evC, evIt, ownAt, getS, SV.val, R.bind, runCall, argsOf, argOf, lentOf, noDup, isOwn, env_call, env_glo, env_sup, env_perm, env_fuel, backS, reread, liftO, ofR, ofO, b2, u1, bInt, bAdd, bEq, bLt, bIs, bIx, isNon, outC, heldAll, outOf, keepS, setS, setFs, mkSV, wipeS, backW, tgSet, setAll, itemsOf, noErr, recvOk, truth, isTy, PV.plain, plainAll, PV.deep, deepAll, line, turnQ, e, eqv, q]
  obtain ⟨z, s', hz, h1, w', k', rfl⟩ := hc
  refine ⟨z, w', k', hz, ?_⟩
  have hzl := subs_len w0 hw z hz
  have hlen : z.length ≤ 16777216 := by omega
  have he : evR (prog.env (prog.run (n + 2))) (.comp (.var 2) (.nm 2) (.seq (.slc (.e (.cn (.str [97, 98, 99, 100]))) .no (.so (.var 1)))) (.so (.cmp .eq (.e (.call 19 (.l 0 (.e (.cn (.int 2)) .nil)))) (.e (.cn (.int 0))))) [2]) [some (.own (dr w cs k)), some (.fz (.int w0)), none] = .ok (true, .lst (signs z)) [some (.own (dr w' cs k')), some (.fz (.int w0)), none] := by
    rw [comp_eq (s1 := [some (.own (dr w cs k)), some (.fz (.int w0)), none]) (s2 := [some (.own (dr w cs k)), some (.fz (.int w0)), none]) (xs := signs (lw w0)) (by simp [runDef, exSs, exS.eq_1, exS.eq_2, exS.eq_3, exS.eq_4, exS.eq_5, exS.eq_6, exS.eq_7, exS.eq_8, exS.eq_11, exS.eq_12, exS.eq_13, exS.eq_14, exS.eq_15, exS.eq_16, exS.eq_17, evR.eq_1, evR.eq_2, evR.eq_3, evR.eq_4, evR.eq_5, evR.eq_6, evR.eq_7, evR.eq_8, evR.eq_9, evR.eq_10, evR.eq_11, evR.eq_12, evR.eq_13, evR.eq_14, evR.eq_15, evR.eq_16, evR.eq_17, evR.eq_18, evR.eq_19, evR.eq_20, evR.eq_21, evR.eq_22, evP, evAs, evT, evEs, evFs, evD, evO, evC, evIt, ownAt, getS, SV.val, R.bind, runCall, argsOf, argOf, lentOf, noDup, isOwn, env_call, env_glo, env_sup, env_perm, env_fuel, backS, reread, liftO, ofR, ofO, b2, u1, bInt, bAdd, bEq, bLt, bIs, bIx, isNon, outC, heldAll, outOf, keepS, setS, setFs, mkSV, wipeS, backW, tgSet, setAll, itemsOf, noErr, recvOk, truth, isTy, PV.plain, plainAll, PV.deep, deepAll, line, c1]) (by rw [signs_length]; exact Nat.le_trans c2 (by decide)) (by simp [runDef, exSs, exS.eq_1, exS.eq_2, exS.eq_3, exS.eq_4, exS.eq_5, exS.eq_6, exS.eq_7, exS.eq_8, exS.eq_11, exS.eq_12, exS.eq_13, exS.eq_14, exS.eq_15, exS.eq_16, exS.eq_17, evR.eq_1, evR.eq_2, evR.eq_3, evR.eq_4, evR.eq_5, evR.eq_6, evR.eq_7, evR.eq_8, evR.eq_9, evR.eq_10, evR.eq_11, evR.eq_12, evR.eq_13, evR.eq_14, evR.eq_15, evR.eq_16, evR.eq_17, evR.eq_18, evR.eq_19, evR.eq_20, evR.eq_21, evR.eq_22, evP, evAs, evT, evEs, evFs, evD, evO, evC, evIt, ownAt, getS, SV.val, R.bind, runCall, argsOf, argOf, lentOf, noDup, isOwn, env_call, env_glo, env_sup, env_perm, env_fuel, backS, reread, liftO, ofR, ofO, b2, u1, bInt, bAdd, bEq, bLt, bIs, bIx, isNon, outC, heldAll, outOf, keepS, setS, setFs, mkSV, wipeS, backW, tgSet, setAll, itemsOf, noErr, recvOk, truth, isTy, PV.plain, plainAll, PV.deep, deepAll, line]), h1]
    simp [runDef, exSs, exS.eq_1, exS.eq_2, exS.eq_3, exS.eq_4, exS.eq_5, exS.eq_6, exS.eq_7, exS.eq_8, exS.eq_11, exS.eq_12, exS.eq_13, exS.eq_14, exS.eq_15, exS.eq_16, exS.eq_17, evR.eq_1, evR.eq_2, evR.eq_3, evR.eq_4, evR.eq_5, evR.eq_6, evR.eq_7, evR.eq_8, evR.eq_9, evR.eq_10, evR.eq_11, evR.eq_12, evR.eq_13, evR.eq_14, evR.eq_15, evR.eq_16, evR.eq_17, evR.eq_18, evR.eq_19, evR.eq_20, evR.eq_21, evR.eq_22, evP, evAs, evT, evEs, evFs, evD, evO, evC, evIt, ownAt, getS, SV.val, R.bind, runCall, argsOf, argOf, lentOf, noDup, isOwn, env_call, env_glo, env_sup, env_perm, env_fuel, backS, reread, liftO, ofR, ofO, b2, u1, bInt, bAdd, bEq, bLt, bIs, bIx, isNon, outC, heldAll, outOf, keepS, setS, setFs, mkSV, wipeS, backW, tgSet, setAll, itemsOf, noErr, recvOk, truth, isTy, PV.plain, plainAll, PV.deep, deepAll, line]
  rw [run26]
  simp [runDef, exSs, exS.eq_1, exS.eq_2, exS.eq_3, exS.eq_4, exS.eq_5, exS.eq_6, exS.eq_7, exS.eq_8, exS.eq_11, exS.eq_12, exS.eq_13, exS.eq_14, exS.eq_15, exS.eq_16, exS.eq_17, evR.eq_1, evR.eq_2, evR.eq_3, evR.eq_4, evR.eq_5, evR.eq_6, evR.eq_7, evR.eq_8, evR.eq_9, evR.eq_10, evR.eq_11, evR.eq_12, evR.eq_13, evR.eq_14, evR.eq_15, evR.eq_16, evR.eq_17, evR.eq_18, evR.eq_19, evR.eq_20, evR.eq_21, evR.eq_22, evP, evAs, evT, evEs, evFs, evD, evO, evC, evIt, ownAt, getS, SV.val, R.bind, runCall, argsOf, argOf, lentOf, noDup, isOwn, env_call, env_glo, env_sup, env_perm, env_fuel, backS, reread, liftO, ofR, ofO, b2, u1, bInt, bAdd, bEq, bLt, bIs, bIx, isNon, outC, heldAll, outOf, keepS, setS, setFs, mkSV, wipeS, backW, tgSet, setAll, itemsOf, noErr, recvOk, truth, isTy, PV.plain, plainAll, PV.deep, deepAll, line, b__law_some_letters, he, bJoin, strsOf_signs, lenSum_one, joinS_one, hlen]
/-! ### the draw begun -/
theorem pow_bits {c : Int} {b : Nat} (h : bits c ≤ b) : c.natAbs < 2 ^ b := by
  unfold bits at h
  split at h
  · rename_i e
    have : c = 0 := by simpa using e
    subst this
    exact Nat.pos_of_ne_zero (by simp)
  · rename_i e
    have hn : c.natAbs ≠ 0 := by simpa using e
    exact (Nat.log2_lt hn).mp (by omega)
theorem bits_pow {c : Int} {b : Nat} (h : c.natAbs < 2 ^ b) : bits c ≤ b := by
  unfold bits
  split
  · exact Nat.zero_le _
  · rename_i e
    have hn : c.natAbs ≠ 0 := by simpa using e
    have := (Nat.log2_lt hn).mpr h
    omega
theorem mul_fit {a c : Int} {x y : Nat} (ha : a.natAbs < 2 ^ x) (hc : c.natAbs < 2 ^ y) (h : x + y ≤ 134217728) : mulOk a c = true := by
  have h1 := bits_pow ha
  have h2 := bits_pow hc
  unfold mulOk
  rw [Bool.or_eq_true, Bool.or_eq_true, decide_eq_true_eq, decide_eq_true_eq, decide_eq_true_eq]
  exact .inr (by omega)
theorem grow {a d : Int} {x y : Nat} (h0 : 0 ≤ a) (hd : 0 ≤ d) (ha : a.natAbs < 2 ^ x) (hc : d.natAbs < 2 ^ y) : 0 ≤ a * (d + 1) + d ∧ (a * (d + 1) + d).natAbs < 2 ^ (x + y) := by
  obtain ⟨m, rfl⟩ : ∃ m : Nat, a = m := Int.eq_ofNat_of_zero_le h0
  obtain ⟨k, rfl⟩ := Int.eq_ofNat_of_zero_le hd
  have ha : m < 2 ^ x := ha
  have hc : k < 2 ^ y := hc
  have e : ((m : Int) * ((k : Int) + 1) + k) = ((m * (k + 1) + k : Nat) : Int) := by push_cast; rfl
  rw [e]
  refine ⟨by exact Int.natCast_nonneg _, ?_⟩
  show m * (k + 1) + k < 2 ^ (x + y)
  have h1 : (m + 1) * (k + 1) ≤ 2 ^ x * 2 ^ y := Nat.mul_le_mul ha hc
  rw [← Nat.pow_add] at h1
  have h2 : (m + 1) * (k + 1) = m * (k + 1) + k + 1 := by rw [Nat.add_mul, Nat.one_mul]; omega
  omega
theorem begun {n b : Nat} {ns : List Int} (hl : ns.length ≤ 63) (hb : ∀ z ∈ ns, bits z ≤ b) (hbb : b ≤ 1048576) : ∃ w : Int, prog.run (n + 1) 17 [.fz (.scr (ns.map PV.int))] = .ok (true, dr w ns 0) [.fz (.scr (ns.map PV.int))] := by
  have hf : ∃ s', exS (prog.env (prog.run n)) [] (.for_ (.nm 3) (.seq (.var 0))
      (.cons (.if_ (.tt (.isi (.v 3) [.int]))
      (.cons (.if_ (.cmp .ge (.v 3) (.e (.bin .pow (.e (.cn (.int 10))) (.e (.cn (.int 18))))))
      (.cons (.asg 1 (.bin .add (.e (.bin .mul (.v 1) (.e (.bin .add (.e (.bin .sub (.v 3) (.e (.bin .pow (.e (.cn (.int 10))) (.e (.cn (.int 18))))))) (.e (.cn (.int 1))))))) (.e (.bin .sub (.v 3) (.e (.bin .pow (.e (.cn (.int 10))) (.e (.cn (.int 18)))))))))
      .nil)
      .nil)
      (.cons (.app 2 (.var 3))
      .nil))
      .nil)
      .nil)) [some (.fz (.scr (ns.map PV.int))), some (.fz (.int 0)), some (.own (.lst [])), none] = .next s' ∧
      ∃ (w : Int) (o : Option SV), s' = [some (.fz (.scr (ns.map PV.int))), some (.fz (.int w)), some (.own (.lst ((ns.take (ns.map PV.int).length).map PV.int))), o] ∧ 0 ≤ w ∧ w.natAbs < 2 ^ ((ns.map PV.int).length * b) := by
    refine for_inv (s1 := [some (.fz (.scr (ns.map PV.int))), some (.fz (.int 0)), some (.own (.lst [])), none]) (xs := ns.map PV.int) (fun i s' => ∃ (w : Int) (o : Option SV), s' = [some (.fz (.scr (ns.map PV.int))), some (.fz (.int w)), some (.own (.lst ((ns.take i).map PV.int))), o] ∧ 0 ≤ w ∧ w.natAbs < 2 ^ (i * b)) ?_ ⟨0, none, by simp, Int.le_refl 0, by simp⟩ ?_
    · simp [runDef, exSs, exS.eq_1, exS.eq_2, exS.eq_3, exS.eq_4, exS.eq_5, exS.eq_6, exS.eq_7, exS.eq_8, exS.eq_11, exS.eq_12, exS.eq_13, exS.eq_14, exS.eq_15, exS.eq_16, exS.eq_17, evR.eq_1, evR.eq_2, evR.eq_3, evR.eq_4, evR.eq_5, evR.eq_6, evR.eq_7, evR.eq_8, evR.eq_9, evR.eq_10, evR.eq_11, evR.eq_12, evR.eq_13, evR.eq_14, evR.eq_15, evR.eq_16, evR.eq_17, evR.eq_18, evR.eq_19, evR.eq_20, evR.eq_21, evR.eq_22, evP, evAs, evT, evEs, evFs, evD, evO, evC, evIt, ownAt, getS, SV.val, R.bind, runCall, argsOf, argOf, lentOf, noDup, isOwn, env_call, env_glo, env_sup, env_perm, env_fuel, backS, reread, liftO, ofR, ofO, b2, u1, bInt, bAdd, bEq, bLt, bIs, bIx, isNon, outC, heldAll, outOf, keepS, setS, setFs, mkSV, wipeS, backW, tgSet, setAll, itemsOf, noErr, recvOk, truth, isTy, PV.plain, plainAll, PV.deep, deepAll, line]
    · rintro i x s hx ⟨w, o, rfl, w0, wb⟩
      obtain ⟨c, hc, rfl⟩ : ∃ c, ns[i]? = some c ∧ x = .int c := by
        rw [List.getElem?_map] at hx
        cases e : ns[i]? with
        | none => rw [e] at hx; cases hx
        | some c => rw [e] at hx; cases hx; exact ⟨c, rfl, rfl⟩
      have hi : i < ns.length := (List.getElem?_eq_some_iff.mp hc).1
      have ht : ns.take (i + 1) = ns.take i ++ [c] := by rw [List.take_add_one, hc]; rfl
      have hz : min i ns.length < 16777216 := by omega
      have cb := pow_bits (hb c (List.mem_of_getElem? hc))
      have eb : (i + 1) * b = i * b + b := by rw [Nat.add_mul, Nat.one_mul]
      have ib : i * b + b ≤ 134217728 := by
        have := Nat.mul_le_mul (show i ≤ 63 by omega) hbb
        omega
      by_cases h18 : (1000000000000000000 : Int) ≤ c
      · have d0 : 0 ≤ c - 1000000000000000000 := by omega
        have db : (c - 1000000000000000000).natAbs < 2 ^ b := by
          have : (c - 1000000000000000000).natAbs ≤ c.natAbs := by omega
          omega
        have db1 : (c - 1000000000000000000 + 1).natAbs < 2 ^ b := by
          have : (c - 1000000000000000000 + 1).natAbs ≤ c.natAbs := by omega
          omega
        have hm := mul_fit wb db1 ib
        obtain ⟨g0, g1⟩ := grow w0 d0 wb db
        rw [← eb] at g1
        simp [runDef, exSs, exS.eq_1, exS.eq_2, exS.eq_3, exS.eq_4, exS.eq_5, exS.eq_6, exS.eq_7, exS.eq_8, exS.eq_11, exS.eq_12, exS.eq_13, exS.eq_14, exS.eq_15, exS.eq_16, exS.eq_17, evR.eq_1, evR.eq_2, evR.eq_3, evR.eq_4, evR.eq_5, evR.eq_6, evR.eq_7, evR.eq_8, evR.eq_9, evR.eq_10, evR.eq_11, evR.eq_12, evR.eq_13, evR.eq_14, evR.eq_15, evR.eq_16, evR.eq_17, evR.eq_18, evR.eq_19, evR.eq_20, evR.eq_21, evR.eq_22, evP, evAs, evT, evEs, evFs, evD, evO, evC, evIt, ownAt, getS, SV.val, R.bind, runCall, argsOf, argOf, lentOf, noDup, isOwn, env_call, env_glo, env_sup, env_perm, env_fuel, backS, reread, liftO, ofR, ofO, b2, u1, bInt, bAdd, bEq, bLt, bIs, bIx, isNon, outC, heldAll, outOf, keepS, setS, setFs, mkSV, wipeS, backW, tgSet, setAll, itemsOf, noErr, recvOk, truth, isTy, PV.plain, plainAll, PV.deep, deepAll, line, TurnI, NextI, h18, bMul, hm, hz, ht]
        exact ⟨g0, g1⟩
      · have g1 : w.natAbs < 2 ^ ((i + 1) * b) := Nat.lt_of_lt_of_le wb (Nat.pow_le_pow_right (by decide) (by rw [eb]; omega))
        simp [runDef, exSs, exS.eq_1, exS.eq_2, exS.eq_3, exS.eq_4, exS.eq_5, exS.eq_6, exS.eq_7, exS.eq_8, exS.eq_11, exS.eq_12, exS.eq_13, exS.eq_14, exS.eq_15, exS.eq_16, exS.eq_17, evR.eq_1, evR.eq_2, evR.eq_3, evR.eq_4, evR.eq_5, evR.eq_6, evR.eq_7, evR.eq_8, evR.eq_9, evR.eq_10, evR.eq_11, evR.eq_12, evR.eq_13, evR.eq_14, evR.eq_15, evR.eq_16, evR.eq_17, evR.eq_18, evR.eq_19, evR.eq_20, evR.eq_21, evR.eq_22, evP, evAs, evT, evEs, evFs, evD, evO, evC, evIt, ownAt, getS, SV.val, R.bind, runCall, argsOf, argOf, lentOf, noDup, isOwn, env_call, env_glo, env_sup, env_perm, env_fuel, backS, reread, liftO, ofR, ofO, b2, u1, bInt, bAdd, bEq, bLt, bIs, bIx, isNon, outC, heldAll, outOf, keepS, setS, setFs, mkSV, wipeS, backW, tgSet, setAll, itemsOf, noErr, recvOk, truth, isTy, PV.plain, plainAll, PV.deep, deepAll, line, TurnI, NextI, h18, hz, ht]
        exact ⟨w0, g1⟩
  obtain ⟨s', h1, w, o, rfl, _⟩ := hf
  refine ⟨w, ?_⟩
  rw [run17]
  have ht : ns.take (ns.map PV.int).length = ns := by rw [List.length_map, List.take_length]
  rw [ht] at h1
  simp [runDef, exSs, exS.eq_1, exS.eq_2, exS.eq_3, exS.eq_4, exS.eq_5, exS.eq_6, exS.eq_7, exS.eq_8, exS.eq_11, exS.eq_12, exS.eq_13, exS.eq_14, exS.eq_15, exS.eq_16, exS.eq_17, evR.eq_1, evR.eq_2, evR.eq_3, evR.eq_4, evR.eq_5, evR.eq_6, evR.eq_7, evR.eq_8, evR.eq_9, evR.eq_10, evR.eq_11, evR.eq_12, evR.eq_13, evR.eq_14, evR.eq_15, evR.eq_16, evR.eq_17, evR.eq_18, evR.eq_19, evR.eq_20, evR.eq_21, evR.eq_22, evP, evAs, evT, evEs, evFs, evD, evO, evC, evIt, ownAt, getS, SV.val, R.bind, runCall, argsOf, argOf, lentOf, noDup, isOwn, env_call, env_glo, env_sup, env_perm, env_fuel, backS, reread, liftO, ofR, ofO, b2, u1, bInt, bAdd, bEq, bLt, bIs, bIx, isNon, outC, heldAll, outOf, keepS, setS, setFs, mkSV, wipeS, backW, tgSet, setAll, itemsOf, noErr, recvOk, truth, isTy, PV.plain, plainAll, PV.deep, deepAll, line, b__law_begun, h1, isKey, dput, dputs, dset, keyEq, dr]
/-! ### kinds, says -/
mutual
def kd : PV → PV
  | .tup xs => .tup [.str [116, 117, 112, 108, 101], .tup (kds xs)]
  | .lst xs => .tup [.str [108, 105, 115, 116], .tup (kds xs)]
  | .bl b => .tup [.str [116, 114, 117, 116, 104], .bl b]
  | .non => .tup [.str [112, 108, 97, 105, 110], .non]
  | .int i => .tup [.str [112, 108, 97, 105, 110], .int i]
  | .str s => .tup [.str [112, 108, 97, 105, 110], .str s]
  | _ => .non
def kds : List PV → List PV
  | [] => []
  | x :: xs => kd x :: kds xs
end
theorem kds_map : ∀ xs : List PV, kds xs = xs.map kd
  | [] => by rw [kds]; rfl
  | x :: xs => by rw [kds, kds_map xs]; rfl
mutual
def wide : PV → Bool
  | .tup xs => decide (xs.length ≤ 1000) && wides xs
  | .lst xs => decide (xs.length ≤ 1000) && wides xs
  | .bl _ | .non | .int _ | .str _ => true
  | _ => false
def wides : List PV → Bool
  | [] => true
  | x :: xs => wide x && wides xs
end
theorem wides_mem : ∀ {xs : List PV}, wides xs = true → ∀ x ∈ xs, wide x = true
  | [], _, x, h => by simp at h
  | y :: xs, h, x, hx => by
    rw [wides, Bool.and_eq_true] at h
    rcases List.mem_cons.mp hx with e | e
    · subst e; exact h.1
    · exact wides_mem h.2 x e
theorem deepAll_mem : ∀ {xs : List PV} {x : PV}, x ∈ xs → x.deep ≤ deepAll xs
  | [], x, h => by simp at h
  | y :: xs, x, hx => by
    rw [deepAll]
    rcases List.mem_cons.mp hx with e | e
    · subst e; omega
    · have := deepAll_mem e; omega
theorem kd_plain_deep : ∀ (m : Nat) (x : PV), x.deep ≤ m → (kd x).plain = true ∧ (kd x).deep ≤ 2 * m + 1 := by
  intro m
  induction m with
  | zero =>
    intro x hx
    cases x with
    | tup xs => rw [PV.deep] at hx; omega
    | lst xs => rw [PV.deep] at hx; omega
    | _ => simp [kd, PV.plain, plainAll, PV.deep, deepAll]
  | succ m ih =>
    intro x hx
    have all : ∀ xs : List PV, deepAll xs ≤ m → plainAll (kds xs) = true ∧ deepAll (kds xs) ≤ 2 * m + 1 := by
      intro xs
      induction xs with
      | nil => intro _; simp [kds, plainAll, deepAll]
      | cons y ys ih2 =>
        intro h
        rw [deepAll] at h
        obtain ⟨a1, a2⟩ := ih y (by omega)
        obtain ⟨b1, b2⟩ := ih2 (by omega)
        rw [kds, plainAll, deepAll, a1, b1]
        exact ⟨rfl, by omega⟩
    cases x with
    | tup xs =>
      rw [PV.deep] at hx
      obtain ⟨a1, a2⟩ := all xs (by omega)
      simp only [kd, PV.plain, plainAll, a1, PV.deep, deepAll]
      exact ⟨rfl, by omega⟩
    | lst xs =>
      rw [PV.deep] at hx
      obtain ⟨a1, a2⟩ := all xs (by omega)
      simp only [kd, PV.plain, plainAll, a1, PV.deep, deepAll]
      exact ⟨rfl, by omega⟩
    | _ => simp [kd, PV.plain, plainAll, PV.deep, deepAll]
mutual
theorem eqv_refl : ∀ x : PV, x.plain = true → eqv x x = true
  | .non, _ => by rw [eqv]
  | .bl _, _ => by simp [eqv]
  | .int _, _ => by simp [eqv]
  | .str _, _ => by simp [eqv]
  | .tup xs, h => by rw [PV.plain] at h; rw [eqv]; exact eqvs_refl xs h
  | .lst xs, h => by rw [PV.plain] at h; rw [eqv]; exact eqvs_refl xs h
  | .dct _ _, h => by simp [PV.plain] at h
  | .scr _, h => by simp [PV.plain] at h
  | .fn _, h => by simp [PV.plain] at h
  | .exc _ _, h => by simp [PV.plain] at h
theorem eqvs_refl : ∀ xs : List PV, plainAll xs = true → eqvAll xs xs = true
  | [], _ => by rw [eqvAll]
  | x :: xs, h => by
    rw [plainAll, Bool.and_eq_true] at h
    rw [eqvAll, eqv_refl x h.1, eqvs_refl xs h.2]; rfl
end
/-- as handed: it stays, or it is one's own -/
def Holds1 (a : SV) (x : PV) : Prop := a = .fz x ∨ (a = .own x ∧ ∃ xs, x = .lst xs)
theorem kinds_run : ∀ (m n : Nat) (x : PV) (a : SV), x.deep ≤ m → wide x = true → Holds1 a x → prog.run (n + m + 1) 22 [a] = .ok (false, kd x) [.fz x] := by
  intro m
  induction m with
  | zero =>
    intro n x a hd hw ha
    rw [run22]
    cases x with
    | tup xs => rw [PV.deep] at hd; omega
    | lst xs => rw [PV.deep] at hd; omega
    | dct _ _ => simp [wide] at hw
    | scr _ => simp [wide] at hw
    | fn _ => simp [wide] at hw
    | exc _ _ => simp [wide] at hw
    | _ =>
      rcases ha with rfl | ⟨_, xs, e⟩
      · simp [runDef, exSs, exS.eq_1, exS.eq_2, exS.eq_3, exS.eq_4, exS.eq_5, exS.eq_6, exS.eq_7, exS.eq_8, exS.eq_11, exS.eq_12, exS.eq_13, exS.eq_14, exS.eq_15, exS.eq_16, exS.eq_17, evR.eq_1, evR.eq_2, evR.eq_3, evR.eq_4, evR.eq_5, evR.eq_6, evR.eq_7, evR.eq_8, evR.eq_9, evR.eq_10, evR.eq_11, evR.eq_12, evR.eq_13, evR.eq_14, evR.eq_15, evR.eq_16, evR.eq_17, evR.eq_18, evR.eq_19, evR.eq_20, evR.eq_21, evR.eq_22, evP, evAs, evT, evEs, evFs, evD, evO, evC, evIt, ownAt, getS, SV.val, R.bind, runCall, argsOf, argOf, lentOf, noDup, isOwn, env_call, env_glo, env_sup, env_perm, env_fuel, backS, reread, liftO, ofR, ofO, b2, u1, bInt, bAdd, bEq, bLt, bIs, bIx, isNon, outC, heldAll, outOf, keepS, setS, setFs, mkSV, wipeS, backW, tgSet, setAll, itemsOf, noErr, recvOk, truth, isTy, PV.plain, plainAll, PV.deep, deepAll, line, b__law_kinds, kd]
      · cases e
  | succ m ih =>
    intro n x a hd hw ha
    rw [run22]
    have items : ∀ (xs : List PV) (o : SV) (y : PV), deepAll xs ≤ m → xs.length ≤ 1000 → wides xs = true → itemsOf y = some xs → (o = .fz y ∨ o = .own y) →
        evR (prog.env (prog.run (n + (m + 1)))) (.comp (.call 22 (.l 2 .nil)) (.nm 2) (.seq (.var 0)) .no [2]) [some o, none, none] = .ok (true, .lst (xs.map kd)) [some (.fz y), none, none] := by
      intro xs o y h1 h2 h3 h4 h5
      have h2' : xs.length ≤ line := Nat.le_trans h2 (by decide)
      have hi : evIt (prog.env (prog.run (n + (m + 1)))) (.seq (.var 0)) [some o, none, none] = .ok xs [some (.fz y), none, none] := by
        rcases h5 with rfl | rfl <;> simp [evIt, evR.eq_5, keepS, R.bind, liftO, h4]
      rw [comp_map (s1 := [some (.fz y), none, none]) (s2 := [some (.fz y), none, none]) (xs := xs) kd hi h2' (by simp [runDef, exSs, exS.eq_1, exS.eq_2, exS.eq_3, exS.eq_4, exS.eq_5, exS.eq_6, exS.eq_7, exS.eq_8, exS.eq_11, exS.eq_12, exS.eq_13, exS.eq_14, exS.eq_15, exS.eq_16, exS.eq_17, evR.eq_1, evR.eq_2, evR.eq_3, evR.eq_4, evR.eq_5, evR.eq_6, evR.eq_7, evR.eq_8, evR.eq_9, evR.eq_10, evR.eq_11, evR.eq_12, evR.eq_13, evR.eq_14, evR.eq_15, evR.eq_16, evR.eq_17, evR.eq_18, evR.eq_19, evR.eq_20, evR.eq_21, evR.eq_22, evP, evAs, evT, evEs, evFs, evD, evO, evC, evIt, ownAt, getS, SV.val, R.bind, runCall, argsOf, argOf, lentOf, noDup, isOwn, env_call, env_glo, env_sup, env_perm, env_fuel, backS, reread, liftO, ofR, ofO, b2, u1, bInt, bAdd, bEq, bLt, bIs, bIx, isNon, outC, heldAll, outOf, keepS, setS, setFs, mkSV, wipeS, backW, tgSet, setAll, itemsOf, noErr, recvOk, truth, isTy, PV.plain, plainAll, PV.deep, deepAll, line]) (fun z hz => ?_)]
      · simp [runDef, exSs, exS.eq_1, exS.eq_2, exS.eq_3, exS.eq_4, exS.eq_5, exS.eq_6, exS.eq_7, exS.eq_8, exS.eq_11, exS.eq_12, exS.eq_13, exS.eq_14, exS.eq_15, exS.eq_16, exS.eq_17, evR.eq_1, evR.eq_2, evR.eq_3, evR.eq_4, evR.eq_5, evR.eq_6, evR.eq_7, evR.eq_8, evR.eq_9, evR.eq_10, evR.eq_11, evR.eq_12, evR.eq_13, evR.eq_14, evR.eq_15, evR.eq_16, evR.eq_17, evR.eq_18, evR.eq_19, evR.eq_20, evR.eq_21, evR.eq_22, evP, evAs, evT, evEs, evFs, evD, evO, evC, evIt, ownAt, getS, SV.val, R.bind, runCall, argsOf, argOf, lentOf, noDup, isOwn, env_call, env_glo, env_sup, env_perm, env_fuel, backS, reread, liftO, ofR, ofO, b2, u1, bInt, bAdd, bEq, bLt, bIs, bIx, isNon, outC, heldAll, outOf, keepS, setS, setFs, mkSV, wipeS, backW, tgSet, setAll, itemsOf, noErr, recvOk, truth, isTy, PV.plain, plainAll, PV.deep, deepAll, line]
      · have hk := ih n z (.fz z) (Nat.le_trans (deepAll_mem hz) h1) (wides_mem h3 z hz) (.inl rfl)
        have hk : prog.run (n + (m + 1)) 22 [.fz z] = .ok (false, kd z) [.fz z] := hk
        simp [runDef, exSs, exS.eq_1, exS.eq_2, exS.eq_3, exS.eq_4, exS.eq_5, exS.eq_6, exS.eq_7, exS.eq_8, exS.eq_11, exS.eq_12, exS.eq_13, exS.eq_14, exS.eq_15, exS.eq_16, exS.eq_17, evR.eq_1, evR.eq_2, evR.eq_3, evR.eq_4, evR.eq_5, evR.eq_6, evR.eq_7, evR.eq_8, evR.eq_9, evR.eq_10, evR.eq_11, evR.eq_12, evR.eq_13, evR.eq_14, evR.eq_15, evR.eq_16, evR.eq_17, evR.eq_18, evR.eq_19, evR.eq_20, evR.eq_21, evR.eq_22, evP, evAs, evT, evEs, evFs, evD, evO, evC, evIt, ownAt, getS, SV.val, R.bind, runCall, argsOf, argOf, lentOf, noDup, isOwn, env_call, env_glo, env_sup, env_perm, env_fuel, backS, reread, liftO, ofR, ofO, b2, u1, bInt, bAdd, bEq, bLt, bIs, bIx, isNon, outC, heldAll, outOf, keepS, setS, setFs, mkSV, wipeS, backW, tgSet, setAll, itemsOf, noErr, recvOk, truth, isTy, PV.plain, plainAll, PV.deep, deepAll, line, turnQ, hk]
    cases x with
    | tup xs =>
      rw [PV.deep] at hd
      rw [wide, Bool.and_eq_true, decide_eq_true_eq] at hw
      rcases ha with rfl | ⟨_, xs', e⟩
      · have hc := items xs (.fz (.tup xs)) (.tup xs) (by omega) hw.1 hw.2 rfl (.inl rfl)
        simp [runDef, exSs, exS.eq_1, exS.eq_2, exS.eq_3, exS.eq_4, exS.eq_5, exS.eq_6, exS.eq_7, exS.eq_8, exS.eq_11, exS.eq_12, exS.eq_13, exS.eq_14, exS.eq_15, exS.eq_16, exS.eq_17, evR.eq_1, evR.eq_2, evR.eq_3, evR.eq_4, evR.eq_5, evR.eq_6, evR.eq_7, evR.eq_8, evR.eq_9, evR.eq_10, evR.eq_11, evR.eq_12, evR.eq_13, evR.eq_14, evR.eq_15, evR.eq_16, evR.eq_17, evR.eq_18, evR.eq_19, evR.eq_20, evR.eq_21, evR.eq_22, evP, evAs, evT, evEs, evFs, evD, evO, evC, evIt, ownAt, getS, SV.val, R.bind, runCall, argsOf, argOf, lentOf, noDup, isOwn, env_call, env_glo, env_sup, env_perm, env_fuel, backS, reread, liftO, ofR, ofO, b2, u1, bInt, bAdd, bEq, bLt, bIs, bIx, isNon, outC, heldAll, outOf, keepS, setS, setFs, mkSV, wipeS, backW, tgSet, setAll, itemsOf, noErr, recvOk, truth, isTy, PV.plain, plainAll, PV.deep, deepAll, line, b__law_kinds, kd, hc, kds_map]
      · cases e
    | lst xs =>
      rw [PV.deep] at hd
      rw [wide, Bool.and_eq_true, decide_eq_true_eq] at hw
      rcases ha with rfl | ⟨rfl, _⟩
      · have hc := items xs (.fz (.lst xs)) (.lst xs) (by omega) hw.1 hw.2 rfl (.inl rfl)
        simp [runDef, exSs, exS.eq_1, exS.eq_2, exS.eq_3, exS.eq_4, exS.eq_5, exS.eq_6, exS.eq_7, exS.eq_8, exS.eq_11, exS.eq_12, exS.eq_13, exS.eq_14, exS.eq_15, exS.eq_16, exS.eq_17, evR.eq_1, evR.eq_2, evR.eq_3, evR.eq_4, evR.eq_5, evR.eq_6, evR.eq_7, evR.eq_8, evR.eq_9, evR.eq_10, evR.eq_11, evR.eq_12, evR.eq_13, evR.eq_14, evR.eq_15, evR.eq_16, evR.eq_17, evR.eq_18, evR.eq_19, evR.eq_20, evR.eq_21, evR.eq_22, evP, evAs, evT, evEs, evFs, evD, evO, evC, evIt, ownAt, getS, SV.val, R.bind, runCall, argsOf, argOf, lentOf, noDup, isOwn, env_call, env_glo, env_sup, env_perm, env_fuel, backS, reread, liftO, ofR, ofO, b2, u1, bInt, bAdd, bEq, bLt, bIs, bIx, isNon, outC, heldAll, outOf, keepS, setS, setFs, mkSV, wipeS, backW, tgSet, setAll, itemsOf, noErr, recvOk, truth, isTy, PV.plain, plainAll, PV.deep, deepAll, line, b__law_kinds, kd, hc, kds_map]
      · have hc := items xs (.own (.lst xs)) (.lst xs) (by omega) hw.1 hw.2 rfl (.inr rfl)
        simp [runDef, exSs, exS.eq_1, exS.eq_2, exS.eq_3, exS.eq_4, exS.eq_5, exS.eq_6, exS.eq_7, exS.eq_8, exS.eq_11, exS.eq_12, exS.eq_13, exS.eq_14, exS.eq_15, exS.eq_16, exS.eq_17, evR.eq_1, evR.eq_2, evR.eq_3, evR.eq_4, evR.eq_5, evR.eq_6, evR.eq_7, evR.eq_8, evR.eq_9, evR.eq_10, evR.eq_11, evR.eq_12, evR.eq_13, evR.eq_14, evR.eq_15, evR.eq_16, evR.eq_17, evR.eq_18, evR.eq_19, evR.eq_20, evR.eq_21, evR.eq_22, evP, evAs, evT, evEs, evFs, evD, evO, evC, evIt, ownAt, getS, SV.val, R.bind, runCall, argsOf, argOf, lentOf, noDup, isOwn, env_call, env_glo, env_sup, env_perm, env_fuel, backS, reread, liftO, ofR, ofO, b2, u1, bInt, bAdd, bEq, bLt, bIs, bIx, isNon, outC, heldAll, outOf, keepS, setS, setFs, mkSV, wipeS, backW, tgSet, setAll, itemsOf, noErr, recvOk, truth, isTy, PV.plain, plainAll, PV.deep, deepAll, line, b__law_kinds, kd, hc, kds_map]
    | dct _ _ => simp [wide] at hw
    | scr _ => simp [wide] at hw
    | fn _ => simp [wide] at hw
    | exc _ _ => simp [wide] at hw
    | _ =>
      rcases ha with rfl | ⟨_, xs, e⟩
      · simp [runDef, exSs, exS.eq_1, exS.eq_2, exS.eq_3, exS.eq_4, exS.eq_5, exS.eq_6, exS.eq_7, exS.eq_8, exS.eq_11, exS.eq_12, exS.eq_13, exS.eq_14, exS.eq_15, exS.eq_16, exS.eq_17, evR.eq_1, evR.eq_2, evR.eq_3, evR.eq_4, evR.eq_5, evR.eq_6, evR.eq_7, evR.eq_8, evR.eq_9, evR.eq_10, evR.eq_11, evR.eq_12, evR.eq_13, evR.eq_14, evR.eq_15, evR.eq_16, evR.eq_17, evR.eq_18, evR.eq_19, evR.eq_20, evR.eq_21, evR.eq_22, evP, evAs, evT, evEs, evFs, evD, evO, evC, evIt, ownAt, getS, SV.val, R.bind, runCall, argsOf, argOf, lentOf, noDup, isOwn, env_call, env_glo, env_sup, env_perm, env_fuel, backS, reread, liftO, ofR, ofO, b2, u1, bInt, bAdd, bEq, bLt, bIs, bIx, isNon, outC, heldAll, outOf, keepS, setS, setFs, mkSV, wipeS, backW, tgSet, setAll, itemsOf, noErr, recvOk, truth, isTy, PV.plain, plainAll, PV.deep, deepAll, line, b__law_kinds, kd]
      · cases e
/-- what is told is what is due -/
theorem says {m n : Nat} {x : PV} {a : SV} (hm : m ≤ 25) (hd : x.deep ≤ m) (hw : wide x = true) (ha : Holds1 a x) : prog.run (n + m + 2) 23 [a, .fz x] = .ok (false, .bl true) [.fz x, .fz x] := by
  have h1 := kinds_run m n x a hd hw ha
  have h2 := kinds_run m n x (.fz x) hd hw (.inl rfl)
  obtain ⟨p1, p2⟩ := kd_plain_deep m x hd
  have p3 : (kd x).deep ≤ 60 := by omega
  have p4 := eqv_refl _ p1
  rw [run23]
  rcases ha with rfl | ⟨rfl, xs, rfl⟩
  · simp [runDef, exSs, exS.eq_1, exS.eq_2, exS.eq_3, exS.eq_4, exS.eq_5, exS.eq_6, exS.eq_7, exS.eq_8, exS.eq_11, exS.eq_12, exS.eq_13, exS.eq_14, exS.eq_15, exS.eq_16, exS.eq_17, evR.eq_1, evR.eq_2, evR.eq_3, evR.eq_4, evR.eq_5, evR.eq_6, evR.eq_7, evR.eq_8, evR.eq_9, evR.eq_10, evR.eq_11, evR.eq_12, evR.eq_13, evR.eq_14, evR.eq_15, evR.eq_16, evR.eq_17, evR.eq_18, evR.eq_19, evR.eq_20, evR.eq_21, evR.eq_22, evP, evAs, evT, evEs, evFs, evD, evO, evC, evIt, ownAt, getS, SV.val, R.bind, runCall, argsOf, argOf, lentOf, noDup, isOwn, env_call, env_glo, env_sup, env_perm, env_fuel, backS, reread, liftO, ofR, ofO, b2, u1, bInt, bAdd, bEq, bLt, bIs, bIx, isNon, outC, heldAll, outOf, keepS, setS, setFs, mkSV, wipeS, backW, tgSet, setAll, itemsOf, noErr, recvOk, truth, isTy, PV.plain, plainAll, PV.deep, deepAll, line, b__law_says, h1, h2, p1, p3, p4]
  · simp [runDef, exSs, exS.eq_1, exS.eq_2, exS.eq_3, exS.eq_4, exS.eq_5, exS.eq_6, exS.eq_7, exS.eq_8, exS.eq_11, exS.eq_12, exS.eq_13, exS.eq_14, exS.eq_15, exS.eq_16, exS.eq_17, evR.eq_1, evR.eq_2, evR.eq_3, evR.eq_4, evR.eq_5, evR.eq_6, evR.eq_7, evR.eq_8, evR.eq_9, evR.eq_10, evR.eq_11, evR.eq_12, evR.eq_13, evR.eq_14, evR.eq_15, evR.eq_16, evR.eq_17, evR.eq_18, evR.eq_19, evR.eq_20, evR.eq_21, evR.eq_22, evP, evAs, evT, evEs, evFs, evD, evO, evC, evIt, ownAt, getS, SV.val, R.bind, runCall, argsOf, argOf, lentOf, noDup, isOwn, env_call, env_glo, env_sup, env_perm, env_fuel, backS, reread, liftO, ofR, ofO, b2, u1, bInt, bAdd, bEq, bLt, bIs, bIx, isNon, outC, heldAll, outOf, keepS, setS, setFs, mkSV, wipeS, backW, tgSet, setAll, itemsOf, noErr, recvOk, truth, isTy, PV.plain, plainAll, PV.deep, deepAll, line, b__law_says, h1, h2, p1, p3, p4]
end K00

/-! K00L: the law of k00, statement by statement. -/
namespace K00
open Pv
abbrev Q12 : Env := prog.env (prog.run 12)
theorem perm0 : prog.perm 0 = [3, 2, 1, 0] := rfl
theorem perm1 : prog.perm 1 = [2, 1, 0] := rfl
theorem perm2 : prog.perm 2 = [1, 0] := rfl
theorem perm3 : prog.perm 3 = [1, 0] := rfl
theorem perm4 : prog.perm 4 = [1, 0] := rfl
theorem sup10 : prog.sup 1 0 = true := rfl
theorem sup20 : prog.sup 2 0 = true := rfl
theorem sup30 : prog.sup 3 0 = true := rfl
theorem sup40 : prog.sup 4 0 = true := rfl
theorem sup50 : prog.sup 5 0 = true := rfl
theorem sup60 : prog.sup 6 0 = true := rfl
theorem sup11 : prog.sup 1 1 = true := rfl
theorem sup22 : prog.sup 2 2 = true := rfl
theorem sup33 : prog.sup 3 3 = true := rfl
theorem sup44 : prog.sup 4 4 = true := rfl
theorem sup55 : prog.sup 5 5 = true := rfl
theorem sup66 : prog.sup 6 6 = true := rfl
def rowsP (w : Nat) : PV := .lst ((rowsN w).map PV.str)
theorem run14 (n : Nat) (as : List SV) : prog.run (n + 1) 14 as = runDef (prog.env (prog.run n)) ⟨4, 4, b_are_alike⟩ as := rfl
theorem alike {w : Nat} {a b ls : List Nat} (hw : w ∈ ws) (ha : a ∈ rowsN w) (hb : b ∈ rowsN w) (hl : ls ∈ subs (lw w)) : prog.run 12 14 [.fz (.int w), .fz (.str a), .fz (.str b), .fz (.str ls)] = .ok (false, .bl (und a ls == und b ls)) [.fz (.int w), .fz (.str a), .fz (.str b), .fz (.str ls)] := by
  have h1 := e_non (f_nw w hw)
  have h2 := e_bl (f_rf w hw a ha)
  have h3 := e_bl (f_rf w hw b hb)
  have h4 := e_non (f_nl w hw ls hl)
  have h5 := e_str (f_su w hw a ha ls hl)
  have h6 := e_str (f_su w hw b hb ls hl)
  rw [run14]
  simp [runDef, exSs, exS.eq_1, exS.eq_2, exS.eq_3, exS.eq_4, exS.eq_5, exS.eq_6, exS.eq_7, exS.eq_8, exS.eq_11, exS.eq_12, exS.eq_13, exS.eq_14, exS.eq_15, exS.eq_16, exS.eq_17, evR.eq_1, evR.eq_2, evR.eq_3, evR.eq_4, evR.eq_5, evR.eq_6, evR.eq_7, evR.eq_8, evR.eq_9, evR.eq_10, evR.eq_11, evR.eq_12, evR.eq_13, evR.eq_14, evR.eq_15, evR.eq_16, evR.eq_17, evR.eq_18, evR.eq_19, evR.eq_20, evR.eq_21, evR.eq_22, evP, evAs, evT, evEs, evFs, evD, evO, evC, evIt, ownAt, getS, SV.val, R.bind, runCall, argsOf, argOf, lentOf, noDup, isOwn, env_call, env_glo, env_sup, env_perm, env_fuel, backS, reread, liftO, ofR, ofO, b2, u1, bInt, bAdd, bEq, bLt, bIs, bIx, isNon, outC, heldAll, outOf, keepS, setS, setFs, mkSV, wipeS, backW, tgSet, setAll, itemsOf, noErr, recvOk, truth, isTy, PV.plain, plainAll, PV.deep, deepAll, line, b_are_alike, h1, h2, h3, h4, h5, h6, eqv]
theorem next_cons {Q : Env} {ro : List Nat} {I : Sl → Prop} {a : S} {r : Ss} {s s1 : Sl} (h : exS Q ro a s = .next s1) (k : NextI I (exSs Q ro r s1)) : NextI I (exSs Q ro (.cons a r) s) := by
  rw [exSs, h]
  exact k
theorem wides_str : ∀ l : List (List Nat), wides (l.map PV.str) = true
  | [] => rfl
  | a :: l => by rw [List.map_cons, wides, wides_str l]; rfl
theorem deep_str : ∀ l : List (List Nat), deepAll (l.map PV.str) = 0
  | [] => rfl
  | a :: l => by rw [List.map_cons, deepAll, deep_str l]; rfl
theorem plain_str : ∀ l : List (List Nat), plainAll (l.map PV.str) = true
  | [] => rfl
  | a :: l => by rw [List.map_cons, plainAll, plain_str l]; rfl
section
variable {c : Nat → List SV → RC} {a0 a1 a2 a3 a4 a5 a6 a7 a8 a9 a10 a11 a12 a13 : Option SV} {sc : PV} {d d' d2 : PV} {w : Nat} {one other ls : List Nat} {wr od : PV}
theorem st19 {r : Int} (e : c 19 [.own d, .fz (.int 4)] = .ok (false, .int r) [.own d', .fz (.int 4)]) (hr : 1 + r = (w : Int)) : exS (prog.env c) [] law_19 [some (.fz sc), some (.own d), a2, a3, a4, a5, a6, a7, a8, a9, a10, a11, a12, a13] = .next [some (.fz sc), some (.own d'), a2, some (.fz (.int w)), a4, a5, a6, a7, a8, a9, a10, a11, a12, a13] := by
  simp [runDef, exSs, exS.eq_1, exS.eq_2, exS.eq_3, exS.eq_4, exS.eq_5, exS.eq_6, exS.eq_7, exS.eq_8, exS.eq_11, exS.eq_12, exS.eq_13, exS.eq_14, exS.eq_15, exS.eq_16, exS.eq_17, evR.eq_1, evR.eq_2, evR.eq_3, evR.eq_4, evR.eq_5, evR.eq_6, evR.eq_7, evR.eq_8, evR.eq_9, evR.eq_10, evR.eq_11, evR.eq_12, evR.eq_13, evR.eq_14, evR.eq_15, evR.eq_16, evR.eq_17, evR.eq_18, evR.eq_19, evR.eq_20, evR.eq_21, evR.eq_22, evP, evAs, evT, evEs, evFs, evD, evO, evC, evIt, ownAt, getS, SV.val, R.bind, runCall, argsOf, argOf, lentOf, noDup, isOwn, env_call, env_glo, env_sup, env_perm, env_fuel, backS, reread, liftO, ofR, ofO, b2, u1, bInt, bAdd, bEq, bLt, bIs, bIx, isNon, outC, heldAll, outOf, keepS, setS, setFs, mkSV, wipeS, backW, tgSet, setAll, itemsOf, noErr, recvOk, truth, isTy, PV.plain, plainAll, PV.deep, deepAll, line, law_19, e, hr]
theorem st18 {rp : PV} (e : c 25 [.fz (.int w)] = .ok (false, rp) [.fz (.int w)]) (e2 : c 26 [.own d, .fz (.int w)] = .ok (false, .str ls) [.own d', .fz (.int w)]) : exS (prog.env c) [] law_18 [some (.fz sc), some (.own d), a2, some (.fz (.int w)), a4, a5, a6, a7, a8, a9, a10, a11, a12, a13] = .next [some (.fz sc), some (.own d'), a2, some (.fz (.int w)), some (.fz rp), some (.fz (.str ls)), a6, a7, a8, a9, a10, a11, a12, a13] := by
  simp [runDef, exSs, exS.eq_1, exS.eq_2, exS.eq_3, exS.eq_4, exS.eq_5, exS.eq_6, exS.eq_7, exS.eq_8, exS.eq_11, exS.eq_12, exS.eq_13, exS.eq_14, exS.eq_15, exS.eq_16, exS.eq_17, evR.eq_1, evR.eq_2, evR.eq_3, evR.eq_4, evR.eq_5, evR.eq_6, evR.eq_7, evR.eq_8, evR.eq_9, evR.eq_10, evR.eq_11, evR.eq_12, evR.eq_13, evR.eq_14, evR.eq_15, evR.eq_16, evR.eq_17, evR.eq_18, evR.eq_19, evR.eq_20, evR.eq_21, evR.eq_22, evP, evAs, evT, evEs, evFs, evD, evO, evC, evIt, ownAt, getS, SV.val, R.bind, runCall, argsOf, argOf, lentOf, noDup, isOwn, env_call, env_glo, env_sup, env_perm, env_fuel, backS, reread, liftO, ofR, ofO, b2, u1, bInt, bAdd, bEq, bLt, bIs, bIx, isNon, outC, heldAll, outOf, keepS, setS, setFs, mkSV, wipeS, backW, tgSet, setAll, itemsOf, noErr, recvOk, truth, isTy, PV.plain, plainAll, PV.deep, deepAll, line, law_18, e, e2]
theorem st17 (e : c 20 [.own d, .fz (rowsP w)] = .ok (false, .str one) [.own d', .fz (rowsP w)]) (e2 : c 20 [.own d', .fz (rowsP w)] = .ok (false, .str other) [.own d2, .fz (rowsP w)]) : exS (prog.env c) [] law_17 [some (.fz sc), some (.own d), a2, some (.fz (.int w)), some (.fz (rowsP w)), some (.fz (.str ls)), a6, a7, a8, a9, a10, a11, a12, a13] = .next [some (.fz sc), some (.own d2), a2, some (.fz (.int w)), some (.fz (rowsP w)), some (.fz (.str ls)), some (.fz (.str one)), some (.fz (.str other)), a8, a9, a10, a11, a12, a13] := by
  simp [runDef, exSs, exS.eq_1, exS.eq_2, exS.eq_3, exS.eq_4, exS.eq_5, exS.eq_6, exS.eq_7, exS.eq_8, exS.eq_11, exS.eq_12, exS.eq_13, exS.eq_14, exS.eq_15, exS.eq_16, exS.eq_17, evR.eq_1, evR.eq_2, evR.eq_3, evR.eq_4, evR.eq_5, evR.eq_6, evR.eq_7, evR.eq_8, evR.eq_9, evR.eq_10, evR.eq_11, evR.eq_12, evR.eq_13, evR.eq_14, evR.eq_15, evR.eq_16, evR.eq_17, evR.eq_18, evR.eq_19, evR.eq_20, evR.eq_21, evR.eq_22, evP, evAs, evT, evEs, evFs, evD, evO, evC, evIt, ownAt, getS, SV.val, R.bind, runCall, argsOf, argOf, lentOf, noDup, isOwn, env_call, env_glo, env_sup, env_perm, env_fuel, backS, reread, liftO, ofR, ofO, b2, u1, bInt, bAdd, bEq, bLt, bIs, bIx, isNon, outC, heldAll, outOf, keepS, setS, setFs, mkSV, wipeS, backW, tgSet, setAll, itemsOf, noErr, recvOk, truth, isTy, PV.plain, plainAll, PV.deep, deepAll, line, law_17, e, e2]
theorem st16 (hw : w ∈ ws) (e : c 20 [.own d, .fz (.lst (wrongs w))] = .ok (false, wr) [.own d', .fz (.lst (wrongs w))]) : exS (prog.env c) [] law_16 [some (.fz sc), some (.own d), a2, some (.fz (.int w)), some (.fz (rowsP w)), some (.fz (.str ls)), some (.fz (.str one)), some (.fz (.str other)), a8, a9, a10, a11, a12, a13] = .next [some (.fz sc), some (.own d'), a2, some (.fz (.int w)), some (.fz (rowsP w)), some (.fz (.str ls)), some (.fz (.str one)), some (.fz (.str other)), some (.fz wr), a9, a10, a11, a12, a13] := by
  simp only [ws, List.mem_cons, List.not_mem_nil, or_false] at hw
  rcases hw with rfl | rfl | rfl | rfl <;> (simp [wrongs, List.replicate] at e; simp [runDef, exSs, exS.eq_1, exS.eq_2, exS.eq_3, exS.eq_4, exS.eq_5, exS.eq_6, exS.eq_7, exS.eq_8, exS.eq_11, exS.eq_12, exS.eq_13, exS.eq_14, exS.eq_15, exS.eq_16, exS.eq_17, evR.eq_1, evR.eq_2, evR.eq_3, evR.eq_4, evR.eq_5, evR.eq_6, evR.eq_7, evR.eq_8, evR.eq_9, evR.eq_10, evR.eq_11, evR.eq_12, evR.eq_13, evR.eq_14, evR.eq_15, evR.eq_16, evR.eq_17, evR.eq_18, evR.eq_19, evR.eq_20, evR.eq_21, evR.eq_22, evP, evAs, evT, evEs, evFs, evD, evO, evC, evIt, ownAt, getS, SV.val, R.bind, runCall, argsOf, argOf, lentOf, noDup, isOwn, env_call, env_glo, env_sup, env_perm, env_fuel, backS, reread, liftO, ofR, ofO, b2, u1, bInt, bAdd, bEq, bLt, bIs, bIx, isNon, outC, heldAll, outOf, keepS, setS, setFs, mkSV, wipeS, backW, tgSet, setAll, itemsOf, noErr, recvOk, truth, isTy, PV.plain, plainAll, PV.deep, deepAll, line, law_16, bMul, e, List.replicate])
def told1 (w : Nat) (one other ls : List Nat) : PV := .lst [.bl true, .bl false, .tup ((rowsN w).map PV.str), .str (lw w), .str (und one ls), .bl (und one ls == und other ls)]
theorem st15 (e9 : c 9 [.fz (.int w), .fz (.str one)] = .ok (false, .bl true) [.fz (.int w), .fz (.str one)]) (e9w : c 9 [.fz (.int w), .fz wr] = .ok (false, .bl false) [.fz (.int w), .fz wr]) (e10 : c 10 [.fz (.int w)] = .ok (false, .tup ((rowsN w).map PV.str)) [.fz (.int w)]) (e11 : c 11 [.fz (.int w)] = .ok (false, .str (lw w)) [.fz (.int w)])
  (e13 : c 13 [.fz (.int w), .fz (.str one), .fz (.str ls)] = .ok (false, .str (und one ls)) [.fz (.int w), .fz (.str one), .fz (.str ls)]) (e14 : c 14 [.fz (.int w), .fz (.str one), .fz (.str other), .fz (.str ls)] = .ok (false, .bl (und one ls == und other ls)) [.fz (.int w), .fz (.str one), .fz (.str other), .fz (.str ls)]) : exS (prog.env c) [] law_15 [some (.fz sc), some (.own d), a2, some (.fz (.int w)), some (.fz (rowsP w)), some (.fz (.str ls)), some (.fz (.str one)), some (.fz (.str other)), some (.fz wr), a9, a10, a11, a12, a13] = .next [some (.fz sc), some (.own d), a2, some (.fz (.int w)), some (.fz (rowsP w)), some (.fz (.str ls)), some (.fz (.str one)), some (.fz (.str other)), some (.fz wr), some (.own (told1 w one other ls)), a10, a11, a12, a13] := by
  simp [runDef, exSs, exS.eq_1, exS.eq_2, exS.eq_3, exS.eq_4, exS.eq_5, exS.eq_6, exS.eq_7, exS.eq_8, exS.eq_11, exS.eq_12, exS.eq_13, exS.eq_14, exS.eq_15, exS.eq_16, exS.eq_17, evR.eq_1, evR.eq_2, evR.eq_3, evR.eq_4, evR.eq_5, evR.eq_6, evR.eq_7, evR.eq_8, evR.eq_9, evR.eq_10, evR.eq_11, evR.eq_12, evR.eq_13, evR.eq_14, evR.eq_15, evR.eq_16, evR.eq_17, evR.eq_18, evR.eq_19, evR.eq_20, evR.eq_21, evR.eq_22, evP, evAs, evT, evEs, evFs, evD, evO, evC, evIt, ownAt, getS, SV.val, R.bind, runCall, argsOf, argOf, lentOf, noDup, isOwn, env_call, env_glo, env_sup, env_perm, env_fuel, backS, reread, liftO, ofR, ofO, b2, u1, bInt, bAdd, bEq, bLt, bIs, bIx, isNon, outC, heldAll, outOf, keepS, setS, setFs, mkSV, wipeS, backW, tgSet, setAll, itemsOf, noErr, recvOk, truth, isTy, PV.plain, plainAll, PV.deep, deepAll, line, law_15, e9, e9w, e10, e11, e13, e14, permL, perm4, told1]
theorem st14 (e27 : c 27 [.fz (.str one), .fz (.str ls)] = .ok (false, .str (und one ls)) [.fz (.str one), .fz (.str ls)]) (e27b : c 27 [.fz (.str other), .fz (.str ls)] = .ok (false, .str (und other ls)) [.fz (.str other), .fz (.str ls)]) (ec : cutL [97, 98, 99, 100] none (some (w : Int)) = lw w)
  (es : c 23 [.own (told1 w one other ls), .fz (told1 w one other ls)] = .ok (false, .bl true) [.fz (told1 w one other ls), .fz (told1 w one other ls)]) : exS (prog.env c) [] law_14 [some (.fz sc), some (.own d), a2, some (.fz (.int w)), some (.fz (rowsP w)), some (.fz (.str ls)), some (.fz (.str one)), some (.fz (.str other)), some (.fz wr), some (.own (told1 w one other ls)), a10, a11, a12, a13] = .next [some (.fz sc), some (.own d), a2, some (.fz (.int w)), some (.fz (rowsP w)), some (.fz (.str ls)), some (.fz (.str one)), some (.fz (.str other)), some (.fz wr), some (.fz (told1 w one other ls)), a10, a11, a12, a13] := by
  simp only [told1] at es
  simp [runDef, exSs, exS.eq_1, exS.eq_2, exS.eq_3, exS.eq_4, exS.eq_5, exS.eq_6, exS.eq_7, exS.eq_8, exS.eq_11, exS.eq_12, exS.eq_13, exS.eq_14, exS.eq_15, exS.eq_16, exS.eq_17, evR.eq_1, evR.eq_2, evR.eq_3, evR.eq_4, evR.eq_5, evR.eq_6, evR.eq_7, evR.eq_8, evR.eq_9, evR.eq_10, evR.eq_11, evR.eq_12, evR.eq_13, evR.eq_14, evR.eq_15, evR.eq_16, evR.eq_17, evR.eq_18, evR.eq_19, evR.eq_20, evR.eq_21, evR.eq_22, evP, evAs, evT, evEs, evFs, evD, evO, evC, evIt, ownAt, getS, SV.val, R.bind, runCall, argsOf, argOf, lentOf, noDup, isOwn, env_call, env_glo, env_sup, env_perm, env_fuel, backS, reread, liftO, ofR, ofO, b2, u1, bInt, bAdd, bEq, bLt, bIs, bIx, isNon, outC, heldAll, outOf, keepS, setS, setFs, mkSV, wipeS, backW, tgSet, setAll, itemsOf, noErr, recvOk, truth, isTy, PV.plain, plainAll, PV.deep, deepAll, line, law_14, e27, e27b, ec, es, told1, rowsP, eqv]
theorem st13 (ef : findEq (.str one) ((rowsN w).map PV.str) 0 = some (ix w one)) : exS (prog.env c) [] law_13 [some (.fz sc), some (.own d), a2, some (.fz (.int w)), some (.fz (rowsP w)), some (.fz (.str ls)), some (.fz (.str one)), some (.fz (.str other)), some (.fz wr), a9, a10, a11, a12, a13] = .next [some (.fz sc), some (.own d), a2, some (.fz (.int w)), some (.fz (rowsP w)), some (.fz (.str ls)), some (.fz (.str one)), some (.fz (.str other)), some (.fz wr), a9, some (.fz (.int (ix w one))), a11, a12, a13] := by
  simp [runDef, exSs, exS.eq_1, exS.eq_2, exS.eq_3, exS.eq_4, exS.eq_5, exS.eq_6, exS.eq_7, exS.eq_8, exS.eq_11, exS.eq_12, exS.eq_13, exS.eq_14, exS.eq_15, exS.eq_16, exS.eq_17, evR.eq_1, evR.eq_2, evR.eq_3, evR.eq_4, evR.eq_5, evR.eq_6, evR.eq_7, evR.eq_8, evR.eq_9, evR.eq_10, evR.eq_11, evR.eq_12, evR.eq_13, evR.eq_14, evR.eq_15, evR.eq_16, evR.eq_17, evR.eq_18, evR.eq_19, evR.eq_20, evR.eq_21, evR.eq_22, evP, evAs, evT, evEs, evFs, evD, evO, evC, evIt, ownAt, getS, SV.val, R.bind, runCall, argsOf, argOf, lentOf, noDup, isOwn, env_call, env_glo, env_sup, env_perm, env_fuel, backS, reread, liftO, ofR, ofO, b2, u1, bInt, bAdd, bEq, bLt, bIs, bIx, isNon, outC, heldAll, outOf, keepS, setS, setFs, mkSV, wipeS, backW, tgSet, setAll, itemsOf, noErr, recvOk, truth, isTy, PV.plain, plainAll, PV.deep, deepAll, line, law_13, bLfind, ef, plain_str, rowsP]
def told2 (w : Nat) (one ls : List Nat) : PV := .lst [.int (ix w one), .str one, .int (ix w one), .str one, .str (und one ls)]
theorem st12 (e15 : c 15 [.fz (.int w), .fz (.str one)] = .ok (false, .int (ix w one)) [.fz (.int w), .fz (.str one)]) (e16 : c 16 [.fz (.int w), .fz (.int (ix w one))] = .ok (false, .str one) [.fz (.int w), .fz (.int (ix w one))]) (e13 : c 13 [.fz (.int w), .fz (.str one), .fz (.str ls)] = .ok (false, .str (und one ls)) [.fz (.int w), .fz (.str one), .fz (.str ls)]) : exS (prog.env c) [] law_12 [some (.fz sc), some (.own d), a2, some (.fz (.int w)), some (.fz (rowsP w)), some (.fz (.str ls)), some (.fz (.str one)), some (.fz (.str other)), some (.fz wr), a9, some (.fz (.int (ix w one))), a11, a12, a13] = .next [some (.fz sc), some (.own d), a2, some (.fz (.int w)), some (.fz (rowsP w)), some (.fz (.str ls)), some (.fz (.str one)), some (.fz (.str other)), some (.fz wr), some (.own (told2 w one ls)), some (.fz (.int (ix w one))), a11, a12, a13] := by
  simp [runDef, exSs, exS.eq_1, exS.eq_2, exS.eq_3, exS.eq_4, exS.eq_5, exS.eq_6, exS.eq_7, exS.eq_8, exS.eq_11, exS.eq_12, exS.eq_13, exS.eq_14, exS.eq_15, exS.eq_16, exS.eq_17, evR.eq_1, evR.eq_2, evR.eq_3, evR.eq_4, evR.eq_5, evR.eq_6, evR.eq_7, evR.eq_8, evR.eq_9, evR.eq_10, evR.eq_11, evR.eq_12, evR.eq_13, evR.eq_14, evR.eq_15, evR.eq_16, evR.eq_17, evR.eq_18, evR.eq_19, evR.eq_20, evR.eq_21, evR.eq_22, evP, evAs, evT, evEs, evFs, evD, evO, evC, evIt, ownAt, getS, SV.val, R.bind, runCall, argsOf, argOf, lentOf, noDup, isOwn, env_call, env_glo, env_sup, env_perm, env_fuel, backS, reread, liftO, ofR, ofO, b2, u1, bInt, bAdd, bEq, bLt, bIs, bIx, isNon, outC, heldAll, outOf, keepS, setS, setFs, mkSV, wipeS, backW, tgSet, setAll, itemsOf, noErr, recvOk, truth, isTy, PV.plain, plainAll, PV.deep, deepAll, line, law_12, e15, e16, e13, permL, perm1, perm2, perm3, told2]
theorem st11 (e27 : c 27 [.fz (.str one), .fz (.str ls)] = .ok (false, .str (und one ls)) [.fz (.str one), .fz (.str ls)]) (es : c 23 [.own (told2 w one ls), .fz (told2 w one ls)] = .ok (false, .bl true) [.fz (told2 w one ls), .fz (told2 w one ls)]) (e14 : c 14 [.fz (.int w), .fz (.str one), .fz (.str one), .fz (.str ls)] = .ok (false, .bl (und one ls == und one ls)) [.fz (.int w), .fz (.str one), .fz (.str one), .fz (.str ls)])
  (es2 : c 23 [.fz (.bl true), .fz (.bl true)] = .ok (false, .bl true) [.fz (.bl true), .fz (.bl true)]) : exS (prog.env c) [] law_11 [some (.fz sc), some (.own d), a2, some (.fz (.int w)), some (.fz (rowsP w)), some (.fz (.str ls)), some (.fz (.str one)), some (.fz (.str other)), some (.fz wr), some (.own (told2 w one ls)), some (.fz (.int (ix w one))), a11, a12, a13] = .next [some (.fz sc), some (.own d), a2, some (.fz (.int w)), some (.fz (rowsP w)), some (.fz (.str ls)), some (.fz (.str one)), some (.fz (.str other)), some (.fz wr), some (.fz (told2 w one ls)), some (.fz (.int (ix w one))), a11, a12, a13] := by
  simp only [told2] at es
  simp [runDef, exSs, exS.eq_1, exS.eq_2, exS.eq_3, exS.eq_4, exS.eq_5, exS.eq_6, exS.eq_7, exS.eq_8, exS.eq_11, exS.eq_12, exS.eq_13, exS.eq_14, exS.eq_15, exS.eq_16, exS.eq_17, evR.eq_1, evR.eq_2, evR.eq_3, evR.eq_4, evR.eq_5, evR.eq_6, evR.eq_7, evR.eq_8, evR.eq_9, evR.eq_10, evR.eq_11, evR.eq_12, evR.eq_13, evR.eq_14, evR.eq_15, evR.eq_16, evR.eq_17, evR.eq_18, evR.eq_19, evR.eq_20, evR.eq_21, evR.eq_22, evP, evAs, evT, evEs, evFs, evD, evO, evC, evIt, ownAt, getS, SV.val, R.bind, runCall, argsOf, argOf, lentOf, noDup, isOwn, env_call, env_glo, env_sup, env_perm, env_fuel, backS, reread, liftO, ofR, ofO, b2, u1, bInt, bAdd, bEq, bLt, bIs, bIx, isNon, outC, heldAll, outOf, keepS, setS, setFs, mkSV, wipeS, backW, tgSet, setAll, itemsOf, noErr, recvOk, truth, isTy, PV.plain, plainAll, PV.deep, deepAll, line, law_11, e27, es, e14, es2, permL, perm0, told2]
theorem st10 (hw : w ∈ ws) (e : c 20 [.own d, .fz (.lst (odds w))] = .ok (false, od) [.own d', .fz (.lst (odds w))]) : exS (prog.env c) [] law_10 [some (.fz sc), some (.own d), a2, some (.fz (.int w)), some (.fz (rowsP w)), some (.fz (.str ls)), some (.fz (.str one)), some (.fz (.str other)), some (.fz wr), a9, some (.fz (.int (ix w one))), a11, a12, a13] = .next [some (.fz sc), some (.own d'), a2, some (.fz (.int w)), some (.fz (rowsP w)), some (.fz (.str ls)), some (.fz (.str one)), some (.fz (.str other)), some (.fz wr), a9, some (.fz (.int (ix w one))), some (.fz od), a12, a13] := by
  simp only [ws, List.mem_cons, List.not_mem_nil, or_false] at hw
  rcases hw with rfl | rfl | rfl | rfl <;> (simp [odds, lw] at e; simp [runDef, exSs, exS.eq_1, exS.eq_2, exS.eq_3, exS.eq_4, exS.eq_5, exS.eq_6, exS.eq_7, exS.eq_8, exS.eq_11, exS.eq_12, exS.eq_13, exS.eq_14, exS.eq_15, exS.eq_16, exS.eq_17, evR.eq_1, evR.eq_2, evR.eq_3, evR.eq_4, evR.eq_5, evR.eq_6, evR.eq_7, evR.eq_8, evR.eq_9, evR.eq_10, evR.eq_11, evR.eq_12, evR.eq_13, evR.eq_14, evR.eq_15, evR.eq_16, evR.eq_17, evR.eq_18, evR.eq_19, evR.eq_20, evR.eq_21, evR.eq_22, evP, evAs, evT, evEs, evFs, evD, evO, evC, evIt, ownAt, getS, SV.val, R.bind, runCall, argsOf, argOf, lentOf, noDup, isOwn, env_call, env_glo, env_sup, env_perm, env_fuel, backS, reread, liftO, ofR, ofO, b2, u1, bInt, bAdd, bEq, bLt, bIs, bIx, isNon, outC, heldAll, outOf, keepS, setS, setFs, mkSV, wipeS, backW, tgSet, setAll, itemsOf, noErr, recvOk, truth, isTy, PV.plain, plainAll, PV.deep, deepAll, line, law_10, e, cutL, sIx])
theorem st9 {x1 x2 x3 : PV} {d1 d2 d3 : PV} (n1 : c 24 [.own d, .fz (.int 1), .fz (.int 4)] = .ok (false, x1) [.own d1, .fz (.int 1), .fz (.int 4)]) (n2 : c 24 [.own d1, .fz (.int 1), .fz (.int 4)] = .ok (false, x2) [.own d2, .fz (.int 1), .fz (.int 4)]) (n3 : c 24 [.own d2, .fz (.int 1), .fz (.int 4)] = .ok (false, x3) [.own d3, .fz (.int 1), .fz (.int 4)])
  (g1 : c 9 [.fz x1, .fz .non] = .err 1 [] [.fz x1, .fz .non]) (g2 : c 15 [.fz x2, .fz .non] = .err 1 [] [.fz x2, .fz .non]) (g3 : c 16 [.fz x3, .fz .non] = .err 1 [] [.fz x3, .fz .non]) : exS (prog.env c) [] law_9 [some (.fz sc), some (.own d), a2, some (.fz (.int w)), some (.fz (rowsP w)), some (.fz (.str ls)), some (.fz (.str one)), some (.fz (.str other)), some (.fz wr), a9, some (.fz (.int (ix w one))), some (.fz od), a12, none] = .next [some (.fz sc), some (.own d3), a2, some (.fz (.int w)), some (.fz (rowsP w)), some (.fz (.str ls)), some (.fz (.str one)), some (.fz (.str other)), some (.fz wr), a9, some (.fz (.int (ix w one))), some (.fz od), some (.own (.lst [.bl true, .bl true, .bl true])), none] := by
  have hc : evR (prog.env c) (.comp (.isi (.e (.caught (.callv 13 (.e (.call 24 (.l 1 (.e (.cn (.int 1)) (.e (.cn (.int 4)) .nil)))) (.e (.cn .non) .nil))))) [.cls 1]) (.nm 13) (.seq (.lst (.cons (.fnv 9) (.cons (.fnv 15) (.cons (.fnv 16) .nil))))) .no [13]) [some (.fz sc), some (.own d), a2, some (.fz (.int w)), some (.fz (rowsP w)), some (.fz (.str ls)), some (.fz (.str one)), some (.fz (.str other)), some (.fz wr), a9, some (.fz (.int (ix w one))), some (.fz od), a12, none] = .ok (true, .lst [.bl true, .bl true, .bl true]) [some (.fz sc), some (.own d3), a2, some (.fz (.int w)), some (.fz (rowsP w)), some (.fz (.str ls)), some (.fz (.str one)), some (.fz (.str other)), some (.fz wr), a9, some (.fz (.int (ix w one))), some (.fz od), a12, none] := by
    rw [comp_eq (s1 := [some (.fz sc), some (.own d), a2, some (.fz (.int w)), some (.fz (rowsP w)), some (.fz (.str ls)), some (.fz (.str one)), some (.fz (.str other)), some (.fz wr), a9, some (.fz (.int (ix w one))), some (.fz od), a12, none]) (s2 := [some (.fz sc), some (.own d), a2, some (.fz (.int w)), some (.fz (rowsP w)), some (.fz (.str ls)), some (.fz (.str one)), some (.fz (.str other)), some (.fz wr), a9, some (.fz (.int (ix w one))), some (.fz od), a12, none]) (xs := [.fn 9, .fn 15, .fn 16]) (by simp [runDef, exSs, exS.eq_1, exS.eq_2, exS.eq_3, exS.eq_4, exS.eq_5, exS.eq_6, exS.eq_7, exS.eq_8, exS.eq_11, exS.eq_12, exS.eq_13, exS.eq_14, exS.eq_15, exS.eq_16, exS.eq_17, evR.eq_1, evR.eq_2, evR.eq_3, evR.eq_4, evR.eq_5, evR.eq_6, evR.eq_7, evR.eq_8, evR.eq_9, evR.eq_10, evR.eq_11, evR.eq_12, evR.eq_13, evR.eq_14, evR.eq_15, evR.eq_16, evR.eq_17, evR.eq_18, evR.eq_19, evR.eq_20, evR.eq_21, evR.eq_22, evP, evAs, evT, evEs, evFs, evD, evO, evC, evIt, ownAt, getS, SV.val, R.bind, runCall, argsOf, argOf, lentOf, noDup, isOwn, env_call, env_glo, env_sup, env_perm, env_fuel, backS, reread, liftO, ofR, ofO, b2, u1, bInt, bAdd, bEq, bLt, bIs, bIx, isNon, outC, heldAll, outOf, keepS, setS, setFs, mkSV, wipeS, backW, tgSet, setAll, itemsOf, noErr, recvOk, truth, isTy, PV.plain, plainAll, PV.deep, deepAll, line]) (by decide) (by simp [runDef, exSs, exS.eq_1, exS.eq_2, exS.eq_3, exS.eq_4, exS.eq_5, exS.eq_6, exS.eq_7, exS.eq_8, exS.eq_11, exS.eq_12, exS.eq_13, exS.eq_14, exS.eq_15, exS.eq_16, exS.eq_17, evR.eq_1, evR.eq_2, evR.eq_3, evR.eq_4, evR.eq_5, evR.eq_6, evR.eq_7, evR.eq_8, evR.eq_9, evR.eq_10, evR.eq_11, evR.eq_12, evR.eq_13, evR.eq_14, evR.eq_15, evR.eq_16, evR.eq_17, evR.eq_18, evR.eq_19, evR.eq_20, evR.eq_21, evR.eq_22, evP, evAs, evT, evEs, evFs, evD, evO, evC, evIt, ownAt, getS, SV.val, R.bind, runCall, argsOf, argOf, lentOf, noDup, isOwn, env_call, env_glo, env_sup, env_perm, env_fuel, backS, reread, liftO, ofR, ofO, b2, u1, bInt, bAdd, bEq, bLt, bIs, bIx, isNon, outC, heldAll, outOf, keepS, setS, setFs, mkSV, wipeS, backW, tgSet, setAll, itemsOf, noErr, recvOk, truth, isTy, PV.plain, plainAll, PV.deep, deepAll, line])]
    simp [runDef, exSs, exS.eq_1, exS.eq_2, exS.eq_3, exS.eq_4, exS.eq_5, exS.eq_6, exS.eq_7, exS.eq_8, exS.eq_11, exS.eq_12, exS.eq_13, exS.eq_14, exS.eq_15, exS.eq_16, exS.eq_17, evR.eq_1, evR.eq_2, evR.eq_3, evR.eq_4, evR.eq_5, evR.eq_6, evR.eq_7, evR.eq_8, evR.eq_9, evR.eq_10, evR.eq_11, evR.eq_12, evR.eq_13, evR.eq_14, evR.eq_15, evR.eq_16, evR.eq_17, evR.eq_18, evR.eq_19, evR.eq_20, evR.eq_21, evR.eq_22, evP, evAs, evT, evEs, evFs, evD, evO, evC, evIt, ownAt, getS, SV.val, R.bind, runCall, argsOf, argOf, lentOf, noDup, isOwn, env_call, env_glo, env_sup, env_perm, env_fuel, backS, reread, liftO, ofR, ofO, b2, u1, bInt, bAdd, bEq, bLt, bIs, bIx, isNon, outC, heldAll, outOf, keepS, setS, setFs, mkSV, wipeS, backW, tgSet, setAll, itemsOf, noErr, recvOk, truth, isTy, PV.plain, plainAll, PV.deep, deepAll, line, compL, turnQ, n1, n2, n3, g1, g2, g3, sup10, sup11]
  simp [runDef, exSs, exS.eq_1, exS.eq_2, exS.eq_3, exS.eq_4, exS.eq_5, exS.eq_6, exS.eq_7, exS.eq_8, exS.eq_11, exS.eq_12, exS.eq_13, exS.eq_14, exS.eq_15, exS.eq_16, exS.eq_17, evR.eq_1, evR.eq_2, evR.eq_3, evR.eq_4, evR.eq_5, evR.eq_6, evR.eq_7, evR.eq_8, evR.eq_9, evR.eq_10, evR.eq_11, evR.eq_12, evR.eq_13, evR.eq_14, evR.eq_15, evR.eq_16, evR.eq_17, evR.eq_18, evR.eq_19, evR.eq_20, evR.eq_21, evR.eq_22, evP, evAs, evT, evEs, evFs, evD, evO, evC, evIt, ownAt, getS, SV.val, R.bind, runCall, argsOf, argOf, lentOf, noDup, isOwn, env_call, env_glo, env_sup, env_perm, env_fuel, backS, reread, liftO, ofR, ofO, b2, u1, bInt, bAdd, bEq, bLt, bIs, bIx, isNon, outC, heldAll, outOf, keepS, setS, setFs, mkSV, wipeS, backW, tgSet, setAll, itemsOf, noErr, recvOk, truth, isTy, PV.plain, plainAll, PV.deep, deepAll, line, law_9, hc]
theorem st8 {x1 d1 : PV} (n1 : c 24 [.own d, .fz (.int 1), .fz (.int 4)] = .ok (false, x1) [.own d1, .fz (.int 1), .fz (.int 4)]) (g1 : c 10 [.fz x1] = .err 1 [] [.fz x1]) : exS (prog.env c) [] law_8 [some (.fz sc), some (.own d), a2, some (.fz (.int w)), some (.fz (rowsP w)), some (.fz (.str ls)), some (.fz (.str one)), some (.fz (.str other)), some (.fz wr), a9, some (.fz (.int (ix w one))), some (.fz od), some (.own (.lst [.bl true, .bl true, .bl true])), none] = .next [some (.fz sc), some (.own d1), a2, some (.fz (.int w)), some (.fz (rowsP w)), some (.fz (.str ls)), some (.fz (.str one)), some (.fz (.str other)), some (.fz wr), a9, some (.fz (.int (ix w one))), some (.fz od), some (.own (.lst [.bl true, .bl true, .bl true, .bl true])), none] := by
  simp [runDef, exSs, exS.eq_1, exS.eq_2, exS.eq_3, exS.eq_4, exS.eq_5, exS.eq_6, exS.eq_7, exS.eq_8, exS.eq_11, exS.eq_12, exS.eq_13, exS.eq_14, exS.eq_15, exS.eq_16, exS.eq_17, evR.eq_1, evR.eq_2, evR.eq_3, evR.eq_4, evR.eq_5, evR.eq_6, evR.eq_7, evR.eq_8, evR.eq_9, evR.eq_10, evR.eq_11, evR.eq_12, evR.eq_13, evR.eq_14, evR.eq_15, evR.eq_16, evR.eq_17, evR.eq_18, evR.eq_19, evR.eq_20, evR.eq_21, evR.eq_22, evP, evAs, evT, evEs, evFs, evD, evO, evC, evIt, ownAt, getS, SV.val, R.bind, runCall, argsOf, argOf, lentOf, noDup, isOwn, env_call, env_glo, env_sup, env_perm, env_fuel, backS, reread, liftO, ofR, ofO, b2, u1, bInt, bAdd, bEq, bLt, bIs, bIx, isNon, outC, heldAll, outOf, keepS, setS, setFs, mkSV, wipeS, backW, tgSet, setAll, itemsOf, noErr, recvOk, truth, isTy, PV.plain, plainAll, PV.deep, deepAll, line, law_8, n1, g1, sup10, sup11]
theorem st7 (g1 : c 13 [.fz (.int w), .fz wr, .fz .non] = .err 2 [] [.fz (.int w), .fz wr, .fz .non]) : exS (prog.env c) [] law_7 [some (.fz sc), some (.own d), a2, some (.fz (.int w)), some (.fz (rowsP w)), some (.fz (.str ls)), some (.fz (.str one)), some (.fz (.str other)), some (.fz wr), a9, some (.fz (.int (ix w one))), some (.fz od), some (.own (.lst [.bl true, .bl true, .bl true, .bl true])), none] = .next [some (.fz sc), some (.own d), a2, some (.fz (.int w)), some (.fz (rowsP w)), some (.fz (.str ls)), some (.fz (.str one)), some (.fz (.str other)), some (.fz wr), a9, some (.fz (.int (ix w one))), some (.fz od), some (.own (.lst [.bl true, .bl true, .bl true, .bl true, .bl true])), none] := by
  simp [runDef, exSs, exS.eq_1, exS.eq_2, exS.eq_3, exS.eq_4, exS.eq_5, exS.eq_6, exS.eq_7, exS.eq_8, exS.eq_11, exS.eq_12, exS.eq_13, exS.eq_14, exS.eq_15, exS.eq_16, exS.eq_17, evR.eq_1, evR.eq_2, evR.eq_3, evR.eq_4, evR.eq_5, evR.eq_6, evR.eq_7, evR.eq_8, evR.eq_9, evR.eq_10, evR.eq_11, evR.eq_12, evR.eq_13, evR.eq_14, evR.eq_15, evR.eq_16, evR.eq_17, evR.eq_18, evR.eq_19, evR.eq_20, evR.eq_21, evR.eq_22, evP, evAs, evT, evEs, evFs, evD, evO, evC, evIt, ownAt, getS, SV.val, R.bind, runCall, argsOf, argOf, lentOf, noDup, isOwn, env_call, env_glo, env_sup, env_perm, env_fuel, backS, reread, liftO, ofR, ofO, b2, u1, bInt, bAdd, bEq, bLt, bIs, bIx, isNon, outC, heldAll, outOf, keepS, setS, setFs, mkSV, wipeS, backW, tgSet, setAll, itemsOf, noErr, recvOk, truth, isTy, PV.plain, plainAll, PV.deep, deepAll, line, law_7, g1, sup20, sup22]
theorem st6 (g1 : c 13 [.fz (.int w), .fz (.str one), .fz od] = .err 3 [] [.fz (.int w), .fz (.str one), .fz od]) : exS (prog.env c) [] law_6 [some (.fz sc), some (.own d), a2, some (.fz (.int w)), some (.fz (rowsP w)), some (.fz (.str ls)), some (.fz (.str one)), some (.fz (.str other)), some (.fz wr), a9, some (.fz (.int (ix w one))), some (.fz od), some (.own (.lst [.bl true, .bl true, .bl true, .bl true, .bl true])), none] = .next [some (.fz sc), some (.own d), a2, some (.fz (.int w)), some (.fz (rowsP w)), some (.fz (.str ls)), some (.fz (.str one)), some (.fz (.str other)), some (.fz wr), a9, some (.fz (.int (ix w one))), some (.fz od), some (.own (.lst [.bl true, .bl true, .bl true, .bl true, .bl true, .bl true])), none] := by
  simp [runDef, exSs, exS.eq_1, exS.eq_2, exS.eq_3, exS.eq_4, exS.eq_5, exS.eq_6, exS.eq_7, exS.eq_8, exS.eq_11, exS.eq_12, exS.eq_13, exS.eq_14, exS.eq_15, exS.eq_16, exS.eq_17, evR.eq_1, evR.eq_2, evR.eq_3, evR.eq_4, evR.eq_5, evR.eq_6, evR.eq_7, evR.eq_8, evR.eq_9, evR.eq_10, evR.eq_11, evR.eq_12, evR.eq_13, evR.eq_14, evR.eq_15, evR.eq_16, evR.eq_17, evR.eq_18, evR.eq_19, evR.eq_20, evR.eq_21, evR.eq_22, evP, evAs, evT, evEs, evFs, evD, evO, evC, evIt, ownAt, getS, SV.val, R.bind, runCall, argsOf, argOf, lentOf, noDup, isOwn, env_call, env_glo, env_sup, env_perm, env_fuel, backS, reread, liftO, ofR, ofO, b2, u1, bInt, bAdd, bEq, bLt, bIs, bIx, isNon, outC, heldAll, outOf, keepS, setS, setFs, mkSV, wipeS, backW, tgSet, setAll, itemsOf, noErr, recvOk, truth, isTy, PV.plain, plainAll, PV.deep, deepAll, line, law_6, g1, sup30, sup33]
theorem st5 (g1 : c 14 [.fz (.int w), .fz wr, .fz .non, .fz .non] = .err 4 [] [.fz (.int w), .fz wr, .fz .non, .fz .non]) : exS (prog.env c) [] law_5 [some (.fz sc), some (.own d), a2, some (.fz (.int w)), some (.fz (rowsP w)), some (.fz (.str ls)), some (.fz (.str one)), some (.fz (.str other)), some (.fz wr), a9, some (.fz (.int (ix w one))), some (.fz od), some (.own (.lst [.bl true, .bl true, .bl true, .bl true, .bl true, .bl true])), none] = .next [some (.fz sc), some (.own d), a2, some (.fz (.int w)), some (.fz (rowsP w)), some (.fz (.str ls)), some (.fz (.str one)), some (.fz (.str other)), some (.fz wr), a9, some (.fz (.int (ix w one))), some (.fz od), some (.own (.lst [.bl true, .bl true, .bl true, .bl true, .bl true, .bl true, .bl true])), none] := by
  simp [runDef, exSs, exS.eq_1, exS.eq_2, exS.eq_3, exS.eq_4, exS.eq_5, exS.eq_6, exS.eq_7, exS.eq_8, exS.eq_11, exS.eq_12, exS.eq_13, exS.eq_14, exS.eq_15, exS.eq_16, exS.eq_17, evR.eq_1, evR.eq_2, evR.eq_3, evR.eq_4, evR.eq_5, evR.eq_6, evR.eq_7, evR.eq_8, evR.eq_9, evR.eq_10, evR.eq_11, evR.eq_12, evR.eq_13, evR.eq_14, evR.eq_15, evR.eq_16, evR.eq_17, evR.eq_18, evR.eq_19, evR.eq_20, evR.eq_21, evR.eq_22, evP, evAs, evT, evEs, evFs, evD, evO, evC, evIt, ownAt, getS, SV.val, R.bind, runCall, argsOf, argOf, lentOf, noDup, isOwn, env_call, env_glo, env_sup, env_perm, env_fuel, backS, reread, liftO, ofR, ofO, b2, u1, bInt, bAdd, bEq, bLt, bIs, bIx, isNon, outC, heldAll, outOf, keepS, setS, setFs, mkSV, wipeS, backW, tgSet, setAll, itemsOf, noErr, recvOk, truth, isTy, PV.plain, plainAll, PV.deep, deepAll, line, law_5, g1, sup40, sup44]
theorem st4 (g1 : c 14 [.fz (.int w), .fz (.str one), .fz wr, .fz .non] = .err 5 [] [.fz (.int w), .fz (.str one), .fz wr, .fz .non]) : exS (prog.env c) [] law_4 [some (.fz sc), some (.own d), a2, some (.fz (.int w)), some (.fz (rowsP w)), some (.fz (.str ls)), some (.fz (.str one)), some (.fz (.str other)), some (.fz wr), a9, some (.fz (.int (ix w one))), some (.fz od), some (.own (.lst [.bl true, .bl true, .bl true, .bl true, .bl true, .bl true, .bl true])), none] = .next [some (.fz sc), some (.own d), a2, some (.fz (.int w)), some (.fz (rowsP w)), some (.fz (.str ls)), some (.fz (.str one)), some (.fz (.str other)), some (.fz wr), a9, some (.fz (.int (ix w one))), some (.fz od), some (.own (.lst [.bl true, .bl true, .bl true, .bl true, .bl true, .bl true, .bl true, .bl true])), none] := by
  simp [runDef, exSs, exS.eq_1, exS.eq_2, exS.eq_3, exS.eq_4, exS.eq_5, exS.eq_6, exS.eq_7, exS.eq_8, exS.eq_11, exS.eq_12, exS.eq_13, exS.eq_14, exS.eq_15, exS.eq_16, exS.eq_17, evR.eq_1, evR.eq_2, evR.eq_3, evR.eq_4, evR.eq_5, evR.eq_6, evR.eq_7, evR.eq_8, evR.eq_9, evR.eq_10, evR.eq_11, evR.eq_12, evR.eq_13, evR.eq_14, evR.eq_15, evR.eq_16, evR.eq_17, evR.eq_18, evR.eq_19, evR.eq_20, evR.eq_21, evR.eq_22, evP, evAs, evT, evEs, evFs, evD, evO, evC, evIt, ownAt, getS, SV.val, R.bind, runCall, argsOf, argOf, lentOf, noDup, isOwn, env_call, env_glo, env_sup, env_perm, env_fuel, backS, reread, liftO, ofR, ofO, b2, u1, bInt, bAdd, bEq, bLt, bIs, bIx, isNon, outC, heldAll, outOf, keepS, setS, setFs, mkSV, wipeS, backW, tgSet, setAll, itemsOf, noErr, recvOk, truth, isTy, PV.plain, plainAll, PV.deep, deepAll, line, law_4, g1, sup50, sup55]
theorem st3 (g1 : c 15 [.fz (.int w), .fz wr] = .err 2 [] [.fz (.int w), .fz wr]) : exS (prog.env c) [] law_3 [some (.fz sc), some (.own d), a2, some (.fz (.int w)), some (.fz (rowsP w)), some (.fz (.str ls)), some (.fz (.str one)), some (.fz (.str other)), some (.fz wr), a9, some (.fz (.int (ix w one))), some (.fz od), some (.own (.lst [.bl true, .bl true, .bl true, .bl true, .bl true, .bl true, .bl true, .bl true])), none] = .next [some (.fz sc), some (.own d), a2, some (.fz (.int w)), some (.fz (rowsP w)), some (.fz (.str ls)), some (.fz (.str one)), some (.fz (.str other)), some (.fz wr), a9, some (.fz (.int (ix w one))), some (.fz od), some (.own (.lst [.bl true, .bl true, .bl true, .bl true, .bl true, .bl true, .bl true, .bl true, .bl true])), none] := by
  simp [runDef, exSs, exS.eq_1, exS.eq_2, exS.eq_3, exS.eq_4, exS.eq_5, exS.eq_6, exS.eq_7, exS.eq_8, exS.eq_11, exS.eq_12, exS.eq_13, exS.eq_14, exS.eq_15, exS.eq_16, exS.eq_17, evR.eq_1, evR.eq_2, evR.eq_3, evR.eq_4, evR.eq_5, evR.eq_6, evR.eq_7, evR.eq_8, evR.eq_9, evR.eq_10, evR.eq_11, evR.eq_12, evR.eq_13, evR.eq_14, evR.eq_15, evR.eq_16, evR.eq_17, evR.eq_18, evR.eq_19, evR.eq_20, evR.eq_21, evR.eq_22, evP, evAs, evT, evEs, evFs, evD, evO, evC, evIt, ownAt, getS, SV.val, R.bind, runCall, argsOf, argOf, lentOf, noDup, isOwn, env_call, env_glo, env_sup, env_perm, env_fuel, backS, reread, liftO, ofR, ofO, b2, u1, bInt, bAdd, bEq, bLt, bIs, bIx, isNon, outC, heldAll, outOf, keepS, setS, setFs, mkSV, wipeS, backW, tgSet, setAll, itemsOf, noErr, recvOk, truth, isTy, PV.plain, plainAll, PV.deep, deepAll, line, law_3, g1, sup20, sup22]
theorem st2 {x1 d1 : PV} (n1 : c 24 [.own d, .fz (.int 0), .fz (.int (((rowsN w).length : Int) - 1))] = .ok (false, x1) [.own d1, .fz (.int 0), .fz (.int (((rowsN w).length : Int) - 1))]) (g1 : c 16 [.fz (.int w), .fz x1] = .err 6 [] [.fz (.int w), .fz x1]) : exS (prog.env c) [] law_2 [some (.fz sc), some (.own d), a2, some (.fz (.int w)), some (.fz (rowsP w)), some (.fz (.str ls)), some (.fz (.str one)), some (.fz (.str other)), some (.fz wr), a9, some (.fz (.int (ix w one))), some (.fz od), some (.own (.lst [.bl true, .bl true, .bl true, .bl true, .bl true, .bl true, .bl true, .bl true, .bl true])), none] = .next [some (.fz sc), some (.own d1), a2, some (.fz (.int w)), some (.fz (rowsP w)), some (.fz (.str ls)), some (.fz (.str one)), some (.fz (.str other)), some (.fz wr), a9, some (.fz (.int (ix w one))), some (.fz od), some (.own (.lst [.bl true, .bl true, .bl true, .bl true, .bl true, .bl true, .bl true, .bl true, .bl true, .bl true])), none] := by
  simp [runDef, exSs, exS.eq_1, exS.eq_2, exS.eq_3, exS.eq_4, exS.eq_5, exS.eq_6, exS.eq_7, exS.eq_8, exS.eq_11, exS.eq_12, exS.eq_13, exS.eq_14, exS.eq_15, exS.eq_16, exS.eq_17, evR.eq_1, evR.eq_2, evR.eq_3, evR.eq_4, evR.eq_5, evR.eq_6, evR.eq_7, evR.eq_8, evR.eq_9, evR.eq_10, evR.eq_11, evR.eq_12, evR.eq_13, evR.eq_14, evR.eq_15, evR.eq_16, evR.eq_17, evR.eq_18, evR.eq_19, evR.eq_20, evR.eq_21, evR.eq_22, evP, evAs, evT, evEs, evFs, evD, evO, evC, evIt, ownAt, getS, SV.val, R.bind, runCall, argsOf, argOf, lentOf, noDup, isOwn, env_call, env_glo, env_sup, env_perm, env_fuel, backS, reread, liftO, ofR, ofO, b2, u1, bInt, bAdd, bEq, bLt, bIs, bIx, isNon, outC, heldAll, outOf, keepS, setS, setFs, mkSV, wipeS, backW, tgSet, setAll, itemsOf, noErr, recvOk, truth, isTy, PV.plain, plainAll, PV.deep, deepAll, line, law_2, n1, g1, sup60, sup66, rowsP]
theorem st1 : exS (prog.env c) [] law_1 [some (.fz sc), some (.own d), a2, some (.fz (.int w)), some (.fz (rowsP w)), some (.fz (.str ls)), some (.fz (.str one)), some (.fz (.str other)), some (.fz wr), a9, some (.fz (.int (ix w one))), some (.fz od), some (.own (.lst [.bl true, .bl true, .bl true, .bl true, .bl true, .bl true, .bl true, .bl true, .bl true, .bl true])), none] = .next [some (.fz sc), some (.own d), a2, some (.fz (.int w)), some (.fz (rowsP w)), some (.fz (.str ls)), some (.fz (.str one)), some (.fz (.str other)), some (.fz wr), a9, some (.fz (.int (ix w one))), some (.fz od), some (.own (.lst [.bl true, .bl true, .bl true, .bl true, .bl true, .bl true, .bl true, .bl true, .bl true, .bl true])), none] := by
  simp [runDef, exSs, exS.eq_1, exS.eq_2, exS.eq_3, exS.eq_4, exS.eq_5, exS.eq_6, exS.eq_7, exS.eq_8, exS.eq_11, exS.eq_12, exS.eq_13, exS.eq_14, exS.eq_15, exS.eq_16, exS.eq_17, evR.eq_1, evR.eq_2, evR.eq_3, evR.eq_4, evR.eq_5, evR.eq_6, evR.eq_7, evR.eq_8, evR.eq_9, evR.eq_10, evR.eq_11, evR.eq_12, evR.eq_13, evR.eq_14, evR.eq_15, evR.eq_16, evR.eq_17, evR.eq_18, evR.eq_19, evR.eq_20, evR.eq_21, evR.eq_22, evP, evAs, evT, evEs, evFs, evD, evO, evC, evIt, ownAt, getS, SV.val, R.bind, runCall, argsOf, argOf, lentOf, noDup, isOwn, env_call, env_glo, env_sup, env_perm, env_fuel, backS, reread, liftO, ofR, ofO, b2, u1, bInt, bAdd, bEq, bLt, bIs, bIx, isNon, outC, heldAll, outOf, keepS, setS, setFs, mkSV, wipeS, backW, tgSet, setAll, itemsOf, noErr, recvOk, truth, isTy, PV.plain, plainAll, PV.deep, deepAll, line, law_1, bMul, eqv, eqvAll, List.replicate]
end
end K00

/-! K00M: the law of k00 holds at every script. -/
namespace K00
open Pv
theorem next_eq {Q : Env} {ro : List Nat} {a : S} {r : Ss} {s s1 : Sl} (h : exS Q ro a s = .next s1) : exSs Q ro (.cons a r) s = exSs Q ro r s1 := by rw [exSs, h]
def lawBody : Ss := (.cons law_19 (.cons law_18 (.cons law_17 (.cons law_16 (.cons law_15 (.cons law_14 (.cons law_13 (.cons law_12 (.cons law_11 (.cons law_10 (.cons law_9 (.cons law_8 (.cons law_7 (.cons law_6 (.cons law_5 (.cons law_4 (.cons law_3 (.cons law_2 (.cons law_1 .nil)))))))))))))))))))
def InvL (sc : PV) (cs : List Int) (s : Sl) : Prop := ∃ (w k : Int) (a2 a3 a4 a5 a6 a7 a8 a9 a10 a11 a12 : Option SV), s = [some (.fz sc), some (.own (dr w cs k)), a2, a3, a4, a5, a6, a7, a8, a9, a10, a11, a12, none]
theorem rows_len : ∀ w ∈ ws, (rowsN w).length ≤ 16 ∧ (rowsN w) ≠ [] := by decide +kernel
theorem rows_mem {w : Nat} {x : PV} (h : x ∈ (rowsN w).map PV.str) : ∃ r ∈ rowsN w, x = .str r := by
  obtain ⟨r, h1, h2⟩ := List.mem_map.mp h
  exact ⟨r, h1, h2.symm⟩
theorem told1_ok {w : Nat} {one other ls : List Nat} (hw : w ∈ ws) : prog.run 12 23 [.own (told1 w one other ls), .fz (told1 w one other ls)] = .ok (false, .bl true) [.fz (told1 w one other ls), .fz (told1 w one other ls)] := by
  have h1 := (rows_len w hw).1
  have h2 : (rowsN w).length ≤ 1000 := by omega
  exact says (m := 2) (n := 8) (by decide) (by simp [told1, PV.deep, deepAll, deep_str]) (by simp [told1, wide, wides, wides_str, h2]) (.inr ⟨rfl, _, rfl⟩)
theorem told2_ok {w : Nat} {one ls : List Nat} : prog.run 12 23 [.own (told2 w one ls), .fz (told2 w one ls)] = .ok (false, .bl true) [.fz (told2 w one ls), .fz (told2 w one ls)] :=
  says (m := 1) (n := 9) (by decide) (by simp [told2, PV.deep, deepAll]) (by simp [told2, wide, wides]) (.inr ⟨rfl, _, rfl⟩)
theorem true_ok : prog.run 12 23 [.fz (.bl true), .fz (.bl true)] = .ok (false, .bl true) [.fz (.bl true), .fz (.bl true)] :=
  says (m := 0) (n := 10) (by decide) (by simp [PV.deep]) (by simp [wide]) (.inl rfl)
theorem body_ok {sc : PV} {w k : Int} {cs : List Int} {a2 a3 a4 a5 a6 a7 a8 a9 a10 a11 a12 : Option SV} (hl : cs.length ≤ 1000) : NextI (InvL sc cs) (exSs Q12 [] lawBody [some (.fz sc), some (.own (dr w cs k)), a2, a3, a4, a5, a6, a7, a8, a9, a10, a11, a12, none]) := by
  obtain ⟨r, w1, k1, e19, r0, r1, _⟩ := take (n := 10) (w := w) (k := k) (m := 4) hl (by decide) (by decide)
  obtain ⟨v, hv, hr⟩ : ∃ v : Nat, v ∈ ws ∧ 1 + r = (v : Int) := by
    have r1 := r1 (by decide)
    refine ⟨(1 + r).toNat, ?_, by omega⟩
    have : (1 + r).toNat = 1 ∨ (1 + r).toNat = 2 ∨ (1 + r).toNat = 3 ∨ (1 + r).toNat = 4 := by omega
    rcases this with h | h | h | h <;> rw [h] <;> decide
  have e25 := e_lst (f_rows v hv)
  obtain ⟨ls, w2, k2, hls, e26⟩ := some_letters (n := 9) (w := w1) (k := k1) hl hv
  have hrl := rows_len v hv
  have hrn : (rowsN v).map PV.str ≠ [] := by simpa using hrl.2
  have hrc : ((rowsN v).map PV.str).length ≤ 1000 := by rw [List.length_map]; omega
  obtain ⟨x1, w3, k3, m1, e17⟩ := pick (n := 9) (w := w2) (k := k2) hl hrn hrc
  obtain ⟨one, hone, rfl⟩ := rows_mem m1
  obtain ⟨x2, w4, k4, m2, e17b⟩ := pick (n := 9) (w := w3) (k := k3) hl hrn hrc
  obtain ⟨other, hother, rfl⟩ := rows_mem m2
  obtain ⟨wr, w5, k5, hwr, e16⟩ := pick (n := 9) (w := w4) (k := k4) (xs := wrongs v) hl (by simp [wrongs]) (by simp [wrongs])
  obtain ⟨od, w6, k6, hod, e10⟩ := pick (n := 9) (w := w5) (k := k5) (xs := odds v) hl (by simp [odds]) (by simp [odds])
  obtain ⟨y1, w7, k7, hy1, n1⟩ := number (n := 8) (w := w6) (k := k6) (lo := 1) (hi := 4) hl
  obtain ⟨y2, w8, k8, hy2, n2⟩ := number (n := 8) (w := w7) (k := k7) (lo := 1) (hi := 4) hl
  obtain ⟨y3, w9, k9, hy3, n3⟩ := number (n := 8) (w := w8) (k := k8) (lo := 1) (hi := 4) hl
  obtain ⟨y4, w10, k10, hy4, n4⟩ := number (n := 8) (w := w9) (k := k9) (lo := 1) (hi := 4) hl
  obtain ⟨y5, w11, k11, hy5, n5⟩ := number (n := 8) (w := w10) (k := k10) (lo := 0) (hi := ((rowsN v).length : Int) - 1) hl
  have e13 := e_str (f_under v hv one hone ls hls)
  have e27 := e_str (f_lund v hv one hone ls hls)
  have e27b := e_str (f_lund v hv other hother ls hls)
  have e14 := alike hv hone hother hls
  have e14b := alike hv hone hone hls
  have e19 : prog.run 12 19 [.own (dr w cs k), .fz (.int 4)] = .ok (false, .int r) [.own (dr w1 cs k1), .fz (.int 4)] := e19
  have e25 : prog.run 12 25 [.fz (.int v)] = .ok (false, rowsP v) [.fz (.int v)] := e25
  have e26 : prog.run 12 26 [.own (dr w1 cs k1), .fz (.int v)] = .ok (false, .str ls) [.own (dr w2 cs k2), .fz (.int v)] := e26
  have e17 : prog.run 12 20 [.own (dr w2 cs k2), .fz (rowsP v)] = .ok (false, .str one) [.own (dr w3 cs k3), .fz (rowsP v)] := e17
  have e17b : prog.run 12 20 [.own (dr w3 cs k3), .fz (rowsP v)] = .ok (false, .str other) [.own (dr w4 cs k4), .fz (rowsP v)] := e17b
  have e16 : prog.run 12 20 [.own (dr w4 cs k4), .fz (.lst (wrongs v))] = .ok (false, wr) [.own (dr w5 cs k5), .fz (.lst (wrongs v))] := e16
  have e10 : prog.run 12 20 [.own (dr w5 cs k5), .fz (.lst (odds v))] = .ok (false, od) [.own (dr w6 cs k6), .fz (.lst (odds v))] := e10
  have n1 : prog.run 12 24 [.own (dr w6 cs k6), .fz (.int 1), .fz (.int 4)] = .ok (false, y1) [.own (dr w7 cs k7), .fz (.int 1), .fz (.int 4)] := n1
  have n2 : prog.run 12 24 [.own (dr w7 cs k7), .fz (.int 1), .fz (.int 4)] = .ok (false, y2) [.own (dr w8 cs k8), .fz (.int 1), .fz (.int 4)] := n2
  have n3 : prog.run 12 24 [.own (dr w8 cs k8), .fz (.int 1), .fz (.int 4)] = .ok (false, y3) [.own (dr w9 cs k9), .fz (.int 1), .fz (.int 4)] := n3
  have n4 : prog.run 12 24 [.own (dr w9 cs k9), .fz (.int 1), .fz (.int 4)] = .ok (false, y4) [.own (dr w10 cs k10), .fz (.int 1), .fz (.int 4)] := n4
  have n5 : prog.run 12 24 [.own (dr w10 cs k10), .fz (.int 0), .fz (.int (((rowsN v).length : Int) - 1))] = .ok (false, y5) [.own (dr w11 cs k11), .fz (.int 0), .fz (.int (((rowsN v).length : Int) - 1))] := n5
  have q15a := e_bl (f_isrow v hv one hone)
  have q15b := e_bl (f_wrow v hv wr hwr)
  have q15c := e_tup (f_rowsall v hv)
  have q15d := e_str (f_letters v hv)
  have q14 := told1_ok (one := one) (other := other) (ls := ls) hv
  have q12a := e_int (f_rownum v hv one hone)
  have q12b := e_str (f_rowat v hv one hone)
  have q11 := told2_ok (w := v) (one := one) (ls := ls)
  have q11b := true_ok
  have q9a := e_err (f_n9 y1 hy1).1
  have q9b := e_err (f_n9 y2 hy2).2.1
  have q9c := e_err (f_n9 y3 hy3).2.2.1
  have q8 := e_err (f_n9 y4 hy4).2.2.2
  have q7 := e_err (f_e13 v hv wr hwr).1
  have q6 := e_err (f_odd v hv one hone od hod)
  have q5 := e_err (f_e13 v hv wr hwr).2.1
  have q4 := e_err (f_e14 v hv one hone wr hwr)
  have q3 := e_err (f_e13 v hv wr hwr).2.2
  have q2 := e_err (f_e16 v hv y5 hy5)
  show NextI (InvL sc cs) (exSs (prog.env (prog.run 12)) [] lawBody [some (.fz sc), some (.own (dr w cs k)), a2, a3, a4, a5, a6, a7, a8, a9, a10, a11, a12, none])
  unfold lawBody
  generalize prog.run 12 = c at e19 e25 e26 e17 e17b e16 e10 n1 n2 n3 n4 n5 q15a q15b q15c q15d q14 q12a q12b q11 q11b q9a q9b q9c q8 q7 q6 q5 q4 q3 q2 e13 e27 e27b e14 e14b ⊢
  have h19 := st19 (a2 := a2) (a3 := a3) (a4 := a4) (a5 := a5) (a6 := a6) (a7 := a7) (a8 := a8) (a9 := a9) (a10 := a10) (a11 := a11) (a12 := a12) (a13 := none) (sc := sc) (d := dr w cs k) (w := v) e19 hr
  rw [next_eq h19]
  have h18 := st18 (a2 := a2) (a4 := a4) (a5 := a5) (a6 := a6) (a7 := a7) (a8 := a8) (a9 := a9) (a10 := a10) (a11 := a11) (a12 := a12) (a13 := none) (sc := sc) (d := dr w1 cs k1) (w := v) (ls := ls) e25 e26
  rw [next_eq h18]
  have h17 := st17 (a2 := a2) (a6 := a6) (a7 := a7) (a8 := a8) (a9 := a9) (a10 := a10) (a11 := a11) (a12 := a12) (a13 := none) (sc := sc) (d := dr w2 cs k2) (w := v) (one := one) (other := other) (ls := ls) e17 e17b
  rw [next_eq h17]
  have h16 := st16 (a2 := a2) (a8 := a8) (a9 := a9) (a10 := a10) (a11 := a11) (a12 := a12) (a13 := none) (sc := sc) (d := dr w4 cs k4) (w := v) (one := one) (other := other) (ls := ls) (wr := wr) hv e16
  rw [next_eq h16]
  have h15 := st15 (a2 := a2) (a9 := a9) (a10 := a10) (a11 := a11) (a12 := a12) (a13 := none) (sc := sc) (d := dr w5 cs k5) (w := v) (one := one) (other := other) (ls := ls) (wr := wr) q15a q15b q15c q15d e13 e14
  rw [next_eq h15]
  have h14 := st14 (a2 := a2) (a10 := a10) (a11 := a11) (a12 := a12) (a13 := none) (sc := sc) (d := dr w5 cs k5) (w := v) (one := one) (other := other) (ls := ls) (wr := wr) e27 e27b (cut_lw v hv).1 q14
  rw [next_eq h14]
  have h13 := st13 (c := c) (a2 := a2) (a9 := (some (.fz (told1 v one other ls)))) (a10 := a10) (a11 := a11) (a12 := a12) (a13 := none) (sc := sc) (d := dr w5 cs k5) (w := v) (one := one) (other := other) (ls := ls) (wr := wr) (f_find v hv one hone)
  rw [next_eq h13]
  have h12 := st12 (a2 := a2) (a9 := (some (.fz (told1 v one other ls)))) (a11 := a11) (a12 := a12) (a13 := none) (sc := sc) (d := dr w5 cs k5) (w := v) (one := one) (other := other) (ls := ls) (wr := wr) q12a q12b e13
  rw [next_eq h12]
  have h11 := st11 (a2 := a2) (a11 := a11) (a12 := a12) (a13 := none) (sc := sc) (d := dr w5 cs k5) (w := v) (one := one) (other := other) (ls := ls) (wr := wr) e27 q11 e14b q11b
  rw [next_eq h11]
  have h10 := st10 (a2 := a2) (a9 := (some (.fz (told2 v one ls)))) (a11 := a11) (a12 := a12) (a13 := none) (sc := sc) (d := dr w5 cs k5) (w := v) (one := one) (other := other) (ls := ls) (wr := wr) (od := od) hv e10
  rw [next_eq h10]
  have h9 := st9 (a2 := a2) (a9 := (some (.fz (told2 v one ls)))) (a12 := a12) (sc := sc) (d := dr w6 cs k6) (w := v) (one := one) (other := other) (ls := ls) (wr := wr) (od := od) n1 n2 n3 q9a q9b q9c
  rw [next_eq h9]
  have h8 := st8 (a2 := a2) (a9 := (some (.fz (told2 v one ls)))) (sc := sc) (d := dr w9 cs k9) (w := v) (one := one) (other := other) (ls := ls) (wr := wr) (od := od) n4 q8
  rw [next_eq h8]
  have h7 := st7 (a2 := a2) (a9 := (some (.fz (told2 v one ls)))) (sc := sc) (d := dr w10 cs k10) (w := v) (one := one) (other := other) (ls := ls) (wr := wr) (od := od) q7
  rw [next_eq h7]
  have h6 := st6 (a2 := a2) (a9 := (some (.fz (told2 v one ls)))) (sc := sc) (d := dr w10 cs k10) (w := v) (one := one) (other := other) (ls := ls) (wr := wr) (od := od) q6
  rw [next_eq h6]
  have h5 := st5 (a2 := a2) (a9 := (some (.fz (told2 v one ls)))) (sc := sc) (d := dr w10 cs k10) (w := v) (one := one) (other := other) (ls := ls) (wr := wr) (od := od) q5
  rw [next_eq h5]
  have h4 := st4 (a2 := a2) (a9 := (some (.fz (told2 v one ls)))) (sc := sc) (d := dr w10 cs k10) (w := v) (one := one) (other := other) (ls := ls) (wr := wr) (od := od) q4
  rw [next_eq h4]
  have h3 := st3 (a2 := a2) (a9 := (some (.fz (told2 v one ls)))) (sc := sc) (d := dr w10 cs k10) (w := v) (one := one) (other := other) (ls := ls) (wr := wr) (od := od) q3
  rw [next_eq h3]
  have h2 := st2 (a2 := a2) (a9 := (some (.fz (told2 v one ls)))) (sc := sc) (d := dr w10 cs k10) (w := v) (one := one) (other := other) (ls := ls) (wr := wr) (od := od) n5 q2
  rw [next_eq h2]
  have h1 := st1 (c := c) (a2 := a2) (a9 := (some (.fz (told2 v one ls)))) (sc := sc) (d := dr w11 cs k11) (w := v) (one := one) (other := other) (ls := ls) (wr := wr) (od := od) 
  rw [next_eq h1]
  rw [exSs]
  exact ⟨w11, k11, _, _, _, _, _, _, _, _, _, _, _, rfl⟩
/-! ### the closing line -/
theorem c1 : okV false (isTup [[48, 48], [48, 49], [49, 48], [49, 49]]) (prog.run 12 10 [.fz (.int 2)]) = true := by decide +kernel
theorem c2 : okV false (isStr [49, 49]) (prog.run 12 13 [.fz (.int 3), .fz (.str [49, 48, 49]), .fz (.str [97, 99])]) = true := by decide +kernel
theorem c3 : okV false (isBl true) (prog.run 12 14 [.fz (.int 2), .fz (.str [48, 49]), .fz (.str [49, 49]), .fz (.str [98])]) = true := by decide +kernel
theorem c4 : okV false (isBl false) (prog.run 12 14 [.fz (.int 2), .fz (.str [48, 49]), .fz (.str [49, 49]), .fz (.str [97])]) = true := by decide +kernel
theorem c5 : okV false (isStr [49, 49, 49, 49]) (prog.run 12 16 [.fz (.int 4), .fz (.int 15)]) = true := by decide +kernel
def told3 : PV := .lst [.tup [.str [48, 48], .str [48, 49], .str [49, 48], .str [49, 49]], .str [49, 49], .bl true, .bl false, .str [49, 49, 49, 49]]
theorem told3_ok : prog.run 12 23 [.fz told3, .fz told3] = .ok (false, .bl true) [.fz told3, .fz told3] :=
  says (m := 2) (n := 8) (by decide) (by simp [told3, PV.deep, deepAll]) (by simp [told3, wide, wides]) (.inl rfl)
theorem st0 {c : Nat → List SV → RC} {s : Sl} (h1 : c 10 [.fz (.int 2)] = .ok (false, .tup ([[48, 48], [48, 49], [49, 48], [49, 49]].map PV.str)) [.fz (.int 2)]) (h2 : c 13 [.fz (.int 3), .fz (.str [49, 48, 49]), .fz (.str [97, 99])] = .ok (false, .str [49, 49]) [.fz (.int 3), .fz (.str [49, 48, 49]), .fz (.str [97, 99])])
    (h3 : c 14 [.fz (.int 2), .fz (.str [48, 49]), .fz (.str [49, 49]), .fz (.str [98])] = .ok (false, .bl true) [.fz (.int 2), .fz (.str [48, 49]), .fz (.str [49, 49]), .fz (.str [98])]) (h4 : c 14 [.fz (.int 2), .fz (.str [48, 49]), .fz (.str [49, 49]), .fz (.str [97])] = .ok (false, .bl false) [.fz (.int 2), .fz (.str [48, 49]), .fz (.str [49, 49]), .fz (.str [97])])
    (h5 : c 16 [.fz (.int 4), .fz (.int 15)] = .ok (false, .str [49, 49, 49, 49]) [.fz (.int 4), .fz (.int 15)]) (h6 : c 23 [.fz told3, .fz told3] = .ok (false, .bl true) [.fz told3, .fz told3]) : exS (prog.env c) [] law_0 s = .ret (false, .bl true) s := by
  simp only [told3] at h6
  simp only [List.map_cons, List.map_nil] at h1
  simp [runDef, exSs, exS.eq_1, exS.eq_2, exS.eq_3, exS.eq_4, exS.eq_5, exS.eq_6, exS.eq_7, exS.eq_8, exS.eq_11, exS.eq_12, exS.eq_13, exS.eq_14, exS.eq_15, exS.eq_16, exS.eq_17, evR.eq_1, evR.eq_2, evR.eq_3, evR.eq_4, evR.eq_5, evR.eq_6, evR.eq_7, evR.eq_8, evR.eq_9, evR.eq_10, evR.eq_11, evR.eq_12, evR.eq_13, evR.eq_14, evR.eq_15, evR.eq_16, evR.eq_17, evR.eq_18, evR.eq_19, evR.eq_20, evR.eq_21, evR.eq_22, evP, evAs, evT, evEs, evFs, evD, evO, evC, evIt, ownAt, getS, SV.val, R.bind, runCall, argsOf, argOf, lentOf, noDup, isOwn, env_call, env_glo, env_sup, env_perm, env_fuel, backS, reread, liftO, ofR, ofO, b2, u1, bInt, bAdd, bEq, bLt, bIs, bIx, isNon, outC, heldAll, outOf, keepS, setS, setFs, mkSV, wipeS, backW, tgSet, setAll, itemsOf, noErr, recvOk, truth, isTy, PV.plain, plainAll, PV.deep, deepAll, line, law_0, h1, h2, h3, h4, h5, h6]
theorem st21 {c : Nat → List SV → RC} {sc d : PV} (h : c 17 [.fz sc] = .ok (true, d) [.fz sc]) : exS (prog.env c) [] law_21 [some (.fz sc), none, none, none, none, none, none, none, none, none, none, none, none, none] = .next [some (.fz sc), some (.own d), none, none, none, none, none, none, none, none, none, none, none, none] := by
  simp [runDef, exSs, exS.eq_1, exS.eq_2, exS.eq_3, exS.eq_4, exS.eq_5, exS.eq_6, exS.eq_7, exS.eq_8, exS.eq_11, exS.eq_12, exS.eq_13, exS.eq_14, exS.eq_15, exS.eq_16, exS.eq_17, evR.eq_1, evR.eq_2, evR.eq_3, evR.eq_4, evR.eq_5, evR.eq_6, evR.eq_7, evR.eq_8, evR.eq_9, evR.eq_10, evR.eq_11, evR.eq_12, evR.eq_13, evR.eq_14, evR.eq_15, evR.eq_16, evR.eq_17, evR.eq_18, evR.eq_19, evR.eq_20, evR.eq_21, evR.eq_22, evP, evAs, evT, evEs, evFs, evD, evO, evC, evIt, ownAt, getS, SV.val, R.bind, runCall, argsOf, argOf, lentOf, noDup, isOwn, env_call, env_glo, env_sup, env_perm, env_fuel, backS, reread, liftO, ofR, ofO, b2, u1, bInt, bAdd, bEq, bLt, bIs, bIx, isNon, outC, heldAll, outOf, keepS, setS, setFs, mkSV, wipeS, backW, tgSet, setAll, itemsOf, noErr, recvOk, truth, isTy, PV.plain, plainAll, PV.deep, deepAll, line, law_21, h]
theorem it20 {c : Nat → List SV → RC} {ns : List Int} {d : SV} (h : ns.length ≤ 63) : ∃ xs, evIt (prog.env c) (.rng1 (.bin .add (.e (.cn (.int 8))) (.e (.bin .min2 (.e (.un .len (.v 0))) (.e (.cn (.int 12))))))) [some (.fz (.scr (ns.map PV.int))), some d, none, none, none, none, none, none, none, none, none, none, none, none] = .ok xs [some (.fz (.scr (ns.map PV.int))), some d, none, none, none, none, none, none, none, none, none, none, none, none] := by
  refine ⟨rngL 0 (8 + (if (12 : Int) < ns.length then (12 : Int) else ns.length)).toNat, ?_⟩
  have hs : small (8 + (if (12 : Int) < ns.length then (12 : Int) else ns.length)) = true := by
    unfold small
    refine decide_eq_true ?_
    split <;> omega
  simp [runDef, exSs, exS.eq_1, exS.eq_2, exS.eq_3, exS.eq_4, exS.eq_5, exS.eq_6, exS.eq_7, exS.eq_8, exS.eq_11, exS.eq_12, exS.eq_13, exS.eq_14, exS.eq_15, exS.eq_16, exS.eq_17, evR.eq_1, evR.eq_2, evR.eq_3, evR.eq_4, evR.eq_5, evR.eq_6, evR.eq_7, evR.eq_8, evR.eq_9, evR.eq_10, evR.eq_11, evR.eq_12, evR.eq_13, evR.eq_14, evR.eq_15, evR.eq_16, evR.eq_17, evR.eq_18, evR.eq_19, evR.eq_20, evR.eq_21, evR.eq_22, evP, evAs, evT, evEs, evFs, evD, evO, evC, evIt, ownAt, getS, SV.val, R.bind, runCall, argsOf, argOf, lentOf, noDup, isOwn, env_call, env_glo, env_sup, env_perm, env_fuel, backS, reread, liftO, ofR, ofO, b2, u1, bInt, bAdd, bEq, bLt, bIs, bIx, isNon, outC, heldAll, outOf, keepS, setS, setFs, mkSV, wipeS, backW, tgSet, setAll, itemsOf, noErr, recvOk, truth, isTy, PV.plain, plainAll, PV.deep, deepAll, line, hs]
theorem run28 (n : Nat) (as : List SV) : prog.run (n + 1) 28 as = runDef (prog.env (prog.run n)) ⟨1, 14, b_law⟩ as := rfl
theorem law_plain (ns : List Int) (hl : ns.length ≤ 63) (hb : ∀ z ∈ ns, bits z ≤ 1048576) : ∃ os, prog.run 13 28 [.fz (.scr (ns.map PV.int))] = .ok (false, .bl true) os := by
  refine ⟨[.fz (.scr (ns.map PV.int))], ?_⟩
  obtain ⟨w, e17⟩ := begun (n := 11) hl hb (Nat.le_refl _)
  obtain ⟨xs, hi⟩ := it20 (c := prog.run 12) (d := .own (dr w ns 0)) hl
  obtain ⟨s', hf, w', k', a2, a3, a4, a5, a6, a7, a8, a9, a10, a11, a12, rfl⟩ := for_inv (Q := Q12) (ro := []) (t := .nm 2) (b := lawBody) (fun _ => InvL (.scr (ns.map PV.int)) ns) hi ⟨w, 0, none, none, none, none, none, none, none, none, none, none, none, rfl⟩ (by
    rintro i x s _ ⟨w1, k1, a2, a3, a4, a5, a6, a7, a8, a9, a10, a11, a12, rfl⟩
    unfold TurnI
    have ht : tgSet [] [some (.fz (.scr (ns.map PV.int))), some (.own (dr w1 ns k1)), a2, a3, a4, a5, a6, a7, a8, a9, a10, a11, a12, none] (.nm 2) x = some [some (.fz (.scr (ns.map PV.int))), some (.own (dr w1 ns k1)), some (.fz x), a3, a4, a5, a6, a7, a8, a9, a10, a11, a12, none] := by simp [runDef, exSs, exS.eq_1, exS.eq_2, exS.eq_3, exS.eq_4, exS.eq_5, exS.eq_6, exS.eq_7, exS.eq_8, exS.eq_11, exS.eq_12, exS.eq_13, exS.eq_14, exS.eq_15, exS.eq_16, exS.eq_17, evR.eq_1, evR.eq_2, evR.eq_3, evR.eq_4, evR.eq_5, evR.eq_6, evR.eq_7, evR.eq_8, evR.eq_9, evR.eq_10, evR.eq_11, evR.eq_12, evR.eq_13, evR.eq_14, evR.eq_15, evR.eq_16, evR.eq_17, evR.eq_18, evR.eq_19, evR.eq_20, evR.eq_21, evR.eq_22, evP, evAs, evT, evEs, evFs, evD, evO, evC, evIt, ownAt, getS, SV.val, R.bind, runCall, argsOf, argOf, lentOf, noDup, isOwn, env_call, env_glo, env_sup, env_perm, env_fuel, backS, reread, liftO, ofR, ofO, b2, u1, bInt, bAdd, bEq, bLt, bIs, bIx, isNon, outC, heldAll, outOf, keepS, setS, setFs, mkSV, wipeS, backW, tgSet, setAll, itemsOf, noErr, recvOk, truth, isTy, PV.plain, plainAll, PV.deep, deepAll, line]
    rw [ht]
    exact body_ok (by omega))
  have h20 : exS Q12 [] law_20 [some (.fz (.scr (ns.map PV.int))), some (.own (dr w ns 0)), none, none, none, none, none, none, none, none, none, none, none, none] = _ := hf
  have h21 : exS Q12 [] law_21 [some (.fz (.scr (ns.map PV.int))), none, none, none, none, none, none, none, none, none, none, none, none, none] = _ := st21 (c := prog.run 12) e17
  have h0 := fun s => st0 (c := prog.run 12) (s := s) (e_tup c1) (e_str c2) (e_bl c3) (e_bl c4) (e_str c5) told3_ok
  rw [run28]
  unfold runDef
  rw [if_pos ⟨rfl, by show (1 : Nat) ≤ 14; decide⟩]
  have hx : exSs Q12 [] b_law [some (.fz (.scr (ns.map PV.int))), none, none, none, none, none, none, none, none, none, none, none, none, none] = .ret (false, .bl true) [some (.fz (.scr (ns.map PV.int))), some (.own (dr w' ns k')), a2, a3, a4, a5, a6, a7, a8, a9, a10, a11, a12, none] := by
    unfold b_law
    rw [exSs, h21]
    simp only []
    rw [exSs, h20]
    simp only []
    rw [exSs, h0]
  have hx2 : exSs (prog.env (prog.run 12)) (ownAt [SV.fz (.scr (ns.map PV.int))] 0) b_law ([SV.fz (.scr (ns.map PV.int))].map some ++ List.replicate (14 - 1) none) = .ret (false, .bl true) [some (.fz (.scr (ns.map PV.int))), some (.own (dr w' ns k')), a2, a3, a4, a5, a6, a7, a8, a9, a10, a11, a12, none] := hx
  rw [hx2]
  rfl
end K00

theorem PySem.Challenge.cw_lotsofrows_k00_whole_rows_and_letters_holds : PySem.Challenge.rw_lotsofrows_k00_whole_rows_and_letters.Holds := by
  exact K00.holds_of 12 (by decide) fun ns h1 h2 => K00.law_plain ns h1 h2
