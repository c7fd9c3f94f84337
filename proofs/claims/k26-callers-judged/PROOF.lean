import PyProof.Rows.All
import Wide.All
import OpenK.AllK
import Wide.FinOn
import KE.KStateDown
import HandS.ForMost
import HandS.Exc
import HandS.ExcInit
import HandS.ExcIs
import HandS.Defaults
import HandS.Words
import HandS.WordsExc
import HandS.IsInst
import HandS.Lambda
import HandS.TupAny
import HandS.TupMul
import HandS.TupLe
import HandS.Conv
import HandS.Flow
import HandS.More
import HandS.WrittenGet
import HandS.DeepEq
import HandS.Deep
import KE.KTupSum
import HandS.AnyAll
import HandS.Zip
import KE.GoesEnum
import KE.GoesMore
import HandS.Style
import HandS.HeadWalk
import HandS.ExcOwn
import KE.KExcIs
import HandS.HeadHook1
import HandS.HeadHook2
import HandS.HeadHook3
import HandS.HeadHook4
import HandS.EndTab
import PyProof.ExcBaseAll.ValueError
import PySem.Challenge.RW_callsheld_k26_callers_judged
import HandS.Head0
import HandS.Head1
import HandS.Head2
import HandS.HeadEnd
set_option Elab.async false
set_option linter.all false
set_option maxRecDepth 100000
namespace Py
open PySem

/-! ### values, owned things -/
inductive Val where
  | none | bool (b : Bool) | int (i : Int) | str (s : List Nat)
  | tup (l : List Val) | lst (l : List Val) | lck (l : List Val) | dct (ks vs : List Val)
  | fn (f : Nat)
  deriving Inhabited
def Val.isNone : Val → Bool
  | .none => true
  | _ => false
def Val.isD : Val → Bool
  | .dct _ _ => true
  | _ => false
/-- an exception: its class's number, what it keeps -/
structure Exc where
  c : Nat
  as : List Val
/-- an attribute: a frozen value, a list that the object owns -/
inductive Fl where
  | v (x : Val) | l (xs : List Val)
  deriving Inhabited
inductive T where
  | v (x : Val) | vl (l : List Val) | vd (ks vs : List Val) | x (e : Exc) | clo (gs : Option (List Val)) | cap (gs : Option (List Val)) | ob (c : Nat) (fs : List (Nat × Fl))
  deriving Inhabited
/-- what stands for a captured list alone -/
def T.isCap : T → Bool
  | .cap _ => true
  | _ => false
abbrev Env := List (Option T)
def gt : Env → Nat → Option T
  | [], _ => none
  | x :: _, 0 => x
  | _ :: r, n + 1 => gt r n
def st : Env → Nat → Option T → Env
  | [], _, _ => []
  | _ :: r, 0, t => t :: r
  | x :: r, n + 1, t => x :: st r n t
inductive R (α : Type) where
  | ok (a : α) (e : Env) | ex (x : Exc) (e : Env) | no
def R.bind {α β : Type} (r : R α) (f : α → Env → R β) : R β := match r with
  | .ok a e => f a e
  | .ex x e => .ex x e
  | .no => .no
def R.map {α β : Type} (r : R α) (f : α → β) : R β := match r with
  | .ok a e => .ok (f a) e
  | .ex x e => .ex x e
  | .no => .no
inductive CR where
  | ok (t : T) (as : List T) | ex (x : Exc) (as : List T) | no
/-- what was handed on: of the captured list, the outcome and the list behind it -/
abbrev Clo := Option (List Val) → CR
inductive Opd where
  | t (t : T) | pl (i : Nat)
inductive Op where
  | add | sub | mul | fdiv | mod | pow | shl
  deriving DecidableEq
inductive Cp where
  | eq | ne | lt | le | gt | ge | is | isnot | isin | notin
  deriving DecidableEq
inductive Ty where
  | int | bool | str | tuple | list | dict
  deriving DecidableEq
inductive BI where
  | len | int | sum | tuple | list | all | any | abs | maxl
  deriving DecidableEq
inductive Tg where
  | n (i : Nat) | t (is : List Nat)
mutual
inductive E where
  | k (c : Val) | var (i : Nat) | gl (g : Nat)
  | bin (o : Op) (a b : E) | neg (a : E)
  | cmp (o : Cp) (a b : E) | chn (o1 o2 : Cp) (a b c : E)
  | bo (w : Bool) (es : Es) | not (a : E) | ite (c a b : E)
  | tup (es : Es) | lis (es : Es) | dic (ks : List Val) (vs : Es)
  | sub (a i : E) | slc (a : E) (lo hi : Oe)
  | call (f : Nat) (es : Es) | bi (b : BI) (a : E) | isi (t : Ty) (a : E)
  | mget (g : Nat) (k d : E) | pop (i : Nat)
  | bad | edc | rev (a : E) | cnt (i : Nat) (c : Val) | idx (i : Nat) (c : Val) | idxl (es : Es) (q : E) | pop0 (i : Nat) | ch3 (o1 o2 o3 : Cp) (a b c d : E)
  | lc (el : E) (tg : Tg) (it : It) (c : Oe) (own : List Nat)
  | lc2 (el : E) (tg : Tg) (it : It) (c : Oe) (own : List Nat) (tg1 : Tg) (it1 : It) (c1 : Oe) (own1 : List Nat)
  | mm (w : Bool) (a b : E) | dget (ks : List (List Nat)) (vs : Es) (k d : E)
  | lam (f : Nat) (o : Option Nat) (b : E) | att (i f : Nat) | atx (a : E) (f : Nat) | new (c f : Nat) (es : Es) | mcall (c f i : Nat) (es : Es) | cloc (i : Nat) | isx (i : Nat) (c : Nat)
inductive Es where
  | nil | cons (e : E) (r : Es)
inductive Oe where
  | no | so (e : E)
inductive It where
  | e (a : E) | rng (a : E) | rng2 (a b : E) | enu (a : E) | zip (a b : E)
end
mutual
inductive S where
  | asg (tg : Tg) (e : E) | par (is : List Nat) (es : Es) | sti (i : Nat) (ix e : E)
  | aug (o : Op) (i : Nat) (e : E)
  | ex (e : E) | app (i : Nat) (e : E) | ext (i : Nat) (e : E)
  | ifs (c : E) (a b : Ss) | whl (c : E) (b : Ss) | for_ (tg : Tg) (it : It) (b : Ss)
  | ret (e : E) | retN | rai (c : Nat) (es : Es) | try_ (b : Ss) (c n : Nat) (h : Ss)
  | pass | brk | cnt | bad | sti2 (i : Nat) (k1 k2 : Val) (es : Es) | sta (i f : Nat) (e : E) | apa (i f : Nat) (e : E)
inductive Ss where
  | nil | cons (s : S) (r : Ss)
end

/-! ### operations on values -/
def fits (n : Nat) : Bool := Nat.ble n 16777216
/-- what is read of a list, a tuple: its items -/
def items : T → Option (List Val)
  | .v (.tup l) => some l
  | .v (.lst l) => some l
  | .v (.lck l) => some l
  | .vl l => some l
  | _ => none
def truth : T → Option Bool
  | .v .none => some false
  | .v (.bool b) => some b
  | .v (.int i) => some (i != 0)
  | .v (.str s) => match fits s.length with | true => some (!s.isEmpty) | false => none
  | .v (.tup l) => some (!l.isEmpty)
  | .v (.lst l) => some (!l.isEmpty)
  | .vl l => some (!l.isEmpty)
  | _ => none
/-- made frozen -/
def fz : T → Option Val
  | .v x => some x
  | .vl l => some (.lst l)
  | _ => none
def tyOf : T → Option Ty
  | .v (.bool _) => some .bool
  | .v (.int _) => some .int
  | .v (.str _) => some .str
  | .v (.tup _) => some .tuple
  | .v (.lst _) => some .list
  | .v (.dct _ _) => some .dict
  | .vl _ => some .list
  | .vd _ _ => some .dict
  | _ => none
def isiF (t : Ty) : T → Option Bool
  | .v .none => some false
  | .v (.bool _) => some (match t with | .bool => true | .int => true | _ => false)
  | .v (.int _) => some (match t with | .int => true | _ => false)
  | .v (.str _) => some (match t with | .str => true | _ => false)
  | .v (.tup _) => some (match t with | .tuple => true | _ => false)
  | .v (.lst _) => some (match t with | .list => true | _ => false)
  | .vl _ => some (match t with | .list => true | _ => false)
  | .v (.dct _ _) => some (match t with | .dict => true | _ => false)
  | _ => none
def intsOf : List Val → Option (List Int)
  | [] => some []
  | .int i :: r => (intsOf r).map (i :: ·)
  | _ :: _ => none
def boolsOf : List Val → Option (List Bool)
  | [] => some []
  | .bool i :: r => (boolsOf r).map (i :: ·)
  | _ :: _ => none
def sm (i : Int) : Bool := decide (-(2 ^ 64) < i) && decide (i < 2 ^ 64)
def binF (o : Op) (a b : T) : Option T :=
  match o, a, b with
  | .add, .v (.int i), .v (.int j) => some (.v (.int (i + j)))
  | .sub, .v (.int i), .v (.int j) => some (.v (.int (i - j)))
  | .mul, .v (.int i), .v (.int j) => match sm i || sm j with | true => some (.v (.int (i * j))) | false => none
  | .fdiv, .v (.int i), .v (.int j) => match decide (0 < j) && decide (j < 1073741824) with | true => some (.v (.int (i / j))) | false => none
  | .mod, .v (.int i), .v (.int j) => match decide (0 < j) with | true => some (.v (.int (i % j))) | false => none
  | .pow, .v (.int i), .v (.int j) => match decide (0 ≤ j) && (decide (j ≤ 1000000) && decide (i.natAbs < 2 ^ 64)) with | true => some (.v (.int (i ^ j.toNat))) | false => none
  | .shl, .v (.int i), .v (.int j) => match decide (0 ≤ j) && (decide (j ≤ 1000000) && decide (i.natAbs < 2 ^ 64)) with | true => some (.v (.int (i * 2 ^ j.toNat))) | false => none
  | .add, .v (.tup l), .v (.tup r) => match fits (l.length + r.length) with | true => some (.v (.tup (l ++ r))) | false => none
  | .add, .vl l, .vl r => match fits (l.length + r.length) with | true => some (.vl (l ++ r)) | false => none
  | .add, .v (.lst l), .vl r => match fits (l.length + r.length) with | true => some (.vl (l ++ r)) | false => none
  | .add, .vl l, .v (.lst r) => match fits (l.length + r.length) with | true => some (.vl (l ++ r)) | false => none
  | .add, .v (.lst l), .v (.lst r) => match fits (l.length + r.length) with | true => some (.vl (l ++ r)) | false => none
  | .mul, .vl l, .v (.int k) => match decide (0 ≤ k) && (decide (k ≤ 1000) && Nat.ble l.length 1000) with
    | true => some (.vl (List.replicate k.toNat l).flatten) | false => none
  | .mul, .v (.tup l), .v (.int k) => match !l.isEmpty && (decide (2 ≤ k) && (decide (k ≤ 1000) && Nat.ble l.length 1000)) with
    | true => some (.v (.tup (List.replicate k.toNat l).flatten)) | false => none
  | _, _, _ => none
/-- data: no dicts, no defs; not deep -/
def dat : Nat → Val → Bool
  | _, .none => true
  | _, .bool _ => true
  | _, .int _ => true
  | _, .str s => s.all fun c => Nat.blt c 1114112
  | n + 1, .tup l => l.all (dat n)
  | n + 1, .lst l => l.all (dat n)
  | _, _ => false
mutual
def eqv : Val → Val → Bool
  | .none, .none => true
  | .bool a, .bool b => a == b
  | .bool a, .int j => (if a then 1 else 0) == j
  | .int i, .bool b => i == (if b then 1 else 0)
  | .int i, .int j => i == j
  | .str x, .str y => x == y
  | .lst xs, .lst ys => eqvs xs ys
  | .tup xs, .tup ys => eqvs xs ys
  | _, _ => false
def eqvs : List Val → List Val → Bool
  | [], [] => true
  | x :: xs, y :: ys => eqv x y && eqvs xs ys
  | _, _ => false
end
def rdv : T → Option Val := fz
def eqF (a b : T) : Option Bool := match fz a, fz b with
  | some x, some y => match dat 60 x && dat 60 y with
    | true => some (eqv x y)
    | false => none
  | _, _ => none
/-- flat things -/
def flat : Val → Bool
  | .none => true | .bool _ => true | .int _ => true | .str _ => true | _ => false
def occurs (i j : List Nat) : Bool := !(Builtin.Str.occurrences ⟨j.toArray⟩ ⟨i.toArray⟩ 0 j.length 1).isEmpty
def inF (a b : T) : Option Bool := match a with
  | .v x => match items b with
    | some l => match flat x && l.all flat with
      | true => some (l.any fun y => eqv y x)
      | false => match fz b with
        | some (.lst l) => match dat 60 x && dat 60 (.lst l) with
          | true => some (l.any fun y => eqv y x)
          | false => none
        | _ => none
    | none => match x, b with
      | .str i, .v (.str j) => some (occurs i j)
      | _, _ => none
  | _ => none
def cmpF (o : Cp) (a b : T) : Option Bool := match o, a, b with
  | .lt, .v (.int i), .v (.int j) => some (decide (i < j))
  | .le, .v (.int i), .v (.int j) => some (decide (i ≤ j))
  | .gt, .v (.int i), .v (.int j) => some (decide (j < i))
  | .ge, .v (.int i), .v (.int j) => some (decide (j ≤ i))
  | .is, .v x, .v .none => some x.isNone
  | .isnot, .v x, .v .none => some (!x.isNone)
  | .is, .vl _, .v .none => some false
  | .isnot, .vl _, .v .none => some true
  | .is, .v (.bool a), .v (.bool b) => some (a == b)
  | .isnot, .v (.bool a), .v (.bool b) => some (!(a == b))
  | .eq, a, b => eqF a b
  | .ne, a, b => (eqF a b).map (! ·)
  | .isin, a, b => inF a b
  | .notin, a, b => (inF a b).map (! ·)
  | _, _, _ => none
def atV (l : List Val) (i : Int) : Option Val := L2.atI l i
def lookK (k : Val) : List Val → List Val → Option Val
  | x :: r, y :: q => match eqv x k with | true => some y | false => lookK k r q
  | _, _ => none
/-- what may be a key -/
def keyB : Val → Bool
  | .int _ => true
  | .str _ => true
  | _ => false
/-- the values, that of the key k now v -/
def putV (k v : Val) : List Val → List Val → List Val
  | x :: ks, y :: vs => (match eqv x k with | true => v | false => y) :: putV k v ks vs
  | _, _ => []
def hasK (k : Val) (ks : List Val) : Bool := ks.any fun x => eqv x k
/-- a dict's store: in its place, or at the end -/
def putD (k v : Val) (ks vs : List Val) : T := match hasK k ks with
  | true => .vd ks (putV k v ks vs)
  | false => .vd (ks ++ [k]) (vs ++ [v])
def dispD : List Val → List Val → List Val → List Val → T
  | k :: ks, u :: us, a, b => match putD k u a b with
    | .vd a b => dispD ks us a b
    | t => t
  | _, _, a, b => .vd a b
def subF (a i : T) : Option T := match i with
  | .v (.int n) => match items a with
    | some l => (atV l n).map .v
    | none => match a with
      | .v (.str s) => match fits s.length with
        | true => (L2.atI s n).map fun c => .v (.str [c])
        | false => none
      | .vd ks vs => (lookK (.int n) ks vs).map .v
      | _ => none
  | .v (.str s) => match a with
    | .vd ks vs => (lookK (.str s) ks vs).map .v
    | _ => none
  | _ => none
def ptF : T → Option (Option Int)
  | .v (.int i) => some (some i)
  | _ => none
def cutL {α : Type} (xs : List α) (lo hi : Option Int) : List α := (xs.drop (HT.sIx xs.length 0 lo)).take (HT.sIx xs.length xs.length hi - HT.sIx xs.length 0 lo)
def slcF (a : T) (lo hi : Option Int) : Option T := match a with
  | .v (.tup l) => some (.v (.tup (cutL l lo hi)))
  | .v (.lst l) => some (.vl (cutL l lo hi))
  | .v (.lck l) => some (.vl (cutL l lo hi))
  | .vl l => some (.vl (cutL l lo hi))
  | _ => none
def maxI : List Int → Option Int
  | [] => none
  | x :: r => some (r.foldl (fun a b => if a < b then b else a) x)
def biF (b : BI) (t : T) : Option T := match b, t with
  | .len, a => match items a with
    | some l => some (.v (.int l.length))
    | none => match a with
      | .v (.str s) => match fits s.length with | true => some (.v (.int s.length)) | false => none
      | _ => none
  | .int, .v (.int i) => some (.v (.int i))
  | .int, .v (.bool b) => some (.v (.int (if b then 1 else 0)))
  | .sum, a => match a with
    | .v (.tup l) => (intsOf l).map fun ns => .v (.int ns.sum)
    | .v (.lst l) => (intsOf l).map fun ns => .v (.int ns.sum)
    | .vl l => (intsOf l).map fun ns => .v (.int ns.sum)
    | _ => none
  | .tuple, a => (items a).map fun l => .v (.tup l)
  | .list, a => match a with
    | .v (.tup l) => some (.vl l)
    | .v (.lst l) => some (.vl l)
    | .vl l => some (.vl l)
    | _ => none
  | .all, a => match a with
    | .v (.lst l) => (boolsOf l).map fun ns => .v (.bool (ns.all id))
    | .vl l => (boolsOf l).map fun ns => .v (.bool (ns.all id))
    | _ => none
  | .any, a => match a with
    | .v (.lst l) => (boolsOf l).map fun ns => .v (.bool (ns.any id))
    | .vl l => (boolsOf l).map fun ns => .v (.bool (ns.any id))
    | _ => none
  | .maxl, a => match a with
    | .v (.lst l) => ((intsOf l).bind maxI).map fun m => .v (.int m)
    | .vl l => ((intsOf l).bind maxI).map fun m => .v (.int m)
    | _ => none
  | .abs, .v (.int i) => some (.v (.int (if i < 0 then -i else i)))
  | _, _ => none

/-- the greater (true), the lesser of two ints -/
def mmF (w : Bool) (a b : T) : Option T := match a, b with
  | .v (.int i), .v (.int j) => some (.v (.int (match w with | true => if j > i then j else i | false => if j < i then j else i)))
  | _, _ => none
/-- in a display: the last of that key -/
def dgF : List (List Nat) → List Val → List Nat → Option Val → Option Val
  | k :: ks, v :: vs, s, acc => dgF ks vs s (if k = s then some v else acc)
  | _, _, _, acc => acc
/-- the list is of flat things, as is what is sought -/
def lstF : T → Option (List Val)
  | .v (.lst l) => some l
  | .vl l => some l
  | _ => none
def cntF (a : T) (y : Val) : Option Nat := match lstF a with
  | some l => match flat y && l.all flat with
    | true => some (l.countP fun z => eqv z y)
    | false => none
  | none => none
def firstV (y : Val) : List Val → Option Nat
  | [] => none
  | z :: r => match eqv z y with
    | true => some 0
    | false => (firstV y r).map (· + 1)
def idxF (a : T) (y : Val) : Option Nat := match lstF a with
  | some l => match flat y && l.all flat with
    | true => firstV y l
    | false => none
  | none => none
/-! ### attributes -/
def lookF (f : Nat) : List (Nat × Fl) → Option Fl
  | [] => none
  | (h, x) :: r => match Nat.beq h f with
    | true => some x
    | false => lookF f r
def stF (f : Nat) (y : Fl) : List (Nat × Fl) → List (Nat × Fl)
  | [] => [(f, y)]
  | (h, x) :: r => match Nat.beq h f with
    | true => (h, y) :: r
    | false => (h, x) :: stF f y r
def flOf : T → Option Fl
  | .v x => some (.v x)
  | .vl l => some (.l l)
  | _ => none
/-! ### the evaluator -/
structure EC where
  call : Nat → List T → Option Clo → CR
  gv : List Val
  clo : Option Clo := none
  np : Nat := 0
  wl : Nat := 100000
  sub : Nat → Nat → Bool
def rd (env : Env) : Opd → Option T
  | .t t => some t
  | .pl i => gt env i
def rds (env : Env) : List Opd → Option (List T)
  | [] => some []
  | o :: r => match rd env o, rds env r with
    | some t, some ts => some (t :: ts)
    | _, _ => none
def plsOf : List Opd → List Nat
  | [] => []
  | .pl i :: r => i :: plsOf r
  | _ :: r => plsOf r
def ndup : List Nat → Bool
  | [] => true
  | i :: r => !r.contains i && ndup r
def putBack (env : Env) : List Opd → List T → Env
  | [], _ => env
  | .pl i :: r, ts => putBack (st env i ts.head?) r ts.tail
  | .t _ :: r, ts => putBack env r ts.tail
def T.arg : T → Bool
  | .v _ => true
  | .vl _ => true
  | .vd _ _ => true
  | .ob _ _ => true
  | _ => false
/-- made a frozen value; a slot's own thing is frozen there -/
def esc (env : Env) : Opd → R Val
  | .t t => match fz t with
    | some x => .ok x env
    | none => .no
  | .pl i => match gt env i with
    | some t => match fz t with
      | some x => .ok x (st env i (some (.v x)))
      | none => .no
    | none => .no
def escs : List Opd → Env → R (List Val)
  | [], env => .ok [] env
  | o :: r, env => (esc env o).bind fun x env => (escs r env).bind fun xs env => .ok (x :: xs) env
/-- handed on: what is owned by nobody stays owned -/
def own (env : Env) : Opd → R T
  | .t t => .ok t env
  | .pl i => (esc env (.pl i)).map .v
def wipe : Env → List Nat → Env
  | e, [] => e
  | e, v :: vs => st (wipe e vs) v none
def onlyV : Option T → Option T
  | some (.v x) => some (.v x)
  | _ => none
def putBackOwn (e0 : Env) : Env → List Nat → Env
  | e, [] => e
  | e, v :: vs => st (putBackOwn e0 e vs) v (onlyV (gt e0 v))
def asgN : List Nat → List Val → Env → Option Env
  | [], [], env => some env
  | i :: is, v :: vs, env => asgN is vs (st env i (some (.v v)))
  | _, _, _ => none
def asgV (tg : Tg) (v : Val) (env : Env) : Option Env := match tg with
  | .n i => some (st env i (some (.v v)))
  | .t is => match v with
    | .tup l => asgN is l env
    | _ => none
def enum (n : Nat) : List Val → List Val
  | [] => []
  | x :: r => .tup [.int n, x] :: enum (n + 1) r
def zipV : List Val → List Val → List Val
  | x :: r, y :: q => .tup [x, y] :: zipV r q
  | _, _ => []
def zipF : Val → Val → Option (List Val)
  | .tup l, .tup q => some (zipV l q)
  | .lst l, .lst q => some (zipV l q)
  | _, _ => none
def rngV (lo hi : Int) : List Val := (List.range (hi - lo).toNat).map fun i => .int (lo + (i : Nat))
def rngF (ts : List T) : Option (List Val) := match ts with
  | [.v (.int j)] => match decide (-(2 ^ 62) ≤ j) && decide (j < 16777216) with | true => some (rngV 0 j) | false => none
  | [.v (.int i), .v (.int j)] => match (decide (-(2 ^ 62) ≤ i) && decide (i < 2 ^ 62)) && ((decide (-(2 ^ 62) ≤ j) && decide (j < 2 ^ 62)) && decide (j - i < 16777216)) with | true => some (rngV i j) | false => none
  | _ => none
def itemsE (env : Env) (o : Opd) : R (List Val) := (esc env o).bind fun x env => match x with
  | .tup l => .ok l env
  | .lst l => .ok l env
  | _ => .no
/-- the turns of a comprehension -/
def lcL (tg : Tg) (own : List Nat) (c : Env → R Bool) (el : Env → R Val) : List Val → List Val → Env → R (List Val)
  | [], acc, env => .ok acc env
  | x :: xs, acc, env => match asgV tg x env with
    | none => .no
    | some env => match c env with
      | .ok true env => match el env with
        | .ok y env => lcL tg own c el xs (acc ++ [y]) (wipe env own)
        | _ => .no
      | .ok false env => lcL tg own c el xs acc (wipe env own)
      | _ => .no
/-- of two loops -/
def lc2L (tg : Tg) (own : List Nat) (c : Env → R Bool) (it1 : Env → R (List Val)) (tg1 : Tg) (own1 : List Nat) (c1 : Env → R Bool) (el : Env → R Val) : List Val → List Val → Env → R (List Val)
  | [], acc, env => .ok acc env
  | x :: xs, acc, env => match asgV tg x env with
    | none => .no
    | some env => match c env with
      | .ok true env => match it1 env with
        | .ok ys env => match lcL tg1 own1 c1 el ys acc (wipe env own1) with
          | .ok acc env => lc2L tg own c it1 tg1 own1 c1 el xs acc (wipe env own)
          | _ => .no
        | _ => .no
      | .ok false env => lc2L tg own c it1 tg1 own1 c1 el xs acc (wipe env own)
      | _ => .no
def truthR (r : R Opd) : R Bool := r.bind fun o env => match rd env o with
  | some t => match truth t with
    | some b => .ok b env
    | none => .no
  | none => .no
/-- the list that a lambda captures -/
def gsOf (o : Option Nat) (env : Env) : Option (Option (List Val)) := match o with
  | none => some none
  | some j => match gt env j with
    | some (.vl l) => some (some l)
    | _ => none
def outG (o : Option Nat) (env : Env) : Option (List T) := match o with
  | none => some []
  | some j => match gt env j with
    | some (.vl l) => some [.vl l]
    | _ => none
def cloR (o : Option Nat) : R Val → CR
  | .ok v env => match outG o env with
    | some as => .ok (.v v) as
    | none => .no
  | .ex x env => match outG o env with
    | some as => .ex x as
    | none => .no
  | .no => .no
def nxG : Option (List Val) → List T → Option (Option (List Val))
  | none, [] => some none
  | some _, [.vl l] => some (some l)
  | _, _ => none
def capL : List T → Option (List Val)
  | [.clo (some l)] => some l
  | [.cap (some l)] => some l
  | _ => none
/-- the slots that hold no frozen value are shut -/
def shut : Env → Env
  | [] => []
  | some (.v x) :: r => some (.v x) :: shut r
  | _ :: r => none :: shut r
def cloE (o : Option Nat) (env : Env) (f : Env → R Val) : Clo := fun gs => match o, gs with
  | none, none => cloR none (f (shut env))
  | some j, some l => cloR (some j) (f (st (shut env) j (some (.vl l))))
  | _, _ => .no
mutual
def E.ev (cx : EC) : E → Env → R Opd
  | .k c, env => .ok (.t (.v c)) env
  | .var i, env => match gt env i with
    | some (.v x) => .ok (.t (.v x)) env
    | some (.vl _) => .ok (.pl i) env
    | some (.vd _ _) => .ok (.pl i) env
    | some (.ob _ _) => .ok (.pl i) env
    | _ => .no
  | .gl g, env => match cx.gv[g]? with
    | some x => match x.isD with
      | false => .ok (.t (.v x)) env
      | true => .no
    | none => .no
  | .bin o a b, env => (a.ev cx env).bind fun oa env => (b.ev cx env).bind fun ob env => match rd env oa, rd env ob with
    | some ta, some tb => match binF o ta tb with
      | some t => .ok (.t t) env
      | none => .no
    | _, _ => .no
  | .neg a, env => (a.ev cx env).bind fun oa env => match oa with
    | .t (.v (.int i)) => .ok (.t (.v (.int (-i)))) env
    | _ => .no
  | .cmp o a b, env => (a.ev cx env).bind fun oa env => (b.ev cx env).bind fun ob env => match rd env oa, rd env ob with
    | some ta, some tb => match cmpF o ta tb with
      | some t => .ok (.t (.v (.bool t))) env
      | none => .no
    | _, _ => .no
  | .chn o1 o2 a b c, env => (a.ev cx env).bind fun oa env => (b.ev cx env).bind fun ob env => match rd env oa, ob with
    | some ta, .t (.v vb) => match cmpF o1 ta (.v vb) with
      | some true => (c.ev cx env).bind fun oc env => match rd env oc with
        | some tc => match cmpF o2 (.v vb) tc with
          | some t => .ok (.t (.v (.bool t))) env
          | none => .no
        | _ => .no
      | some false => .ok (.t (.v (.bool false))) env
      | none => .no
    | _, _ => .no
  | .bo w es, env => es.bo cx w env
  | .not a, env => (truthR (a.ev cx env)).bind fun b env => .ok (.t (.v (.bool (!b)))) env
  | .ite c a b, env => (truthR (c.ev cx env)).bind fun t env => match t with
    | true => a.ev cx env
    | false => b.ev cx env
  | .tup es, env => (es.ev cx env).bind fun os env => (escs os env).bind fun vs env => match fits vs.length with
    | true => .ok (.t (.v (.tup vs))) env
    | false => .no
  | .lis es, env => (es.ev cx env).bind fun os env => (escs os env).bind fun vs env => match fits vs.length with
    | true => .ok (.t (.vl vs)) env
    | false => .no
  | .dic ks vs, env => (vs.ev cx env).bind fun os env => (escs os env).bind fun us env => match Nat.beq ks.length us.length with
    | true => .ok (.t (dispD ks us [] [])) env
    | false => .no
  | .sub a i, env => (a.ev cx env).bind fun oa env => (i.ev cx env).bind fun oi env => match rd env oa, rd env oi with
    | some ta, some ti => match subF ta ti with
      | some t => .ok (.t t) env
      | none => .no
    | _, _ => .no
  | .slc a lo hi, env => (a.ev cx env).bind fun oa env => (lo.pt cx env).bind fun l env => (hi.pt cx env).bind fun h env => match rd env oa with
    | some ta => match slcF ta l h with
      | some t => .ok (.t t) env
      | none => .no
    | _ => .no
  | .call f es, env => (es.ev cx env).bind fun os env => match rds env os with
    | some ts => match ndup (plsOf os) && ts.all T.arg with
      | true => match cx.call f ts none with
        | .ok t as => .ok (.t t) (putBack env os as)
        | .ex x as => .ex x (putBack env os as)
        | .no => .no
      | false => .no
    | none => .no
  | .bi b a, env => (a.ev cx env).bind fun o env => match rd env o with
    | some t => match biF b t with
      | some t => .ok (.t t) env
      | none => .no
    | none => .no
  | .isi t a, env => (a.ev cx env).bind fun o env => match rd env o with
    | some ta => match isiF t ta with
      | some b => .ok (.t (.v (.bool b))) env
      | none => .no
    | none => .no
  | .mget n k d, env => match cx.gv[n]? with
    | some (.dct ks vs) => (k.ev cx env).bind fun ok env => (d.ev cx env).bind fun od env => match rd env ok, od with
      | some (.v (.str s)), .t (.v dv) => .ok (.t (.v ((lookK (.str s) ks vs).getD dv))) env
      | _, _ => .no
    | _ => .no
  | .bad, _ => .no
  | .edc, env => .ok (.t (.v (.dct [] []))) env
  | .rev a, env => (a.ev cx env).bind fun o env => match rd env o with
    | some (.v (.tup l)) => .ok (.t (.v (.tup l.reverse))) env
    | _ => .no
  | .cnt i c, env => match gt env i with
    | some t => match cntF t c with
      | some m => .ok (.t (.v (.int m))) env
      | none => .no
    | none => .no
  | .idx i c, env => match gt env i with
    | some t => match idxF t c with
      | some m => .ok (.t (.v (.int m))) env
      | none => .no
    | none => .no
  | .idxl es q, env => (es.ev cx env).bind fun os env => (escs os env).bind fun vs env => match fits vs.length && vs.all flat with
    | true => (q.ev cx env).bind fun oq env => match rd env oq with
      | some (.v y) => match flat y with
        | true => match firstV y vs with
          | some m => .ok (.t (.v (.int m))) env
          | none => .no
        | false => .no
      | _ => .no
    | false => .no
  | .pop0 i, env => match gt env i with
    | some (.vl l) => match l with
      | y :: r => .ok (.t (.v y)) (st env i (some (.vl r)))
      | [] => .no
    | _ => .no
  | .ch3 o1 o2 o3 a b c d, env => (a.ev cx env).bind fun oa env => (b.ev cx env).bind fun ob env => match rd env oa, ob with
    | some ta, .t (.v vb) => match cmpF o1 ta (.v vb) with
      | some true => (c.ev cx env).bind fun oc env => match oc with
        | .t (.v vc) => match cmpF o2 (.v vb) (.v vc) with
          | some true => (d.ev cx env).bind fun od env => match rd env od with
            | some td => match cmpF o3 (.v vc) td with
              | some t => .ok (.t (.v (.bool t))) env
              | none => .no
            | _ => .no
          | some false => .ok (.t (.v (.bool false))) env
          | none => .no
        | _ => .no
      | some false => .ok (.t (.v (.bool false))) env
      | none => .no
    | _, _ => .no
  | .pop i, env => match gt env i with
    | some (.vl l) => match l[l.length - 1]? with
      | some y => .ok (.t (.v y)) (st env i (some (.vl l.dropLast)))
      | none => .no
    | _ => .no
  | .lc el tg it c own, env => (it.ev cx env).bind fun xs env1 =>
      (lcL tg own (fun env => c.cond cx env) (fun env => (el.ev cx env).bind fun o env => esc env o) xs [] (wipe env1 own)).bind fun ys env2 =>
        .ok (.t (.vl ys)) (putBackOwn env1 env2 own)
  | .lc2 el tg it c own tg1 it1 c1 own1, env => (it.ev cx env).bind fun xs env1 =>
      (lc2L tg own (fun env => c.cond cx env) (fun env => it1.ev cx env) tg1 own1 (fun env => c1.cond cx env) (fun env => (el.ev cx env).bind fun o env => esc env o) xs [] (wipe env1 own)).bind fun ys env2 => match fits ys.length with
        | true => .ok (.t (.vl ys)) (putBackOwn env1 env2 own)
        | false => .no
  | .dget ks vs q d, env => (vs.ev cx env).bind fun os env => (escs os env).bind fun us env => (q.ev cx env).bind fun oq env => (d.ev cx env).bind fun od env => (esc env od).bind fun dv env => match rd env oq with
    | some (.v (.str s)) => .ok (.t (.v ((dgF ks us s none).getD dv))) env
    | _ => .no
  | .mm w a b, env => (a.ev cx env).bind fun oa env => (b.ev cx env).bind fun ob env => match rd env oa, rd env ob with
    | some ta, some tb => match mmF w ta tb with
      | some t => .ok (.t t) env
      | none => .no
    | _, _ => .no
  | .lam f o b, env => match gsOf o env with
    | none => .no
    | some gs => match cx.call f [.clo gs] (some (cloE o env fun env => (b.ev cx env).bind fun o env => esc env o)) with
      | .ok t as => match o with
        | none => .ok (.t t) env
        | some j => match capL as with
          | some l => .ok (.t t) (st env j (some (.vl l)))
          | none => .no
      | _ => .no
  | .att i f, env => match gt env i with
    | some (.ob c fs) => match lookF f fs with
      | some (.v x) => .ok (.t (.v x)) env
      | some (.l xs) => .ok (.t (.v (.lst xs))) (st env i (some (.ob c (stF f (.v (.lst xs)) fs))))
      | none => .no
    | _ => .no
  | .atx a f, env => (a.ev cx env).bind fun o env => match o with
    | .t (.ob _ fs) => match lookF f fs with
      | some (.v x) => .ok (.t (.v x)) env
      | some (.l xs) => .ok (.t (.vl xs)) env
      | none => .no
    | _ => .no
  | .new c f es, env => (es.ev cx env).bind fun os env => match rds env os with
    | some ts => match ndup (plsOf os) && ts.all T.arg with
      | true => match cx.call f (.ob c [] :: ts) none with
        | .ok (.v .none) (.ob c' fs :: as) => match Nat.beq c' c with
          | true => .ok (.t (.ob c fs)) (putBack env os as)
          | false => .no
        | _ => .no
      | false => .no
    | none => .no
  | .mcall c f i es, env => match gt env i with
    | some (.ob c0 _) => match Nat.beq c0 c with
      | true => (es.ev cx env).bind fun os env => match rds env (.pl i :: os) with
        | some ts => match ndup (plsOf (.pl i :: os)) && ts.all T.arg with
          | true => match cx.call f ts none with
            | .ok t as => .ok (.t t) (putBack env (.pl i :: os) as)
            | _ => .no
          | false => .no
        | none => .no
      | false => .no
    | _ => .no
  | .cloc i, env => match gt env i, cx.clo with
    | some (.clo gs), some F => match F gs with
      | .ok t as => match nxG gs as with
        | some gs' => .ok (.t t) (st env i (some (.clo gs')))
        | none => .no
      | .ex x as => match nxG gs as with
        | some gs' => .ex x (st (env.map fun _ => none) i (some (.cap gs')))
        | none => .no
      | .no => .no
    | _, _ => .no
  | .isx i c, env => match gt env i with
    | some (.x x) => .ok (.t (.v (.bool (cx.sub x.c c)))) env
    | _ => .no
/-- a part of a slice -/
def Oe.pt (cx : EC) : Oe → Env → R (Option Int)
  | .no, env => .ok none env
  | .so e, env => (e.ev cx env).bind fun o env => match o with
    | .t (.v (.int i)) => .ok (some i) env
    | _ => .no
/-- a clause's test -/
def Oe.cond (cx : EC) : Oe → Env → R Bool
  | .no, env => .ok true env
  | .so e, env => truthR (e.ev cx env)
def Es.ev (cx : EC) : Es → Env → R (List Opd)
  | .nil, env => .ok [] env
  | .cons e r, env => (e.ev cx env).bind fun o env => (r.ev cx env).bind fun os env => .ok (o :: os) env
/-- and (true), or: from the left -/
def Es.bo (cx : EC) (w : Bool) : Es → Env → R Opd
  | .nil, _ => .no
  | .cons e r, env => match r with
    | .nil => e.ev cx env
    | .cons e2 r2 => (e.ev cx env).bind fun o env => match rd env o with
      | some t => match truth t with
        | some b => match b == w with
          | true => (Es.cons e2 r2).bo cx w env
          | false => .ok o env
        | none => .no
      | none => .no
def It.ev (cx : EC) : It → Env → R (List Val)
  | .e a, env => (a.ev cx env).bind fun o env => itemsE env o
  | .rng a, env => (a.ev cx env).bind fun o env => match rd env o with
    | some t => match rngF [t] with
      | some l => .ok l env
      | none => .no
    | none => .no
  | .rng2 a b, env => (a.ev cx env).bind fun oa env => (b.ev cx env).bind fun ob env => match rd env oa, rd env ob with
    | some ta, some tb => match rngF [ta, tb] with
      | some l => .ok l env
      | none => .no
    | _, _ => .no
  | .enu a, env => (a.ev cx env).bind fun o env => (itemsE env o).bind fun l env => .ok (enum 0 l) env
  | .zip a b, env => (a.ev cx env).bind fun o env => (b.ev cx env).bind fun o2 env => (esc env o).bind fun x env => (esc env o2).bind fun y env => match zipF x y with
    | some l => .ok l env
    | none => .no
end

def augF : Op → Val → T → Option Val
  | .add, .int a, .v (.int b) => some (.int (a + b))
  | .sub, .int a, .v (.int b) => some (.int (a - b))
  | _, _, _ => none
/-- what a list may be made longer by -/
def extF : T → Option (List Val)
  | .v (.tup r) => some r
  | .vl r => some r
  | .v (.lst r) => some r
  | _ => none
/-! ### statements -/
inductive SR where
  | nx (e : Env) | rt (t : T) (e : Env) | bk (e : Env) | ct (e : Env) | ex (x : Exc) (e : Env) | no
def SR.bind (r : SR) (f : Env → SR) : SR := match r with
  | .nx e => f e
  | r => r
def R.sr {α : Type} (r : R α) (f : α → Env → SR) : SR := match r with
  | .ok a e => f a e
  | .ex x e => .ex x e
  | .no => .no
def forL (tg : Tg) (b : Env → SR) : List Val → Env → SR
  | [], env => .nx env
  | x :: xs, env => match asgV tg x env with
    | none => .no
    | some env => match b env with
      | .nx env => forL tg b xs env
      | .ct env => forL tg b xs env
      | .bk env => .nx env
      | r => r
def whlL (c : Env → R Bool) (b : Env → SR) : Nat → Env → SR
  | 0, _ => .no
  | n + 1, env => (c env).sr fun t env => match t with
    | false => .nx env
    | true => match b env with
      | .nx env => whlL c b n env
      | .ct env => whlL c b n env
      | .bk env => .nx env
      | r => r
def asgTs : List Nat → List T → Env → Option Env
  | [], [], env => some env
  | i :: is, t :: ts, env => asgTs is ts (st env i (some t))
  | _, _, _ => none
/-- no error is held -/
def clrX : Env → Env
  | [] => []
  | some (.x _) :: r => none :: clrX r
  | t :: r => t :: clrX r
def owns : List Opd → Env → R (List T)
  | [], env => .ok [] env
  | o :: r, env => (own env o).bind fun x env => (owns r env).bind fun xs env => .ok (x :: xs) env
mutual
def S.ev (cx : EC) : S → Env → SR
  | .asg tg e, env => match tg with
    | .n i => ((e.ev cx env).bind fun o env => own env o).sr fun t env => .nx (st env i (some t))
    | tg => ((e.ev cx env).bind fun o env => esc env o).sr fun v env => match asgV tg v env with
      | some env => .nx env
      | none => .no
  | .par is es, env => ((es.ev cx env).bind fun os env => owns os env).sr fun ts env => match asgTs is ts env with
    | some env => .nx env
    | none => .no
  | .sti i ix e, env => ((e.ev cx env).bind fun o env => esc env o).sr fun v env => match gt env i with
    | some (.vl _) => (ix.ev cx env).sr fun oi env => match gt env i, oi with
      | some (.vl l), .t (.v (.int n)) => match L2.ixN l.length n with
        | some j => .nx (st env i (some (.vl (l.set j v))))
        | none => .no
      | _, _ => .no
    | some (.vd _ _) => (ix.ev cx env).sr fun oi env => match gt env i, oi with
      | some (.vd ks vs), .t (.v k) => match keyB k && Nat.blt ks.length 1000 with
        | true => .nx (st env i (some (putD k v ks vs)))
        | false => .no
      | _, _ => .no
    | _ => .no
  | .aug o i e, env => match gt env i with
    | some (.v x) => (e.ev cx env).sr fun oe env => match rd env oe with
      | some t => match augF o x t with
        | some v => .nx (st env i (some (.v v)))
        | none => .no
      | none => .no
    | _ => .no
  | .ex e, env => (e.ev cx env).sr fun _ env => .nx env
  | .app i e, env => match gt env i with
    | some (.vl _) => ((e.ev cx env).bind fun o env => esc env o).sr fun v env => match gt env i with
      | some (.vl l) => match Nat.blt l.length 16777216 with
        | true => .nx (st env i (some (.vl (l ++ [v]))))
        | false => .no
      | _ => .no
    | _ => .no
  | .ext i e, env => match gt env i with
    | some (.vl _) => (e.ev cx env).sr fun o env => match rd env o, gt env i with
      | some t, some (.vl l) => match extF t with
        | some r => match fits (l.length + r.length) with
          | true => .nx (st env i (some (.vl (l ++ r))))
          | false => .no
        | none => .no
      | _, _ => .no
    | _ => .no
  | .ifs c a b, env => (truthR (c.ev cx env)).sr fun t env => match t with
    | true => a.ev cx env
    | false => b.ev cx env
  | .whl c b, env => whlL (fun env => truthR (c.ev cx env)) (fun env => b.ev cx env) cx.wl env
  | .for_ tg it b, env => (it.ev cx env).sr fun xs env => forL tg (fun env => b.ev cx env) xs env
  | .ret e, env => match e with
    | .var i => match Nat.ble cx.np i, gt env i with
      | true, some (.vl l) => .rt (.vl l) (st env i none)
      | true, some (.ob c fs) => .rt (.ob c fs) (st env i none)
      | _, _ => ((E.var i).ev cx env).sr fun o env => (own env o).sr fun t env => .rt t env
    | e => (e.ev cx env).sr fun o env => (own env o).sr fun t env => .rt t env
  | .retN, env => .rt (.v .none) env
  | .rai c es, env => ((es.ev cx env).bind fun os env => escs os env).sr fun vs env => .ex ⟨c, vs⟩ env
  | .try_ b c n h, env => match b.ev cx env with
    | .ex x env => match cx.sub x.c c with
      | true => match h.ev cx (st env n (some (.x x))) with
        | .nx env => .nx (clrX (st env n none))
        | .rt t env => match t.arg with
          | true => .rt t (clrX env)
          | false => .no
        | .bk env => .bk (clrX (st env n none))
        | .ct env => .ct (clrX (st env n none))
        | _ => .no
      | false => .ex x env
    | r => r
  | .pass, env => .nx env
  | .brk, env => .bk env
  | .cnt, env => .ct env
  | .bad, _ => .no
  | .sti2 i k1 k2 es, env => ((es.ev cx env).bind fun os env => escs os env).sr fun vs env => match vs, gt env i with
    | [v1, v2], some (.vd ks us) => match (keyB k1 && keyB k2) && Nat.blt ks.length 1000 with
      | true => match putD k1 v1 ks us with
        | .vd a b => .nx (st env i (some (putD k2 v2 a b)))
        | _ => .no
      | false => .no
    | _, _ => .no
  | .sta i f e, env => ((e.ev cx env).bind fun o env => own env o).sr fun t env => match gt env i, flOf t with
    | some (.ob c fs), some x => match Nat.blt fs.length 100 with
      | true => .nx (st env i (some (.ob c (stF f x fs))))
      | false => .no
    | _, _ => .no
  | .apa i f e, env => match gt env i with
    | some (.ob c fs) => match lookF f fs with
      | some (.l l) => ((e.ev cx (st env i none)).bind fun o env => esc env o).sr fun v env => match Nat.blt l.length 16777216 with
        | true => .nx (st env i (some (.ob c (stF f (.l (l ++ [v])) fs))))
        | false => .no
      | _ => .no
    | _ => .no
def Ss.ev (cx : EC) : Ss → Env → SR
  | .nil, env => .nx env
  | .cons s r, env => (s.ev cx env).bind fun env => r.ev cx env
end

/-! ### defs -/
structure FnD where
  name : Str
  ps : List Str
  N : List Str
  body : Ss
  /-- a class's method: the class, its own name -/
  cl : Option (Nat × Str × Str) := none
/-- its own name; name is the qualified one -/
def FnD.nm (d : FnD) : Str := match d.cl with
  | some (_, _, m) => m
  | none => d.name
/-- where it stands -/
def FnD.at_ (d : FnD) : Str × Option Str := match d.cl with
  | some (_, c, m) => (c, some m)
  | none => (d.name, none)
structure Pg where
  fns : List FnD
  gs : List (Str × Val)
  exs : List Str
  sub : Nat → Nat → Bool
  wl : Nat
def backs : List T → Env → List T
  | .v x :: r, _ :: e => .v x :: backs r e
  | _ :: r, some t :: e => t :: backs r e
  | _, _ => []
/-- slots that a body stores -/
def Tg.asg : Tg → List Nat
  | .n i => [i]
  | .t is => is
mutual
def S.as : S → List Nat
  | .asg tg _ => tg.asg
  | .par is _ => is
  | .aug _ i _ => [i]
  | .ifs _ a b => a.as ++ b.as
  | .whl _ b => b.as
  | .for_ tg _ b => tg.asg ++ b.as
  | .try_ b _ n h => n :: (b.as ++ h.as)
  | _ => []
def Ss.as : Ss → List Nat
  | .nil => []
  | .cons s r => s.as ++ r.as
end
/-- what is owned goes to parameters that are not stored -/
def fixOk (as : List Nat) : Nat → List T → Bool
  | _, [] => true
  | n, .v _ :: r => fixOk as (n + 1) r
  | n, _ :: r => !as.contains n && fixOk as (n + 1) r
def Pg.ec (P : Pg) (call : Nat → List T → Option Clo → CR) (np : Nat) (c : Option Clo) : EC := { call := call, gv := P.gs.map (·.2), clo := c, np := np, wl := P.wl, sub := P.sub }
def SR.cr (ts : List T) (r : SR) : CR := match r with
  | .nx env => .ok (.v .none) (backs ts env)
  | .rt t env => match t.arg with
    | true => .ok t (backs ts env)
    | false => .no
  | .ex x env => .ex x (backs ts env)
  | _ => .no
def Pg.call (P : Pg) : Nat → Nat → List T → Option Clo → CR
  | 0, _, _, _ => .no
  | k + 1, f, ts, c => match P.fns[f]? with
    | none => .no
    | some d => match Nat.beq ts.length d.ps.length && fixOk d.body.as 0 ts with
      | false => .no
      | true => (d.body.ev (P.ec (P.call k) d.ps.length c) (ts.map some ++ List.replicate (d.N.length - d.ps.length) none)).cr ts
end Py
namespace Py
open PySem PySem.Spec PyProof.Rows L2

/-! ### what stands for what -/
inductive Lb where
  | rest | slot (i : Nat) | tmp (n : Nat) | tab
  deriving DecidableEq
abbrev Om := Addr → Option Lb
/-- what is fixed: the written part, the defs' addresses, the classes', the closure that was handed in, the error that is held -/
structure Gc where
  K : PySem.W.Frag
  fad : Nat → Addr
  cad : Nat → Addr
  ok : Nat → Bool := fun _ => true
  fld : Nat → Str := fun _ => Str.empty
  cls : Nat → Addr := fun _ => 0
  ncl : Nat := 0
  fnm : List Str := []
  T : List (Addr × Str) := []
def KTup (K : PySem.W.Frag) (a : Addr) (xs : List V) : Prop := ∃ (o : Obj) (its : Array Value) (n : Nat), K.lookup a = some o ∧ o.cls = .type "tuple" ∧ o.data = .seq its n ∧ its.size ≤ sizeLine ∧ Vals xs its.toList
def TupA (K : PySem.W.Frag) (ω : Om) (H : Hp) (a : Addr) (xs : List V) : Prop := (ω a = none ∧ H a = some (.tup xs)) ∨ KTup K a xs
theorem TupA.sq {K : PySem.W.Frag} {ω : Om} {H : Hp} {a : Addr} {xs : List V} (h : TupA K ω H a xs) : SqT K H a xs := by
  rcases h with ⟨_, h⟩ | h
  · exact .inl (.inl h)
  · exact .inr h
/-- a list that nobody writes: locked, or of the program's module -/
def LkL (K : PySem.W.Frag) (ω : Om) (H : Hp) (a : Addr) (xs : List V) : Prop := (ω a = none ∧ Rd H a (.lst xs)) ∨
  ∃ (o : Obj) (its : Array Value) (n : Nat), K.lookup a = some o ∧ o.cls = .type "list" ∧ o.dict = none ∧ o.data = .seq its n ∧ its.size ≤ sizeLine ∧ Vals xs its.toList
theorem LkL.sq {K : PySem.W.Frag} {ω : Om} {H : Hp} {a : Addr} {xs : List V} (h : LkL K ω H a xs) : SqL K H a xs := by
  rcases h with ⟨_, h⟩ | h
  · exact .inl h
  · exact .inr h
section
variable (g : Gc) (ω : Om) (H : Hp)
mutual
def RV : Val → V → Prop
  | .none, x => x = .non
  | .bool b, x => x = .bl b
  | .int i, x => x = .int i
  | .str s, x => x = .str ⟨s.toArray⟩
  | .tup l, x => ∃ a xs, x = .ref a ∧ TupA g.K ω H a xs ∧ RVs l xs
  | .lst l, x => ∃ a xs, x = .ref a ∧ ω a = none ∧ H a = some (.lst xs) ∧ RVs l xs
  | .lck l, x => ∃ a xs, x = .ref a ∧ LkL g.K ω H a xs ∧ RVs l xs
  | .dct ks vs, x => (ks = [] ∧ vs = []) ∧ ∃ a, x = .ref a ∧ ω a = none ∧ H a = some (.dK [])
  | .fn f, x => x = .ref (g.fad f)
def RVs : List Val → List V → Prop
  | [], xs => xs = []
  | v :: l, xs => ∃ x r, xs = x :: r ∧ RV v x ∧ RVs l r
end
end
/-- what is frozen is kept -/
def Kp (ω : Om) (H : Hp) (ω' : Om) (H' : Hp) : Prop := ∀ a o, H a = some o → ω a = none → (∀ ps, o ≠ .tbl ps) → H' a = some o ∧ ω' a = none
/-- neither a table nor a thing of another kind -/
def Ow (o : HO) : Prop := (∀ φ, o ≠ .ext φ) ∧ ∀ ps, o ≠ .tbl ps
/-- a frame's fixed things: the error that is held, the slots that are not stored, the state at the entry -/
structure Fx where
  e : Option (Nat × V × Option Addr) := none
  F : List Nat := []
  s0 : L2.St := []
abbrev Fx.nf (x : Fx) : Fx := { x with F := [] }
abbrev Clx := Option (V × Option Addr × Om × Hp)
/-- the captured list is there -/
def CapOk (g : Gc) (ω : Om) (H : Hp) (k : Lb) : Option Addr → Option (List Val) → Prop
  | none, none => True
  | some a, some l => ω a = some k ∧ ∃ xs, H a = some (.lst xs) ∧ RVs g ω H l xs
  | _, _ => False
def capV : Option Addr → List V
  | none => []
  | some a => [.ref a]
/-- what bears the label is kept -/
def Kk (k : Lb) (ω : Om) (H : Hp) (ω' : Om) (H' : Hp) : Prop := ∀ a, ω a = some k → ω' a = some k ∧ H' a = H a
structure Ext (n : Nat) (ω : Om) (H : Hp) (ω' : Om) (H' : Hp) : Prop where
  kp : Kp ω H ω' H'
  rest : Kk .rest ω H ω' H'
  tmp : ∀ m, m < n → Kk (.tmp m) ω H ω' H'
  back : ∀ a, ω' a = some .rest → ω a = some .rest
section
variable {g : Gc} {n m : Nat} {ω ω' ω'' : Om} {H H' H'' : Hp} {k : Lb}
theorem Kp.trans (a : Kp ω H ω' H') (b : Kp ω' H' ω'' H'') : Kp ω H ω'' H'' := fun p o h h' n => let ⟨h1, h2⟩ := a p o h h' n; b p o h1 h2 n
theorem Kk.trans (a : Kk k ω H ω' H') (b : Kk k ω' H' ω'' H'') : Kk k ω H ω'' H'' := fun p h => let ⟨h1, h2⟩ := a p h; let ⟨h3, h4⟩ := b p h1; ⟨h3, h4.trans h2⟩
theorem Kp.refl : Kp ω H ω H := fun _ _ h h' _ => ⟨h, h'⟩
theorem Kk.refl : Kk k ω H ω H := fun _ h => ⟨h, rfl⟩
theorem Ext.refl : Ext n ω H ω H := ⟨Kp.refl, Kk.refl, fun _ _ => Kk.refl, fun _ h => h⟩
theorem Ext.trans (a : Ext n ω H ω' H') (b : Ext n ω' H' ω'' H'') : Ext n ω H ω'' H'' :=
  ⟨a.kp.trans b.kp, a.rest.trans b.rest, fun m hm => (a.tmp m hm).trans (b.tmp m hm), fun p h => a.back p (b.back p h)⟩
theorem Ext.mono (a : Ext n ω H ω' H') (h : m ≤ n) : Ext m ω H ω' H' := ⟨a.kp, a.rest, fun k hk => a.tmp k (Nat.lt_of_lt_of_le hk h), a.back⟩
theorem TupA.kp (e : Kp ω H ω' H') {K : PySem.W.Frag} {a : Addr} {xs : List V} (h : TupA K ω H a xs) : TupA K ω' H' a xs := by
  rcases h with ⟨h1, h2⟩ | h
  · obtain ⟨h3, h4⟩ := e a _ h2 h1 fun _ z => nomatch z
    exact .inl ⟨h4, h3⟩
  · exact .inr h
theorem LkL.kp (e : Kp ω H ω' H') {K : PySem.W.Frag} {a : Addr} {xs : List V} (h : LkL K ω H a xs) : LkL K ω' H' a xs := by
  rcases h with ⟨h1, h2 | ⟨o, h2⟩⟩ | h
  · obtain ⟨h3, h4⟩ := e a _ h2 h1 fun _ z => nomatch z
    exact .inl ⟨h4, .inl h3⟩
  · obtain ⟨h3, h4⟩ := e a _ h2 h1 fun _ z => nomatch z
    exact .inl ⟨h4, .inr ⟨o, h3⟩⟩
  · exact .inr h
mutual
theorem RV.kp (e : Kp ω H ω' H') : ∀ (v : Val) (x : V), RV g ω H v x → RV g ω' H' v x
  | .none, _, h => h
  | .bool _, _, h => h
  | .int _, _, h => h
  | .str _, _, h => h
  | .fn _, _, h => h
  | .dct _ _, _, ⟨h0, a, h1, h2, h3⟩ => let ⟨q1, q2⟩ := e a _ h3 h2 (fun _ z => nomatch z); ⟨h0, a, h1, q2, q1⟩
  | .tup l, _, ⟨a, xs, h1, h2, h3⟩ => ⟨a, xs, h1, h2.kp e, RVs.kp e l xs h3⟩
  | .lst l, _, ⟨a, xs, h1, h2, h3, h4⟩ => let ⟨q1, q2⟩ := e a _ h3 h2 (fun _ z => nomatch z); ⟨a, xs, h1, q2, q1, RVs.kp e l xs h4⟩
  | .lck l, _, ⟨a, xs, h1, h2, h4⟩ => ⟨a, xs, h1, h2.kp e, RVs.kp e l xs h4⟩
theorem RVs.kp (e : Kp ω H ω' H') : ∀ (l : List Val) (xs : List V), RVs g ω H l xs → RVs g ω' H' l xs
  | [], _, h => h
  | v :: l, _, ⟨x, r, h1, h2, h3⟩ => ⟨x, r, h1, RV.kp e v x h2, RVs.kp e l r h3⟩
end
theorem RVs.kp' (e : Kp ω H ω' H') {l : List Val} {xs : List V} (h : RVs g ω H l xs) : RVs g ω' H' l xs := RVs.kp e l xs h
theorem RV.kp' (e : Kp ω H ω' H') {l : Val} {x : V} (h : RV g ω H l x) : RV g ω' H' l x := RV.kp e l x h
/-! lists of values -/
theorem RVs.length : ∀ {l : List Val} {xs : List V}, RVs g ω H l xs → xs.length = l.length
  | [], _, h => by rw [show _ = ([] : List V) from h]; rfl
  | v :: l, _, ⟨x, r, h1, h2, h3⟩ => by rw [h1, List.length_cons, List.length_cons, RVs.length h3]
theorem RVs.append : ∀ {l r : List Val} {xs ys : List V}, RVs g ω H l xs → RVs g ω H r ys → RVs g ω H (l ++ r) (xs ++ ys)
  | [], _, _, _, h, h' => by rw [show _ = ([] : List V) from h]; exact h'
  | v :: l, _, _, _, ⟨x, r, h1, h2, h3⟩, h' => by rw [h1]; exact ⟨x, _, rfl, h2, RVs.append h3 h'⟩
theorem RVs.get : ∀ {l : List Val} {xs : List V} {i : Nat} {v : Val}, RVs g ω H l xs → l[i]? = some v → ∃ x, xs[i]? = some x ∧ RV g ω H v x
  | [], _, _, _, _, h => by simp at h
  | v :: l, _, 0, w, ⟨x, r, h1, h2, h3⟩, h => by
    simp at h; subst h; rw [h1]; exact ⟨x, rfl, h2⟩
  | v :: l, _, i + 1, w, ⟨x, r, h1, h2, h3⟩, h => by
    rw [h1]; simpa using RVs.get (i := i) (v := w) h3 (by simpa using h)
theorem RVs.drop : ∀ {l : List Val} {xs : List V} (n : Nat), RVs g ω H l xs → RVs g ω H (l.drop n) (xs.drop n)
  | _, _, 0, h => h
  | [], _, _ + 1, h => by rw [show _ = ([] : List V) from h]; rfl
  | v :: l, _, n + 1, ⟨x, r, h1, h2, h3⟩ => by rw [h1]; exact RVs.drop n h3
theorem RVs.take : ∀ {l : List Val} {xs : List V} (n : Nat), RVs g ω H l xs → RVs g ω H (l.take n) (xs.take n)
  | _, _, 0, h => rfl
  | [], _, _ + 1, h => by rw [show _ = ([] : List V) from h]; rfl
  | v :: l, _, n + 1, ⟨x, r, h1, h2, h3⟩ => by rw [h1]; exact ⟨x, _, rfl, h2, RVs.take n h3⟩
theorem RVs.set : ∀ {l : List Val} {xs : List V} {v : Val} {x : V} (n : Nat), RVs g ω H l xs → RV g ω H v x → RVs g ω H (l.set n v) (xs.set n x)
  | [], _, _, _, _, h, _ => by rw [show _ = ([] : List V) from h]; rfl
  | v :: l, _, _, _, 0, ⟨x, r, h1, h2, h3⟩, h => by rw [h1]; exact ⟨_, _, rfl, h, h3⟩
  | v :: l, _, _, _, n + 1, ⟨x, r, h1, h2, h3⟩, h => by rw [h1]; exact ⟨_, _, rfl, h2, RVs.set n h3 h⟩
theorem RVs.cons {v : Val} {x : V} {l : List Val} {xs : List V} (h : RV g ω H v x) (h' : RVs g ω H l xs) : RVs g ω H (v :: l) (x :: xs) := ⟨x, xs, rfl, h, h'⟩
theorem RVs.rep {l : List Val} {xs : List V} (h : RVs g ω H l xs) : ∀ k : Nat, RVs g ω H (List.replicate k l).flatten (List.replicate k xs).flatten
  | 0 => rfl
  | k + 1 => by
    rw [List.replicate_succ, List.replicate_succ, List.flatten_cons, List.flatten_cons]
    exact h.append (RVs.rep h k)
theorem RVs.dropLast {l : List Val} {xs : List V} (h : RVs g ω H l xs) : RVs g ω H l.dropLast xs.dropLast := by
  rw [List.dropLast_eq_take, List.dropLast_eq_take, h.length]; exact h.take _
theorem RVs.isEmpty {l : List Val} {xs : List V} (h : RVs g ω H l xs) : xs.isEmpty = l.isEmpty := by
  have := h.length
  cases l <;> cases xs <;> simp_all
theorem cutV_cutL (xs : List V) (lo hi : Option Int) : cutV xs lo hi = cutL xs lo hi := rfl
theorem RVs.cut {l : List Val} {xs : List V} (h : RVs g ω H l xs) (lo hi : Option Int) : RVs g ω H (cutL l lo hi) (cutL xs lo hi) := by
  unfold cutL
  rw [h.length]
  exact (h.drop _).take _
theorem RVs.ints : ∀ {l : List Val} {xs : List V} {ns : List Int}, RVs g ω H l xs → intsOf l = some ns → xs = ns.map V.int
  | [], _, _, h, e => by rw [show _ = ([] : List V) from h]; cases e; rfl
  | v :: l, _, _, ⟨x, r, h1, h2, h3⟩, e => by
    cases v with
    | int i =>
      have e' : (intsOf l).map (i :: ·) = some _ := e
      cases q : intsOf l with
      | none => rw [q] at e'; cases e'
      | some ms => rw [q] at e'; cases e'; rw [h1, h2, RVs.ints h3 q]; rfl
    | _ => cases e
theorem RVs.bools : ∀ {l : List Val} {xs : List V} {ns : List Bool}, RVs g ω H l xs → boolsOf l = some ns → xs = ns.map V.bl
  | [], _, _, h, e => by rw [show _ = ([] : List V) from h]; cases e; rfl
  | v :: l, _, _, ⟨x, r, h1, h2, h3⟩, e => by
    cases v with
    | bool i =>
      have e' : (boolsOf l).map (i :: ·) = some _ := e
      cases q : boolsOf l with
      | none => rw [q] at e'; cases e'
      | some ms => rw [q] at e'; cases e'; rw [h1, h2, RVs.bools h3 q]; rfl
    | _ => cases e
end
/-! ### owned things -/
def keyV : Val → Option Key
  | .int i => some (.inl i)
  | .str s => some (.inr ⟨s.toArray⟩)
  | _ => none
/-- a dict's keys and values -/
def DK (g : Gc) (ω : Om) (H : Hp) : List Val → List Val → List (Key × V) → Prop
  | [], [], kvs => kvs = []
  | k :: ks, v :: vs, kvs => ∃ q y r, kvs = (q, y) :: r ∧ keyV k = some q ∧ RV g ω H v y ∧ DK g ω H ks vs r
  | _, _, _ => False
theorem DK.kp {g : Gc} {ω ω' : Om} {H H' : Hp} (e : Kp ω H ω' H') : ∀ {ks vs : List Val} {kvs : List (Key × V)}, DK g ω H ks vs kvs → DK g ω' H' ks vs kvs
  | [], [], _, h => h
  | k :: ks, v :: vs, _, ⟨q, y, r, h1, h2, h3, h4⟩ => ⟨q, y, r, h1, h2, h3.kp' e, DK.kp e h4⟩
  | [], _ :: _, _, h => h
  | _ :: _, [], _, h => h
/-- an attribute's value -/
def FV (g : Gc) (ω : Om) (H : Hp) (k : Lb) : Fl → V → Prop
  | .v x, y => RV g ω H x y
  | .l xs, y => ∃ b ys, y = .ref b ∧ ω b = some k ∧ H b = some (.lst ys) ∧ RVs g ω H xs ys
/-- the address of a list that the object owns -/
def FA : Fl → V → List Addr
  | .l _, .ref b => [b]
  | _, _ => []
/-- an object's attributes; no list stands at an address of used, none twice -/
def FR (g : Gc) (ω : Om) (H : Hp) (k : Lb) : List Addr → List (Nat × Fl) → List (Str × V) → Prop
  | _, [], vs => vs = []
  | u, (f, x) :: fs, vs => ∃ nm y r, vs = (nm, y) :: r ∧ g.fnm[f]? = some nm ∧ FV g ω H k x y ∧ (∀ b ∈ FA x y, b ∉ u) ∧ FR g ω H k (FA x y ++ u) fs r
theorem FV.kp {g : Gc} {ω ω' : Om} {H H' : Hp} {k k' : Lb} (e : Kp ω H ω' H') : ∀ {x : Fl} {y : V}, FV g ω H k x y → (∀ b ∈ FA x y, ω' b = some k' ∧ H' b = H b) → FV g ω' H' k' x y
  | .v x, y, h, _ => RV.kp e x y h
  | .l xs, _, ⟨b, ys, h1, h2, h3, h4⟩, c => by
    subst h1
    obtain ⟨q1, q2⟩ := c b List.mem_cons_self
    exact ⟨b, ys, rfl, q1, q2.trans h3, h4.kp' e⟩
theorem FV.lb {g : Gc} {ω : Om} {H : Hp} {k : Lb} : ∀ {x : Fl} {y : V}, FV g ω H k x y → ∀ b ∈ FA x y, ω b = some k
  | .v _, _, _, b, hb => by cases hb
  | .l xs, _, ⟨b, ys, h1, h2, h3, h4⟩, c, hc => by
    subst h1
    rcases List.mem_cons.mp hc with rfl | hc
    · exact h2
    · cases hc
theorem FV.ls {g : Gc} {ω : Om} {H : Hp} {k : Lb} : ∀ {x : Fl} {y : V}, FV g ω H k x y → ∀ b ∈ FA x y, ∃ ys, H b = some (.lst ys)
  | .v _, _, _, b, hb => by cases hb
  | .l xs, _, ⟨b, ys, h1, h2, h3, h4⟩, c, hc => by
    subst h1
    rcases List.mem_cons.mp hc with rfl | hc
    · exact ⟨ys, h3⟩
    · cases hc
theorem FR.kp {g : Gc} {ω ω' : Om} {H H' : Hp} {k k' : Lb} (e : Kp ω H ω' H') (c : ∀ b ys, ω b = some k → H b = some (.lst ys) → ω' b = some k' ∧ H' b = H b) : ∀ {u : List Addr} {fs : List (Nat × Fl)} {vs : List (Str × V)}, FR g ω H k u fs vs → FR g ω' H' k' u fs vs
  | _, [], _, h => h
  | u, (f, x) :: fs, _, ⟨nm, y, r, h1, h2, h3, h4, h5⟩ => ⟨nm, y, r, h1, h2, h3.kp e (fun b hb => let ⟨ys, q⟩ := h3.ls b hb; c b ys (h3.lb b hb) q), h4, FR.kp e c h5⟩
theorem FR.mono {g : Gc} {ω : Om} {H : Hp} {k : Lb} : ∀ {u u' : List Addr} {fs : List (Nat × Fl)} {vs : List (Str × V)}, (∀ b ∈ u', b ∈ u) → FR g ω H k u fs vs → FR g ω H k u' fs vs
  | _, _, [], _, _, h => h
  | u, u', (f, x) :: fs, _, hu, ⟨nm, y, r, h1, h2, h3, h4, h5⟩ => ⟨nm, y, r, h1, h2, h3, fun b hb z => h4 b hb (hu b z), FR.mono (fun b hb => by
      rcases List.mem_append.mp hb with hb | hb
      · exact List.mem_append.mpr (.inl hb)
      · exact List.mem_append.mpr (.inr (hu b hb))) h5⟩
theorem FR.len {g : Gc} {ω : Om} {H : Hp} {k : Lb} : ∀ {u : List Addr} {fs : List (Nat × Fl)} {vs : List (Str × V)}, FR g ω H k u fs vs → vs.length = fs.length
  | _, [], _, h => by rw [show _ = ([] : List (Str × V)) from h]; rfl
  | u, (f, x) :: fs, _, ⟨nm, y, r, h1, _, _, _, h5⟩ => by rw [h1, List.length_cons, List.length_cons, FR.len h5]
section
variable (g : Gc) (cl : Clx) (xa : Fx) (ω : Om) (H : Hp)
/-- what an error keeps: its dict -/
def XD (e : Exc) : Option Addr → Prop
  | none => e.as = []
  | some dx => ω dx = none ∧ ∃ v y, e.as = [v] ∧ H dx = some (.xd [(g.fld e.c, y)]) ∧ RV g ω H v y
def RT (k : Lb) : T → V → Prop
  | .v v, x => RV g ω H v x
  | .vl l, x => ∃ a xs, x = .ref a ∧ ω a = some k ∧ H a = some (.lst xs) ∧ RVs g ω H l xs
  | .vd ks vs, x => ∃ a kvs, x = .ref a ∧ ω a = some k ∧ H a = some (.dK kvs) ∧ DK g ω H ks vs kvs
  | .x e, x => ∃ d, xa.e = some (e.c, x, d) ∧ XD g ω H e d
  | .clo gs, x => ∃ a ω0 H0, cl = some (x, a, ω0, H0) ∧ Kp ω0 H0 ω H ∧ CapOk g ω H k a gs
  | .cap gs, _ => ∃ x a ω0 H0, cl = some (x, a, ω0, H0) ∧ Kp ω0 H0 ω H ∧ CapOk g ω H k a gs
  | .ob c fs, x => ∃ a dx vs, x = .ref a ∧ ω a = some k ∧ H a = some (.ins (g.cls c) dx vs) ∧ c < g.ncl ∧ FR g ω H k [] fs vs
/-- the tables of code objects; what is owned is there -/
structure Trk : Prop where
  any : ∀ a, ω a ≠ none → (∃ o, H a = some o ∧ Ow o) ∨ a ∈ g.T.map (·.1)
  tab : ∀ p ∈ g.T, ω p.1 = some .tab ∧ ∃ ps : Array Value, H p.1 = some (.tbl ps) ∧ TriplesOk ps.toList ∧ ∀ (pos : Pos) (cv : Value), codeAmong pos ps.toList = some cv → ∃ c, cv = .ref c ∧ H c = some (LamX.CodeO c p.2) ∧ ω c = none
/-- what a frame holds -/
structure Rel (env : Env) (σ : L2.St) : Prop where
  len : σ.length = env.length
  at0 : ∀ i t, gt env i = some t → ∃ x, (t.isCap = false → σ[i]? = some (some x)) ∧ RT g cl xa ω H (.slot i) t x
  fix : ∀ j ∈ xa.F, σ[j]? = xa.s0[j]?
  trk : Trk g ω H
end
section
variable {g : Gc} {cl : Clx} {xa : Fx} {n m : Nat} {ω ω' ω'' : Om} {H H' H'' : Hp} {env : Env} {σ : L2.St}
theorem CapOk.keep {k : Lb} (e : Kp ω H ω' H') (c : Kk k ω H ω' H') : ∀ {a : Option Addr} {gs : Option (List Val)}, CapOk g ω H k a gs → CapOk g ω' H' k a gs
  | none, none, _ => trivial
  | some a, some l, ⟨h1, xs, h2, h3⟩ => let ⟨q1, q2⟩ := c a h1; ⟨q1, xs, q2.trans h2, h3.kp' e⟩
  | none, some _, h => h
  | some _, none, h => h
theorem CapOk.relabel {k k' : Lb} (e : ∀ a, ω a = none → ω' a = none) (c : ∀ a, ω a = some k → ω' a = some k') : ∀ {a : Option Addr} {gs : Option (List Val)}, CapOk g ω H k a gs → CapOk g ω' H k' a gs
  | none, none, _ => trivial
  | some a, some l, ⟨h1, xs, h2, h3⟩ => ⟨c a h1, xs, h2, h3.kp' fun a o h1 h2 _ => ⟨h1, e a h2⟩⟩
  | none, some _, h => h
  | some _, none, h => h
theorem Rel.at_ (r : Rel g cl xa ω H env σ) (i : Nat) (t : T) (h : gt env i = some t) (hc : t.isCap = false := by rfl) : ∃ x, σ[i]? = some (some x) ∧ RT g cl xa ω H (.slot i) t x :=
  let ⟨x, h1, h2⟩ := r.at0 i t h
  ⟨x, h1 hc, h2⟩
/-- what the slot holds stands for it -/
theorem Rel.at' (r : Rel g cl xa ω H env σ) {i : Nat} {t : T} {x : V} (h : gt env i = some t) (hx : σ[i]? = some (some x)) : RT g cl xa ω H (.slot i) t x := by
  obtain ⟨y, h1, h2⟩ := r.at0 i t h
  cases t with
  | cap gs => exact h2
  | _ =>
    have := h1 rfl
    rw [hx] at this
    cases this
    exact h2
theorem XD.kp (e : Kp ω H ω' H') {x : Exc} : ∀ {d : Option Addr}, XD g ω H x d → XD g ω' H' x d
  | none, h => h
  | some dx, ⟨h1, v, y, h2, h3, h4⟩ => let ⟨q1, q2⟩ := e dx _ h3 h1 (fun _ z => nomatch z); ⟨q2, v, y, h2, q1, h4.kp' e⟩
theorem RT.keep {k : Lb} (e : Kp ω H ω' H') (c : Kk k ω H ω' H') {t : T} {x : V} (h : RT g cl xa ω H k t x) : RT g cl xa ω' H' k t x := by
  cases t with
  | v v => exact RV.kp e v x h
  | vl l =>
    obtain ⟨a, xs, h1, h2, h3, h4⟩ := h
    obtain ⟨q1, q2⟩ := c a h2
    exact ⟨a, xs, h1, q1, q2.trans h3, h4.kp' e⟩
  | vd _ _ =>
    obtain ⟨a, kvs, h1, h2, h3, h4⟩ := h
    obtain ⟨q1, q2⟩ := c a h2
    exact ⟨a, kvs, h1, q1, q2.trans h3, h4.kp e⟩
  | x _ => obtain ⟨d, h1, h2⟩ := h; exact ⟨d, h1, h2.kp e⟩
  | clo gs => obtain ⟨a, w, h0, q, z, y⟩ := h; exact ⟨a, w, h0, q, z.trans e, y.keep e c⟩
  | cap gs => obtain ⟨x, a, w, h0, q, z, y⟩ := h; exact ⟨x, a, w, h0, q, z.trans e, y.keep e c⟩
  | ob d fs => obtain ⟨a, dx, vs, h1, h2, h3, h4, h5⟩ := h; obtain ⟨q1, q2⟩ := c a h2; exact ⟨a, dx, vs, h1, q1, q2.trans h3, h4, h5.kp e fun b _ z _ => c b z⟩
theorem RT.relabel {k k' : Lb} (e : ∀ a, ω a = none → ω' a = none) (c : ∀ a, ω a = some k → ω' a = some k') {t : T} {x : V} (h : RT g cl xa ω H k t x) : RT g cl xa ω' H k' t x := by
  have e' : Kp ω H ω' H := fun a o h1 h2 _ => ⟨h1, e a h2⟩
  cases t with
  | v v => exact RV.kp e' v x h
  | vl l =>
    obtain ⟨a, xs, h1, h2, h3, h4⟩ := h
    exact ⟨a, xs, h1, c a h2, h3, h4.kp' e'⟩
  | vd _ _ =>
    obtain ⟨a, kvs, h1, h2, h3, h4⟩ := h
    exact ⟨a, kvs, h1, c a h2, h3, h4.kp e'⟩
  | x _ => obtain ⟨d, h1, h2⟩ := h; exact ⟨d, h1, h2.kp e'⟩
  | clo gs => obtain ⟨a, w, h0, q, z, y⟩ := h; exact ⟨a, w, h0, q, z.trans e', y.relabel e c⟩
  | cap gs => obtain ⟨x, a, w, h0, q, z, y⟩ := h; exact ⟨x, a, w, h0, q, z.trans e', y.relabel e c⟩
  | ob d fs => obtain ⟨a, dx, vs, h1, h2, h3, h4, h5⟩ := h; exact ⟨a, dx, vs, h1, c a h2, h3, h4, h5.kp e' fun b _ hb _ => ⟨c b hb, rfl⟩⟩
theorem RT.nf {k : Lb} {t : T} {x : V} {xa' : Fx} (he : xa'.e = xa.e) (h : RT g cl xa ω H k t x) : RT g cl xa' ω H k t x := by
  cases t with
  | v v => exact h
  | vl l => exact h
  | vd _ _ => exact h
  | x _ => obtain ⟨d, h1, h2⟩ := h; exact ⟨d, he.trans h1, h2⟩
  | clo gs => exact h
  | cap gs => exact h
  | ob _ _ => exact h
/-- gt, st -/
theorem gt_st : ∀ (env : Env) (i j : Nat) (t : Option T), gt (st env i t) j = if j = i ∧ i < env.length then t else gt env j
  | [], i, j, t => by simp [st, gt]
  | x :: r, 0, 0, t => by simp [st, gt]
  | x :: r, 0, j + 1, t => by simp [st, gt]
  | x :: r, i + 1, 0, t => by simp [st, gt]
  | x :: r, i + 1, j + 1, t => by simp [st, gt, gt_st r i j t]
theorem st_length : ∀ (env : Env) (i : Nat) (t : Option T), (st env i t).length = env.length
  | [], _, _ => rfl
  | _ :: _, 0, _ => rfl
  | x :: r, i + 1, t => by simp [st, st_length r i t]
theorem gt_lt : ∀ {env : Env} {i : Nat} {t : T}, gt env i = some t → i < env.length
  | [], i, t, h => by cases h
  | x :: r, 0, t, h => by simp
  | x :: r, i + 1, t, h => by simpa using gt_lt (env := r) (i := i) h
/-- the label of an address is changed -/
def lab (ω : Om) (a : Addr) (k : Option Lb) : Om := fun b => if b = a then k else ω b
theorem lab_same {a : Addr} {k : Option Lb} : lab ω a k a = k := if_pos rfl
theorem lab_ne {a b : Addr} {k : Option Lb} (h : b ≠ a) : lab ω a k b = ω b := if_neg h
theorem Trk.there (t : Trk g ω H) {a : Addr} (h : ω a ≠ none) : ∃ o, H a = some o := by
  rcases t.any a h with ⟨o, q, _⟩ | q
  · exact ⟨o, q⟩
  · obtain ⟨p, hp, rfl⟩ := List.mem_map.mp q
    obtain ⟨_, ps, q2, _⟩ := t.tab p hp
    exact ⟨_, q2⟩
theorem Trk.ne (t : Trk g ω H) {a p : Addr} {k : Lb} (h : ω a = some k) (hp : H p = none) : a ≠ p := by
  intro e; subst e
  obtain ⟨o, q⟩ := t.there (a := a) (by rw [h]; exact fun q => nomatch q)
  rw [hp] at q; cases q
theorem Trk.frz (t : Trk g ω H) {p : Addr} (hp : H p = none) : ω p = none := by
  cases q : ω p with
  | none => rfl
  | some k =>
    obtain ⟨o, z⟩ := t.there (a := p) (by rw [q]; exact fun q => nomatch q)
    rw [hp] at z; cases z
theorem Trk.step (t : Trk g ω H) (h1 : ∀ a, ω' a ≠ none → (∃ o, H' a = some o ∧ Ow o) ∨ a ∈ g.T.map (·.1)) (kp : Kp ω H ω' H') (kk : Kk .tab ω H ω' H') : Trk g ω' H' where
  any := h1
  tab := fun p hp => by
    obtain ⟨q1, ps, q2, q3, q4⟩ := t.tab p hp
    obtain ⟨w1, w2⟩ := kk p.1 q1
    refine ⟨w1, ps, w2.trans q2, q3, fun pos cv h => ?_⟩
    obtain ⟨c, c1, c2, c3⟩ := q4 pos cv h
    obtain ⟨d1, d2⟩ := kp c _ c2 c3 fun _ z => nomatch z
    exact ⟨c, c1, d1, d2⟩
/-- a new object, of the label k (or frozen) -/
theorem new_kp {p : Addr} {o : HO} {k : Option Lb} (hp : H p = none) : Kp ω H (lab ω p k) (upd H p o) := fun a u h h' _ => by
  have e := ne_of_none h hp
  rw [upd_ne e, lab_ne e]; exact ⟨h, h'⟩
theorem new_kk {p : Addr} {o : HO} {k : Option Lb} {l : Lb} (t : Trk g ω H) (hp : H p = none) : Kk l ω H (lab ω p k) (upd H p o) := fun a h => by
  have e := t.ne h hp
  rw [upd_ne e, lab_ne e]; exact ⟨h, rfl⟩
theorem new_trk {p : Addr} {o : HO} {k : Option Lb} (t : Trk g ω H) (hp : H p = none) (ho : Ow o) : Trk g (lab ω p k) (upd H p o) := t.step (fun a h => by
  by_cases e : a = p
  · subst e; exact .inl ⟨o, upd_same, ho⟩
  · rw [upd_ne e]; rw [lab_ne e] at h; exact t.any a h) (new_kp hp) (new_kk t hp)
theorem ow_lst {xs : List V} : Ow (.lst xs) := And.intro (fun _ z => nomatch z) (fun _ z => nomatch z)
theorem ow_tup {xs : List V} : Ow (.tup xs) := And.intro (fun _ z => nomatch z) (fun _ z => nomatch z)
theorem new_ext {p : Addr} {o : HO} {k : Option Lb} (t : Trk g ω H) (hp : H p = none) (hk : k ≠ some .rest) : Ext n ω H (lab ω p k) (upd H p o) :=
  ⟨new_kp hp, new_kk t hp, fun _ _ => new_kk t hp, fun a h => by
    by_cases e : a = p
    · subst e; rw [lab_same] at h; exact absurd h hk
    · rwa [lab_ne e] at h⟩
theorem Rel.keep (r : Rel g cl xa ω H env σ) (e : Kp ω H ω' H') (c : ∀ i, Kk (.slot i) ω H ω' H') (t : Trk g ω' H') : Rel g cl xa ω' H' env σ :=
  ⟨r.len, fun i t h => let ⟨x, h1, h2⟩ := r.at0 i t h; ⟨x, h1, h2.keep e (c i)⟩, r.fix, t⟩
theorem Rel.new (r : Rel g cl xa ω H env σ) {p : Addr} {o : HO} {k : Option Lb} (hp : H p = none) (ho : Ow o) : Rel g cl xa (lab ω p k) (upd H p o) env σ :=
  r.keep (new_kp hp) (fun _ => new_kk r.trk hp) (new_trk r.trk hp ho)
/-- an address of the label k is frozen, or handed on to another label -/
theorem lab_kp {a : Addr} {k : Option Lb} {l : Lb} (h : ω a = some l) : Kp ω H (lab ω a k) H := fun b u h1 h2 _ => by
  have e : b ≠ a := fun e => by subst e; rw [h] at h2; cases h2
  rw [lab_ne e]; exact ⟨h1, h2⟩
theorem lab_kk {a : Addr} {k : Option Lb} {l m : Lb} (h : ω a = some l) (hm : m ≠ l) : Kk m ω H (lab ω a k) H := fun b h1 => by
  have e : b ≠ a := fun e => by subst e; rw [h] at h1; cases h1; exact hm rfl
  rw [lab_ne e]; exact ⟨h1, rfl⟩
theorem lab_trk {a : Addr} {k : Option Lb} {l : Lb} (t : Trk g ω H) (h : ω a = some l) (hl : l ≠ .tab := by exact fun q => nomatch q) : Trk g (lab ω a k) H := t.step (fun b hb => by
  by_cases e : b = a
  · subst e; exact t.any b (by rw [h]; exact fun q => nomatch q)
  · rw [lab_ne e] at hb; exact t.any b hb) (lab_kp h) (lab_kk h (Ne.symm hl))
theorem lab_ext {a : Addr} {k : Option Lb} {l : Lb} (h : ω a = some l) (hl : l ≠ .rest) (hm : ∀ m, m < n → l ≠ .tmp m) (hk : k ≠ some .rest) : Ext n ω H (lab ω a k) H :=
  ⟨lab_kp h, lab_kk h (Ne.symm hl), fun m h' => lab_kk h (Ne.symm (hm m h')), fun b hb => by
    by_cases e : b = a
    · subst e; rw [lab_same] at hb; exact absurd hb hk
    · rwa [lab_ne e] at hb⟩
/-- the object at an address of the label l is written -/
theorem wr_kp {a : Addr} {o : HO} {l : Lb} (h : ω a = some l) : Kp ω H ω (upd H a o) := fun b u h1 h2 _ => by
  have e : b ≠ a := fun e => by subst e; rw [h] at h2; cases h2
  rw [upd_ne e]; exact ⟨h1, h2⟩
theorem wr_kk {a : Addr} {o : HO} {l m : Lb} (h : ω a = some l) (hm : m ≠ l) : Kk m ω H ω (upd H a o) := fun b h1 => by
  have e : b ≠ a := fun e => by subst e; rw [h] at h1; cases h1; exact hm rfl
  rw [upd_ne e]; exact ⟨h1, rfl⟩
theorem wr_trk {a : Addr} {o : HO} {l : Lb} (t : Trk g ω H) (h : ω a = some l) (ho : Ow o) (hl : l ≠ .tab := by exact fun q => nomatch q) : Trk g ω (upd H a o) := t.step (fun b hb => by
  by_cases e : b = a
  · subst e; exact .inl ⟨o, upd_same, ho⟩
  · rw [upd_ne e]; exact t.any b hb) (wr_kp h) (wr_kk h (Ne.symm hl))
theorem wr_ext {a : Addr} {o : HO} {l : Lb} (h : ω a = some l) (hl : l ≠ .rest) (hm : ∀ m, m < n → l ≠ .tmp m) : Ext n ω H ω (upd H a o) :=
  ⟨wr_kp h, wr_kk h (Ne.symm hl), fun m h' => wr_kk h (Ne.symm (hm m h')), fun b hb => hb⟩
theorem slot_ne {i j : Nat} (h : i ≠ j) : Lb.slot i ≠ Lb.slot j := fun q => h (by cases q; rfl)
/-- a slot is stored: its new thing -/
theorem fix_set {F : List Nat} {s0 : L2.St} {i : Nat} {y : Option V} (h : ∀ j ∈ F, σ[j]? = s0[j]?) (hi : i ∉ F) : ∀ j ∈ F, (σ.set i y)[j]? = s0[j]? := fun j hj => by
  rw [List.getElem?_set_ne fun z => hi (by rw [z]; exact hj)]; exact h j hj
theorem Rel.set (r : Rel g cl xa ω H env σ) {i : Nat} {t : T} {x : V} (h : RT g cl xa ω H (.slot i) t x) (hi : i ∉ xa.F) : Rel g cl xa ω H (st env i (some t)) (σ.set i (some x)) where
  fix := fix_set r.fix hi
  len := by rw [st_length, List.length_set, r.len]
  at0 := fun j u hj => by
    rw [gt_st] at hj
    by_cases e : j = i ∧ i < env.length
    · rw [if_pos e] at hj
      cases hj
      obtain ⟨rfl, hl⟩ := e
      exact ⟨x, fun _ => by rw [List.getElem?_set_self (by rw [r.len]; exact hl)], h⟩
    · rw [if_neg e] at hj
      obtain ⟨y, h1, h2⟩ := r.at0 j u hj
      have hlt := gt_lt hj
      have ne : j ≠ i := fun q => e ⟨q, by rw [← q]; exact hlt⟩
      exact ⟨y, fun c => by rw [List.getElem?_set_ne (Ne.symm ne)]; exact h1 c, h2⟩
  trk := r.trk
/-- the same value, another view of it -/
theorem Rel.put (r : Rel g cl xa ω H env σ) {i : Nat} {t : T} {x : V} (hx : σ[i]? = some (some x)) (h : RT g cl xa ω H (.slot i) t x) : Rel g cl xa ω H (st env i (some t)) σ where
  fix := r.fix
  len := by rw [st_length, r.len]
  at0 := fun j u hj => by
    rw [gt_st] at hj
    by_cases e : j = i ∧ i < env.length
    · rw [if_pos e] at hj
      cases hj
      obtain ⟨rfl, hl⟩ := e
      exact ⟨x, fun _ => hx, h⟩
    · rw [if_neg e] at hj
      exact r.at0 j u hj
  trk := r.trk
theorem Rel.drop (r : Rel g cl xa ω H env σ) {i : Nat} {y : Option V} (hi : i ∉ xa.F) : Rel g cl xa ω H (st env i none) (σ.set i y) where
  fix := fix_set r.fix hi
  len := by rw [st_length, List.length_set, r.len]
  at0 := fun j u hj => by
    rw [gt_st] at hj
    by_cases e : j = i ∧ i < env.length
    · rw [if_pos e] at hj; cases hj
    · rw [if_neg e] at hj
      obtain ⟨z, h1, h2⟩ := r.at0 j u hj
      have hlt := gt_lt hj
      have ne : j ≠ i := fun q => e ⟨q, by rw [← q]; exact hlt⟩
      exact ⟨z, fun c => by rw [List.getElem?_set_ne (Ne.symm ne)]; exact h1 c, h2⟩
  trk := r.trk
theorem Rel.drop0 (r : Rel g cl xa ω H env σ) {i : Nat} : Rel g cl xa ω H (st env i none) σ where
  fix := r.fix
  len := by rw [st_length, r.len]
  at0 := fun j u hj => by
    rw [gt_st] at hj
    by_cases e : j = i ∧ i < env.length
    · rw [if_pos e] at hj; cases hj
    · rw [if_neg e] at hj
      exact r.at0 j u hj
  trk := r.trk
end
end Py
namespace Py
open PySem PySem.Spec PyProof.Rows L2

/-! ### the checker: an IR is this piece of syntax -/
def seq (a b : Str) : Bool := decide (a = b)
theorem seq_ok {a b : Str} (h : seq a b = true) : a = b := of_decide_eq_true h
def at? (N : List Str) (i : Nat) (x : Str) : Bool := match N[i]? with
  | some y => seq y x
  | none => false
def visB (sc : Scope) (x : Str) : Bool := match sc.names.lookup x with
  | some .local => true
  | some .cell => true
  | some .free => true
  | _ => false
def locB (sc : Scope) (x : Str) : Bool := match sc.names.lookup x with
  | some .local => true
  | some .cell => true
  | _ => false
def glB (sc : Scope) (x : Str) : Bool := match sc.names.lookup x with
  | some .globalImplicit => true
  | _ => false
def plainNm (x : Str) : Bool := !(x == ("__debug__" : Str)) && !(x == ("__classdict__" : Str))
def varOk (N : List Str) (sc : Scope) (i : Nat) (x : Str) : Bool := at? N i x && (visB sc x && plainNm x)
def stoOk (N : List Str) (sc : Scope) (i : Nat) (x : Str) : Bool := at? N i x && locB sc x
def constOk : Val → Const → Bool
  | .none, .none => true
  | .bool b, .bool c => b == c
  | .int i, .int j => decide (i = j)
  | .str s, .str z => decide (z.cps.toList = s)
  | _, _ => false
def opOk : Op → Operator → Bool
  | .add, .Add => true | .sub, .Sub => true | .mul, .Mult => true | .fdiv, .FloorDiv => true | .mod, .Mod => true | .pow, .Pow => true | .shl, .LShift => true
  | _, _ => false
def cpOk : Cp → CmpOp → Bool
  | .eq, .Eq => true | .ne, .NotEq => true | .lt, .Lt => true | .le, .LtE => true | .gt, .Gt => true | .ge, .GtE => true | .is, .Is => true | .isnot, .IsNot => true
  | .isin, .In => true | .notin, .NotIn => true
  | _, _ => false
def Ty.nm : Ty → Str
  | .int => "int" | .bool => "bool" | .str => "str" | .tuple => "tuple" | .list => "list" | .dict => "dict"
/-- not a starred thing, not a slice, not a set's display, not a comprehension -/
def plainE : Expr → Bool
  | .Starred .. => false
  | .Slice .. => false
  | .Set .. => false
  | _ => true
def noComp : Expr → Bool
  | .ListComp .. => false
  | .SetComp .. => false
  | .DictComp .. => false
  | _ => true
/-- no super() -/
def noSup : Expr → Bool
  | .Call (.Name ..) [] [] _ => false
  | _ => true
def noTup : Expr → Bool
  | .Tuple .. => false
  | _ => true
def ownOf (N : List Str) (own : List Nat) : List (Str × Nat) := own.map fun i => (N.getD i Str.empty, i)
def Tg.chk (N : List Str) (sc : Scope) : Tg → Expr → Bool
  | .n i, .Name x _ => stoOk N sc i x
  | .t is, .Tuple es _ _ => chkNs N sc is es
  | _, _ => false
where chkNs (N : List Str) (sc : Scope) : List Nat → List Expr → Bool
  | [], [] => true
  | i :: is, .Name x _ :: es => stoOk N sc i x && chkNs N sc is es
  | _, _ => false
/-- the names of built-ins that a program may use, none of which it binds -/
structure Nm where
  N : List Str
  fns : List Str
  gs : List Str
  exs : List Str
  free : List Str
  clo : Bool := false
  calm : Bool := true
  lam : Bool := false
  lamf : List Nat := []
  rais : List Nat := []
  raz : List Nat := []
  raia : List Nat := []
  cls : List Str := []
  meth : List (Option (Nat × Str)) := []
  fnm : List Str := []
  new : Bool := true
def fnAt (M : Nm) (f : Nat) (x : Str) : Bool := match M.fns[f]? with
  | some y => seq y x
  | none => false
def gsAt (M : Nm) (f : Nat) (x : Str) : Bool := match M.gs[f]? with
  | some y => seq y x
  | none => false
def strAt (l : List Str) (f : Nat) (x : Str) : Bool := match l[f]? with
  | some y => seq y x
  | none => false
def methAt (M : Nm) (f c : Nat) (x : Str) : Bool := match M.meth[f]? with
  | some (some (d, y)) => Nat.beq d c && seq y x
  | _ => false
def notM (M : Nm) (f : Nat) : Bool := match M.meth[f]? with
  | some (some _) => false
  | _ => true
def exAt (M : Nm) (f : Nat) (x : Str) : Bool := match M.exs[f]? with
  | some y => seq y x
  | none => false
def blt (M : Nm) (sc : Scope) (x y : Str) : Bool := seq x y && (glB sc x && M.free.contains x)
def BI.nm : BI → Str
  | .len => "len" | .int => "int" | .sum => "sum" | .tuple => "tuple" | .list => "list" | .all => "all" | .any => "any" | .abs => "abs" | .maxl => "max"
def keysOk : List (List Nat) → List (Option Expr) → Bool
  | [], [] => true
  | k :: ks, some (.Constant (.str z) _ _) :: es => decide (z.cps.toList = k) && keysOk ks es
  | _, _ => false
def keysV : List Val → List (Option Expr) → Bool
  | [], [] => true
  | k :: ks, some (.Constant q _ _) :: es => (keyB k && constOk k q) && keysV ks es
  | _, _ => false
def mmN : Bool → Str
  | true => "max"
  | false => "min"
def boOk (w : Bool) (op : BoolOp) : Bool := match op, w with
  | .And, true => true
  | .Or, false => true
  | _, _ => false
def isTupE : Expr → Bool
  | .Tuple .. => true
  | _ => false
def tgIn (own : List Nat) (tg : Tg) : Bool := match tg with
  | .n i => own.contains i
  | .t is => is.all own.contains
abbrev Nm.in (M : Nm) : Nm := { M with clo := false, lam := false, new := false }
abbrev Nm.hot (M : Nm) : Nm := { M with clo := false, lam := false, calm := false }
mutual
def E.chk (M : Nm) (sc : Scope) : E → Expr → Bool
  | .k c, e => match e with | .Constant q _ _ => constOk c q | _ => false
  | .var i, e => match e with | .Name x _ => varOk M.N sc i x | _ => false
  | .gl g, e => match e with | .Name x _ => gsAt M g x && (glB sc x && plainNm x) | _ => false
  | .bin o a b, e => match e with | .BinOp l op r _ => opOk o op && (a.chk M sc l && b.chk M sc r) | _ => false
  | .neg a, e => match e with | .UnaryOp .USub x _ => a.chk M sc x | _ => false
  | .cmp o a b, e => match e with | .Compare l [op] [r] _ => cpOk o op && (a.chk M sc l && (b.chk M sc r && plainE r)) | _ => false
  | .chn o1 o2 a b c, e => match e with
    | .Compare l [p1, p2] [r1, r2] _ => (cpOk o1 p1 && cpOk o2 p2) && (a.chk M sc l && (b.chk M sc r1 && (c.chk M sc r2 && plainE r2)))
    | _ => false
  | .bo w es, e => match e with | .BoolOp op xs _ => boOk w op && es.chkB M sc xs | _ => false
  | .not a, e => match e with | .UnaryOp .Not x _ => a.chk M sc x | _ => false
  | .ite c a b, e => match e with | .IfExp t x y _ => c.chk M sc t && (a.chk M sc x && b.chk M sc y) | _ => false
  | .tup es, e => match e with | .Tuple xs _ _ => es.chk M sc xs | _ => false
  | .lis es, e => match e with | .List xs _ => es.chk M sc xs | _ => false
  | .dic ks vs, e => match e with
    | .Dict keys vals _ => keysV ks keys && (vs.chk M sc vals && (keys.length == vals.length && (!keys.isEmpty && Nat.ble keys.length 15)))
    | _ => false
  | .sub a i, e => match e with | .Subscript v s _ => a.chk M sc v && (i.chk M sc s && plainE s) | _ => false
  | .slc a lo hi, e => match e with | .Subscript v (.Slice l h none _) _ => a.chk M sc v && (lo.chk M sc l && hi.chk M sc h) | _ => false
  | .call f es, e => match e with | .Call (.Name x _) (a :: as) [] _ => (fnAt M f x && notM M f) && ((glB sc x && plainNm x) && (es.chk M sc (a :: as) && (M.calm && plainE a))) | _ => false
  | .bi b a, e => match e with | .Call (.Name x _) [y] [] _ => blt M sc x b.nm && (a.chk M sc y && (plainE y && M.calm)) | _ => false
  | .isi t a, e => match e with
    | .Call (.Name x _) [y, .Name z _] [] _ => blt M sc x "isinstance" && ((a.chk M sc y && plainE y) && blt M sc z t.nm)
    | _ => false
  | .mget n q d, e => match e with
    | .Call (.Attribute (.Name x _) m apos) [y, z] [] pos => ((seq m "get" && (apos.endLine == pos.line)) && (gsAt M n x && (glB sc x && plainNm x))) && ((q.chk M sc y && plainE y) && (d.chk M sc z && plainE z))
    | _ => false
  | .bad, _ => true
  | .edc, e => match e with | .Dict [] [] _ => true | _ => false
  | .rev a, e => match e with | .Subscript v (.Slice none none (some (.UnaryOp .USub (.Constant (.int 1) _ _) _)) _) _ => a.chk M sc v | _ => false
  | .cnt i c, e => match e with
    | .Call (.Attribute (.Name x _) m apos) [.Constant q _ _] [] pos => varOk M.N sc i x && ((seq m "count" && (apos.endLine == pos.line)) && constOk c q)
    | _ => false
  | .idx i c, e => match e with
    | .Call (.Attribute (.Name x _) m apos) [.Constant q _ _] [] pos => varOk M.N sc i x && ((seq m "index" && (apos.endLine == pos.line)) && constOk c q)
    | _ => false
  | .idxl es q, e => match e with
    | .Call (.Attribute (.List xs _) m apos) [y] [] pos => (seq m "index" && (apos.endLine == pos.line)) && (es.chk M sc xs && (q.chk M sc y && plainE y))
    | _ => false
  | .pop0 i, e => match e with
    | .Call (.Attribute (.Name x _) m apos) [.Constant q _ _] [] pos => varOk M.N sc i x && ((seq m "pop" && (apos.endLine == pos.line)) && constOk (.int 0) q)
    | _ => false
  | .ch3 o1 o2 o3 a b c d, e => match e with
    | .Compare l [p1, p2, p3] [r1, r2, r3] _ => (cpOk o1 p1 && (cpOk o2 p2 && cpOk o3 p3)) && (a.chk M sc l && (b.chk M sc r1 && (c.chk M sc r2 && (d.chk M sc r3 && plainE r3))))
    | _ => false
  | .pop i, e => match e with | .Call (.Attribute (.Name x _) m apos) [] [] pos => varOk M.N sc i x && (seq m "pop" && (apos.endLine == pos.line)) | _ => false
  | .lc el tg it c own, e => match e with
    | .ListComp e [⟨t, i, ifs, 0⟩] scope _ => (blkC M.N sc scope (ownOf M.N own) && tgIn own tg) && (it.chk M sc t i && (tg.chk M.N scope t && (c.chkIf M.in scope ifs && (el.chk M.in scope e && (plainE i && M.calm)))))
    | _ => false
  | .lc2 el tg it c own tg1 it1 c1 own1, e => match e with
    | .ListComp e [⟨t, i, ifs, 0⟩, ⟨t1, i1, ifs1, 0⟩] scope _ => ((blkC M.N sc scope (ownOf M.N own) && tgIn own tg) && (tgIn own1 tg1 && own1.all own.contains)) && ((it.chk M sc t i && (tg.chk M.N scope t && (c.chkIf M.in scope ifs && (el.chk M.in scope e && (plainE i && M.calm))))) &&
        (it1.chk M.in scope t1 i1 && (tg1.chk M.N scope t1 && (c1.chkIf M.in scope ifs1 && plainE i1))))
    | _ => false
  | .dget ks vs q d, e => match e with
    | .Call (.Attribute (.Dict keys vals _) m apos) [y, z] [] pos => ((seq m "get" && (apos.endLine == pos.line)) && (keysOk ks keys && (vs.chk M sc vals && (keys.length == vals.length && (!keys.isEmpty && Nat.ble keys.length 15))))) && ((q.chk M sc y && plainE y) && (d.chk M sc z && plainE z))
    | _ => false
  | .mm w a b, e => match e with
    | .Call (.Name x _) [y, z] [] _ => (blt M sc x (mmN w) && M.calm) && ((a.chk M sc y && plainE y) && (b.chk M sc z && plainE z))
    | _ => false
  | .lam f _ b, e => match e with
    | .Call (.Name x _) [.Lambda ⟨[], [], none, [], [], none, []⟩ body scope _] [] _ => ((M.lam && M.calm) && (M.lamf.contains f && fnAt M f x)) && ((glB sc x && plainNm x) && (LamX.lamSB sc scope && b.chk M.in scope body))
    | _ => false
  | .att i f, e => match e with
    | .Attribute (.Name x _) a _ => varOk M.N sc i x && strAt M.fnm f a
    | _ => false
  | .atx a f, e => match e with
    | .Attribute v nm _ => (a.chk M sc v && noSup v) && strAt M.fnm f nm
    | _ => false
  | .new c f es, e => match e with
    | .Call (.Name x _) (a :: as) [] _ => (strAt M.cls c x && ((glB sc x && plainNm x) && methAt M f c "__init__")) && ((es.chk M sc (a :: as) && (M.calm && plainE a)) && M.new)
    | _ => false
  | .mcall c f i es, e => match e with
    | .Call (.Attribute (.Name x _) m apos) (a :: as) [] pos => (varOk M.N sc i x && ((methAt M f c m && !M.fnm.contains m) && ((apos.endLine == pos.line) && Nat.blt as.length 20))) && (es.chk M sc (a :: as) && (M.calm && plainE a))
    | _ => false
  | .cloc i, e => match e with
    | .Call (.Name x _) [] [] _ => (M.clo && decide (i = 0)) && at? M.N 0 x
    | _ => false
  | .isx i c, e => match e with
    | .Call (.Name x _) [.Name y _, .Name z _] [] _ => (!M.calm && blt M sc x "isinstance") && (varOk M.N sc i y && (exAt M c z && (glB sc z && plainNm z)))
    | _ => false
def Es.chk (M : Nm) (sc : Scope) : Es → List Expr → Bool
  | .nil, l => match l with | [] => true | _ => false
  | .cons e r, l => match l with | x :: xs => (e.chk M sc x && plainE x) && r.chk M sc xs | _ => false
def Es.chkB (M : Nm) (sc : Scope) : Es → List Expr → Bool
  | .nil, l => match l with | [] => true | _ => false
  | .cons e r, l => match l with | x :: xs => e.chk M sc x && r.chkB M sc xs | _ => false
def Oe.chk (M : Nm) (sc : Scope) : Oe → Option Expr → Bool
  | .no, l => match l with | none => true | _ => false
  | .so e, l => match l with | some x => e.chk M sc x | _ => false
def Oe.chkIf (M : Nm) (sc : Scope) : Oe → List Expr → Bool
  | .no, l => match l with | [] => true | _ => false
  | .so e, l => match l with | [x] => e.chk M sc x | _ => false
def It.chk (M : Nm) (sc : Scope) : It → Expr → Expr → Bool
  | .e a, _, x => a.chk M sc x
  | .rng a, _, e => match e with | .Call (.Name x _) [y] [] _ => blt M sc x "range" && (a.chk M sc y && plainE y) | _ => false
  | .rng2 a b, _, e => match e with | .Call (.Name x _) [y, z] [] _ => blt M sc x "range" && ((a.chk M sc y && plainE y) && (b.chk M sc z && plainE z)) | _ => false
  | .enu a, t, e => match e with | .Call (.Name x _) [y] [] _ => (isTupE t && blt M sc x "enumerate") && (a.chk M sc y && plainE y) | _ => false
  | .zip a b, t, e => match e with | .Call (.Name x _) [y, z] [] _ => (isTupE t && blt M sc x "zip") && ((a.chk M sc y && plainE y) && (b.chk M sc z && plainE z)) | _ => false
end
/-! ### statements -/
/-- the two stores of a, b = x, y change places: by the machine's rule -/
def swN (ts : List Expr) (sc : Scope) : List Str :=
  let line := (ts.head?.map (·.pos.line)).getD 0
  ts.filterMap fun
    | .Name id pos => if sc.names.lookup id == some .local && pos.line == line then some id else none
    | _ => none
def swA (ts vs : List Expr) (sc : Scope) : Bool := !(ts.length == 2 || ts.length == 3) || vs.length != ts.length || (if sc.kind.isAnnotationScope then ScopeKind.function else sc.kind) != .function
def swB (vs : List Expr) : Bool := vs.any fun | .Starred .. => true | _ => false
def swC (ts : List Expr) (sc : Scope) : Bool := (swN ts sc).length != ts.length || (swN ts sc).eraseDups.length != (swN ts sc).length
def swpF (ts vs : List Expr) (sc : Scope) : Option (Option (List Str)) := match swA ts vs sc, swB vs, swC ts sc, vs.all (foldedForSure 8), vs.all (constantsAlone 8) with
  | true, _, _, _, _ => some none
  | false, true, _, _, _ => some none
  | false, false, true, _, _ => some none
  | false, false, false, true, _ => some none
  | false, false, false, false, true => none
  | false, false, false, false, false => some (some (swN ts sc))
theorem swp_eq {ts vs : List Expr} {kt k2 : Nat} {p1 p2 : Pos} {env : PySem.Env} {sc : Scope} {r : Option (List Str)} (he : env.scope = sc) (h : swpF ts vs sc = some r) : swappedStores [.Tuple ts kt p1] (.Tuple vs k2 p2) env = pure r := by
  subst he
  have e : swappedStores [.Tuple ts kt p1] (.Tuple vs k2 p2) env = (do
    if swA ts vs env.scope then return none
    if swB vs then return none
    if swC ts env.scope then return none
    if vs.all (foldedForSure 8) then return none
    if vs.all (constantsAlone 8) then unsupported "assign.tuple-of-constant-expressions:order-of-the-stores"
    return some (swN ts env.scope)) := rfl
  rw [e]
  unfold swpF at h
  cases h1 : swA ts vs env.scope <;> rw [h1] at h
  · cases h2 : swB vs <;> rw [h2] at h
    · cases h3 : swC ts env.scope <;> rw [h3] at h
      · cases h4 : vs.all (foldedForSure 8) <;> rw [h4] at h
        · cases h5 : vs.all (constantsAlone 8) <;> rw [h5] at h
          · cases h; rfl
          · cases h
        · cases h; rfl
      · cases h; rfl
    · cases h; rfl
  · cases h; rfl
end Py
set_option maxHeartbeats 1000000
namespace Py
open PySem PySem.Spec PyProof.Rows L2

/-! ### the meaning of syntax, as a reading -/
def SE (X : Cx) (e : Expr) : TE := fun σ H Q => ∀ (pins : List (Addr × Obj)) (s : Shared), Inv X pins σ H s → wpAny (model X.prog X.w) X.A (eval e X.env) (EP X pins σ Q) X.xe s
def ST (X : Cx) (e : Expr) : TT := fun σ H Q => ∀ (pins : List (Addr × Obj)) (s : Shared), Inv X pins σ H s → wpAny (model X.prog X.w) X.A (isTrue e X.env (eval e X.env)) (TP X pins σ Q) X.xe s
theorem pe_se (X : Cx) (e : Expr) : PE X e (SE X e) := ⟨fun pins s _ _ _ I h => h pins s I⟩
theorem pt_st (X : Cx) (e : Expr) : PT X e (ST X e) := ⟨fun pins s _ _ _ I h => h pins s I⟩
theorem se_of {X : Cx} {e : Expr} {t : TE} (h : PE X e t) {σ : L2.St} {H : Hp} {Q : VK} (q : t σ H Q) : SE X e σ H Q := fun pins s I => h.run pins s σ H Q I q
theorem st_of {X : Cx} {e : Expr} {t : TT} (h : PT X e t) {σ : L2.St} {H : Hp} {Q : Bool → Hp → Prop} (q : t σ H Q) : ST X e σ H Q := fun pins s I => h.run pins s σ H Q I q
def SOp (X : Cx) (f : Value → Value → Sem Value) : R2 := fun x y H Q => ∀ (pins : List (Addr × Obj)) (s : Shared) (σ : L2.St) (v u : Value), Inv X pins σ H s → RelV x v → RelV y u → wpAny (model X.prog X.w) X.A (f v u) (EP X pins σ Q) X.xe s
theorem opr (X : Cx) (f : Value → Value → Sem Value) : OpR X f (SOp X f) := fun pins s σ _ _ _ v u _ I rx ry h => h pins s σ v u I rx ry
theorem sop_of {X : Cx} {f : Value → Value → Sem Value} {r : R2} (h : OpR X f r) {x y : V} {H : Hp} {Q : VK} (q : r x y H Q) : SOp X f x y H Q := fun pins s σ v u I rx ry => h pins s σ H x y v u Q I rx ry q
def SUn (X : Cx) (f : Value → Sem Value) : V → Hp → VK → Prop := fun x H Q => ∀ (pins : List (Addr × Obj)) (s : Shared) (σ : L2.St) (v : Value), Inv X pins σ H s → RelV x v → wpAny (model X.prog X.w) X.A (f v) (EP X pins σ Q) X.xe s
theorem unr (X : Cx) (f : Value → Sem Value) : UnR X f (SUn X f) := fun pins s σ _ _ v _ I rx h => h pins s σ v I rx
theorem sun_of {X : Cx} {f : Value → Sem Value} {r : V → Hp → VK → Prop} (h : UnR X f r) {x : V} {H : Hp} {Q : VK} (q : r x H Q) : SUn X f x H Q := fun pins s σ v I rx => h pins s σ H x v Q I rx q
def SIx (X : Cx) : R2 := fun x y H Q => ∀ (value slice : Expr) (pins : List (Addr × Obj)) (s : Shared) (σ : L2.St) (v u : Value), Inv X pins σ H s → RelV x v → RelV y u →
    subscripted slice false v u = operate [v, u] (getItem v u) → wpAny (model X.prog X.w) X.A (subscriptTail value slice v u) (EP X pins σ Q) X.xe s
theorem ixr (X : Cx) : IxR X (SIx X) := fun value slice pins s σ _ _ _ v u _ I rx ry h hs => h value slice pins s σ v u I rx ry hs
theorem six_of {X : Cx} {r : R2} (h : IxR X r) {x y : V} {H : Hp} {Q : VK} (q : r x y H Q) : SIx X x y H Q := fun value slice pins s σ v u I rx ry hs => h value slice pins s σ H x y v u Q I rx ry q hs
def SSl (X : Cx) : V → Option Int → Option Int → Hp → VK → Prop := fun x lo hi H Q => ∀ (pins : List (Addr × Obj)) (s : Shared) (σ : L2.St) (v vl vu : Value) (sl : Addr), Inv X pins σ H s → RelV x v → s.heap.IsSliceOf sl vl vu .none → IsPart vl lo → IsPart vu hi →
    ∃ T id, typeLookup (.type T) "__getitem__" = pure (some (.builtin id)) ∧ s.TypeIs v T ∧ wpAny (model X.prog X.w) X.A (getItem v (.ref sl)) (EP X pins σ Q) X.xe s
theorem slr (X : Cx) : SlR X (SSl X) := fun pins s σ _ _ v vl vu _ _ sl _ I rx h1 h2 h3 h => h pins s σ v vl vu sl I rx h1 h2 h3
theorem ssl_of {X : Cx} {r : V → Option Int → Option Int → Hp → VK → Prop} (h : SlR X r) {x : V} {lo hi : Option Int} {H : Hp} {Q : VK} (q : r x lo hi H Q) : SSl X x lo hi H Q := fun pins s σ v vl vu sl I rx h1 h2 h3 => h pins s σ H x v vl vu lo hi sl Q I rx h1 h2 h3 q
def SCall (X : Cx) (f : Value) : List V → Hp → VK → Prop := fun xs H Q => ∀ (pins : List (Addr × Obj)) (s : Shared) (σ : L2.St) (us : List Value), Inv X pins σ H s → Vals xs us → wpAny (model X.prog X.w) X.A (call f us) (EP X pins σ Q) X.xe s
theorem callr (X : Cx) (f : Value) : CallR X f (SCall X f) := fun pins s σ _ _ us _ I r h => h pins s σ us I r
theorem scall_of {X : Cx} {f : Value} {r : List V → Hp → VK → Prop} (h : CallR X f r) {xs : List V} {H : Hp} {Q : VK} (q : r xs H Q) : SCall X f xs H Q := fun pins s σ us I rx => h pins s σ H xs us Q I rx q

/-! ### what is to be shown of an outcome -/
/-- an error, as the machine has it -/
def RX (g : Gc) (ω : Om) (H : Hp) (c : Exc) (cls : Value) (d : Option Addr) : Prop := cls = .ref (g.cad c.c) ∧ g.ok c.c = true ∧ XD g ω H c d
theorem RX.kp {g : Gc} {ω ω' : Om} {H H' : Hp} {c : Exc} {cls : Value} {d : Option Addr} (e : Kp ω H ω' H') (h : RX g ω H c cls d) : RX g ω' H' c cls d := ⟨h.1, h.2.1, h.2.2.kp e⟩
section
variable (g : Gc) (cl : Clx) (xa : Fx)
def Post {α : Type} (n : Nat) (ω : Om) (H : Hp) (σ : L2.St) (r : R α) (Q : α → Env → Om → Hp → Prop) (W : WX) : Prop := match r with
  | .ok a env' => ∀ ω' H', Ext n ω H ω' H' → Rel g cl xa ω' H' env' σ → Q a env' ω' H'
  | .ex c env' => ∀ cls d ω' H' σ', Ext n ω H ω' H' → Rel g cl xa ω' H' env' σ' → RX g ω' H' c cls d → W cls d σ' H'
  | .no => False
def RO (ω : Om) (H : Hp) (σ : L2.St) (n : Nat) : Opd → V → Prop
  | .t t, x => RT g cl xa ω H (.tmp n) t x
  | .pl i, x => σ[i]? = some (some x)
def OkO (X : Cx) (f : Env → R Opd) (e : Expr) : Prop := ∀ n ω H env σ Q W, Rel g cl xa ω H env σ → Takes X W →
  Post g cl xa n ω H σ (f env) (fun o _ ω' H' => ∀ x, RO g cl xa ω' H' σ n o x → Q x H') W → SE X e σ H Q
def OkT (X : Cx) (f : Env → R Opd) (e : Expr) : Prop := ∀ n ω H env σ Q W, Rel g cl xa ω H env σ → Takes X W →
  Post g cl xa n ω H σ (truthR (f env)) (fun b _ ω' H' => Q b H') W → ST X e σ H Q
end
section
variable {g : Gc} {cl : Clx} {xa : Fx} {n m : Nat} {ω ω' : Om} {H H' : Hp} {σ : L2.St} {env : Env} {W : WX}
theorem Post.bind {α β : Type} {r : R α} {f : α → Env → R β} {Q : β → Env → Om → Hp → Prop} (h : Post g cl xa n ω H σ (r.bind f) Q W) :
    Post g cl xa n ω H σ r (fun a env1 ω1 H1 => Post g cl xa n ω1 H1 σ (f a env1) Q W) W := by
  cases r with
  | ok a env1 =>
    intro ω1 H1 e1 r1
    have h' : Post g cl xa n ω H σ (f a env1) Q W := h
    cases q : f a env1 with
    | ok b env2 => rw [q] at h'; exact fun ω2 H2 e2 r2 => h' ω2 H2 (e1.trans e2) r2
    | ex c env2 => rw [q] at h'; exact fun cls d ω2 H2 σ2 e2 r2 rx => h' cls d ω2 H2 σ2 (e1.trans e2) r2 rx
    | no => rw [q] at h'; exact h'
  | ex c env1 => exact h
  | no => exact h
theorem Post.imp {α : Type} {r : R α} {Q Q' : α → Env → Om → Hp → Prop} (h : Post g cl xa n ω H σ r Q W)
    (i : ∀ a env' ω' H', Ext n ω H ω' H' → Rel g cl xa ω' H' env' σ → Q a env' ω' H' → Q' a env' ω' H') : Post g cl xa n ω H σ r Q' W := by
  cases r with
  | ok a env1 => exact fun ω1 H1 e1 r1 => i a env1 ω1 H1 e1 r1 (h ω1 H1 e1 r1)
  | ex c env1 => exact h
  | no => exact h
theorem Post.up {α : Type} {r : R α} {Q : α → Env → Om → Hp → Prop} (h : Post g cl xa n ω H σ r Q W) (hm : n ≤ m) : Post g cl xa m ω H σ r Q W := by
  cases r with
  | ok a env1 => exact fun ω1 H1 e1 r1 => h ω1 H1 (e1.mono hm) r1
  | ex c env1 => exact fun cls d ω1 H1 σ1 e1 r1 rx => h cls d ω1 H1 σ1 (e1.mono hm) r1 rx
  | no => exact h
theorem Post.here {α : Type} {a : α} {Q : α → Env → Om → Hp → Prop} (r : Rel g cl xa ω H env σ) (h : Post g cl xa n ω H σ (.ok a env) Q W) : Q a env ω H := h ω H Ext.refl r
theorem RO.ext (e : Ext m ω H ω' H') (hm : n < m) {o : Opd} {x : V} (h : RO g cl xa ω H σ n o x) : RO g cl xa ω' H' σ n o x := by
  cases o with
  | t t => exact RT.keep e.kp (e.tmp n hm) h
  | pl i => exact h
theorem RO.rd {o : Opd} {x : V} {t : T} (r : Rel g cl xa ω H env σ) (h : RO g cl xa ω H σ n o x) (e : rd env o = some t) : ∃ k, RT g cl xa ω H k t x := by
  cases o with
  | t t' => cases e; exact ⟨_, h⟩
  | pl i =>
    exact ⟨_, r.at' e h⟩

/-! ### reading owned and frozen things alike -/
theorem RT.items {k : Lb} {t : T} {x : V} {l : List Val} (h : RT g cl xa ω H k t x) (e : items t = some l) :
    ∃ a xs, x = .ref a ∧ RVs g ω H l xs ∧ ((t = .v (.tup l) ∧ TupA g.K ω H a xs) ∨ SqL g.K H a xs) := by
  cases t with
  | v v =>
    cases v with
    | tup l' => cases e; obtain ⟨a, xs, h1, h2, h3⟩ := h; exact ⟨a, xs, h1, h3, .inl ⟨rfl, h2⟩⟩
    | lst l' => cases e; obtain ⟨a, xs, h1, h2, h3, h4⟩ := h; exact ⟨a, xs, h1, h4, .inr (.inl (.inl h3))⟩
    | lck l' => cases e; obtain ⟨a, xs, h1, h2, h4⟩ := h; exact ⟨a, xs, h1, h4, .inr h2.sq⟩
    | _ => cases e
  | vl l' => cases e; obtain ⟨a, xs, h1, h2, h3, h4⟩ := h; exact ⟨a, xs, h1, h4, .inr (.inl (.inl h3))⟩
  | _ => cases e
theorem RT.items' {k : Lb} {t : T} {x : V} {l : List Val} (h : RT g cl xa ω H k t x) (e : Py.items t = some l) :
    ∃ a xs, x = .ref a ∧ RVs g ω H l xs ∧ (SqL g.K H a xs ∨ SqT g.K H a xs) :=
  let ⟨a, xs, h1, h2, h3⟩ := h.items e
  ⟨a, xs, h1, h2, h3.elim (fun q => .inr q.2.sq) .inl⟩
theorem RT.lstOf {k : Lb} {t : T} {x : V} {l : List Val} (h : RT g cl xa ω H k t x) (e : t = .vl l ∨ t = .v (.lst l)) :
    ∃ a xs, x = .ref a ∧ RVs g ω H l xs ∧ H a = some (.lst xs) := by
  rcases e with e | e
  · subst e; obtain ⟨a, xs, h1, h2, h3, h4⟩ := h; exact ⟨a, xs, h1, h4, h3⟩
  · subst e; obtain ⟨a, xs, h1, h2, h3, h4⟩ := h; exact ⟨a, xs, h1, h4, h3⟩
theorem fits_ok {n : Nat} (h : fits n = true) : n ≤ sizeLine := Nat.le_of_ble_eq_true h
theorem RT.truth {k : Lb} {t : T} {x : V} {b : Bool} (h : RT g cl xa ω H k t x) (e : truth t = some b) : TruV g.K x H b := by
  cases t with
  | v v =>
    cases v with
    | none => cases e; rw [show x = .non from h]; rfl
    | bool c => cases e; rw [show x = .bl _ from h]; rfl
    | int i => cases e; rw [show x = .int _ from h]; rfl
    | str s =>
      have e' : x = .str ⟨s.toArray⟩ := h
      have q : (match fits s.length with | true => some (!s.isEmpty) | false => none) = some b := e
      cases z : fits s.length with
      | false => rw [z] at q; cases q
      | true =>
        rw [z] at q; cases q
        rw [e']
        refine ⟨by simpa [Str.length] using fits_ok z, ?_⟩
        cases s <;> simp [Str.length] <;> omega
    | tup l => cases e; obtain ⟨a, xs, h1, h2, h3⟩ := h; rw [h1]; exact .inr (.inl ⟨xs, h2.sq, by rw [h3.isEmpty]⟩)
    | lst l => cases e; obtain ⟨a, xs, h1, h2, h3, h4⟩ := h; rw [h1]; exact .inl ⟨xs, .inl (.inl h3), by rw [h4.isEmpty]⟩
    | _ => cases e
  | vl l => cases e; obtain ⟨a, xs, h1, h2, h3, h4⟩ := h; rw [h1]; exact .inl ⟨xs, .inl (.inl h3), by rw [h4.isEmpty]⟩
  | _ => cases e
end
/-! ### what a def of the program promises -/
/-- the arguments, as the callee's slots -/
def Ags (g : Gc) (cl : Clx) (ω : Om) (H : Hp) (ts : List T) (vs : List V) : Prop := ∀ (i : Nat) (t : T), ts[i]? = some t → ∃ x, vs[i]? = some x ∧ RT g cl {} ω H (.slot i) t x
def CPost (g : Gc) (cl : Clx) (ω : Om) (H : Hp) (vs : List V) (r : CR) (Q : VK) (E : XK) : Prop := match r with
  | .ok t as => ∀ x ω' H', Ext 0 ω H ω' H' → Trk g ω' H' → Ags g cl ω' H' as vs → RT g cl {} ω' H' (.tmp 0) t x → Q x H'
  | .ex c as => ∀ cls d ω' H', Ext 0 ω H ω' H' → Trk g ω' H' → Ags g cl ω' H' as vs → RX g ω' H' c cls d → E cls d H'
  | .no => False
def spF (g : Gc) (call : Nat → List T → Option Clo → CR) (f : Nat) : Sp := fun vs H Q E => ∃ (ts : List T) (ω : Om), vs.length = ts.length ∧ Ags g none ω H ts vs ∧ Trk g ω H ∧ CPost g none ω H vs (call f ts none) Q E
/-! ### what is handed on to be called -/
def capT (as : List T) : List T := match capL as with
  | some l => [.vl l]
  | none => []
def CR.caps : CR → CR
  | .ok t as => .ok t (capT as)
  | .ex x as => .ex x (capT as)
  | .no => .no
def TTof (g : Gc) (call : Nat → List T → Option Clo → CR) (f : Nat) : (XK → Hp → VK → Prop) → Hp → VK → Prop := fun tl H Q => ∃ (ω : Om) (a : Option Addr) (gs : Option (List Val)) (c : Clo), Trk g ω H ∧ CapOk g ω H (.slot 0) a gs ∧
  (∀ gs1 ω' H' E Q', Kp ω H ω' H' → Trk g ω' H' → CapOk g ω' H' (.slot 0) a gs1 → CPost g none ω' H' (capV a) (c gs1) Q' E → tl E H' Q') ∧ CPost g none ω H (capV a) (call f [.clo gs] (some c)).caps Q fun _ _ _ => False
def LamFn (g : Gc) (call : Nat → List T → Option Clo → CR) (X : Cx) (f : Nat) (x : Str) : Prop := ∃ (a : Str) (pg : Arguments) (bg : List Stmt) (sg : Scope) (dV kV doc pm cdv ct oc : Value) (an od : Option Addr) (osl : Array (Option Value)) (Ng : List Str),
  X.mg x = some (.ref (g.fad f)) ∧ PySem.W.keepIn X.K (.ref (g.fad f)) = true ∧
  X.K.lookup (g.fad f) = some ⟨oc, od, .func (PySem.W.fnOf x x pg bg sg dV kV doc pm an cdv ct), osl⟩ ∧ PySem.W.codeIn X.K cdv x = true ∧ L2.Binds X.K (PySem.W.fnOf x x pg bg sg dV kV doc pm an cdv ct) [a] [] ∧ FnScope Ng [a] sg ∧ Ng[0]? = some a ∧ Vis sg a ∧
  (a == ("__debug__" : Str)) = false ∧ (a == ("__classdict__" : Str)) = false ∧ LamX.GivesTo X Ng x sg (g.fad f) cdv bg a (X.env.qual ++ "<lambda>") (TTof g call f)
end Py
set_option maxHeartbeats 1000000
namespace Py
open PySem PySem.Spec PyProof.Rows L2

/-- a dict that the program's module holds, its keys strings -/
def KD (g : Gc) (w : World) (p : Addr) (ks vs : List Val) : Prop := ∃ es n, g.K.lookup p = some ⟨.type "dict", none, .dict es n, #[]⟩ ∧ PySem.W.KeysLit w.params es.toList ∧ (p == sysModules) = false ∧
  ∀ s : List Nat, match lookK (.str s) ks vs with
    | some v => ∃ u y, findBy Value.isStrOf es ⟨s.toArray⟩ = some u ∧ RelV y u ∧ ∀ ω H, RV g ω H v y
    | none => findBy Value.isStrOf es ⟨s.toArray⟩ = none
structure Cok (g : Gc) (M : Nm) (cx : EC) (sc : Scope) (k : Nat) (X : Cx) : Prop where
  K : X.K = g.K
  N : X.N = M.N
  nd : M.N.Nodup
  vis : ∀ x, visB sc x = true → Vis X.env.scope x
  fre : ∀ x, sc.names.lookup x = some .cell ∨ sc.names.lookup x = some .free → X.env.scope.names.lookup x = some .cell ∨ X.env.scope.names.lookup x = some .free
  loc : ∀ x, locB sc x = true → Loc X.env.scope x ∧ (X.fn x = true ∨ X.env.scope.names.lookup x = some .local)
  glo : ∀ x, glB sc x = true → X.env.scope.names.lookup x = some .globalImplicit
  calm : M.calm = true → X.calm = true
  hu : X.A.units + 70 < cLine
  room : M.calm = true → Room k X.A
  free : ∀ x, M.free.contains x = true → X.mg x = none
  gs : ∀ (i : Nat) (x : Str) (v : Val), M.gs[i]? = some x → cx.gv[i]? = some v → v.isD = false → ∃ u y, X.mg x = some u ∧ RelV y u ∧ ∀ ω H, RV g ω H v y
  gd : ∀ (i : Nat) (x : Str) (ks vs : List Val), M.gs[i]? = some x → cx.gv[i]? = some (.dct ks vs) → ∃ p, X.mg x = some (.ref p) ∧ KD g X.w p ks vs
  fns : ∀ (f : Nat) (x : Str), M.fns[f]? = some x → notM M f = true → ∃ fd ps, X.mg x = some (.ref (g.fad f)) ∧ PySem.W.keepIn X.K (.ref (g.fad f)) = true ∧ Binds X.K fd ps [] ∧ FnOk X.prog X.w X.K X.mg X.base (L2.CX X.prog X.w) k (g.fad f) fd ps (spF g cx.call f)
  cls : ∀ c, c < g.ncl → L2.Cls X.K (g.cls c) ∧ ∀ (f : Nat) (n : Str), g.fnm[f]? = some n → NoAttr X.K (g.cls c) n
  clm : ∀ (c : Nat) (x : Str), M.cls[c]? = some x → X.mg x = some (.ref (g.cls c)) ∧ c < g.ncl
  fnm : M.fnm = g.fnm ∧ g.fnm.Nodup
  mth : ∀ (f c : Nat) (m : Str), M.meth[f]? = some (some (c, m)) → c < g.ncl ∧ ∃ fd ps, Meth X.K (g.cls c) m (g.fad f) ∧ (m = ("__init__" : Str) → L2.Mk X.K (g.cls c) (g.fad f)) ∧ Binds X.K fd ps [] ∧ FnOk X.prog X.w X.K X.mg X.base (L2.CX X.prog X.w) k (g.fad f) fd ps (spF g cx.call f)
  rm1 : M.new = true → M.calm = true → Room (k + 1) X.A
  lam : M.lam = true → Room (k + 2) X.A ∧ (∃ c P, LamX.TabB X.base X.mg c P ∧ X.env.code = .ref c ∧ (P, X.env.qual ++ "<lambda>") ∈ g.T ∧ ∀ p ∈ g.T, p.1 = P → p.2 = X.env.qual ++ "<lambda>") ∧
    ∀ (f : Nat) (x : Str), M.fns[f]? = some x → M.lamf.contains f = true → LamFn g cx.call X f x

/-- every end of the value t -/
def Fin (g : Gc) (cl : Clx) (xa : Fx) (n : Nat) (ω : Om) (H : Hp) (env : Env) (σ : L2.St) (t : T) (Q : VK) : Prop :=
  ∀ x' ω' H', Ext n ω H ω' H' → Rel g cl xa ω' H' env σ → RT g cl xa ω' H' (.tmp n) t x' → Q x' H'
section
variable {g : Gc} {cl : Clx} {xa : Fx} {n : Nat} {ω : Om} {H : Hp} {σ : L2.St} {env : Env} {Q : VK} {X : Cx} {M : Nm} {cx : EC} {sc : Scope} {k : Nat}
theorem Fin.val (r : Rel g cl xa ω H env σ) {v : Val} {x : V} (f : Fin g cl xa n ω H env σ (.v v) Q) (h : RV g ω H v x) : Q x H := f x ω H Ext.refl r h
theorem Fin.tup (r : Rel g cl xa ω H env σ) {l : List Val} {xs : List V} (f : Fin g cl xa n ω H env σ (.v (.tup l)) Q) (h : RVs g ω H l xs) : ∀ p, H p = none → Q (.ref p) (upd H p (.tup xs)) := fun p hp =>
  f _ (lab ω p none) _ (new_ext r.trk hp (fun q => nomatch q)) (r.new hp ow_tup) ⟨p, xs, rfl, .inl ⟨lab_same, upd_same⟩, h.kp' (new_kp hp)⟩
theorem Fin.lst (r : Rel g cl xa ω H env σ) {l : List Val} {xs : List V} (f : Fin g cl xa n ω H env σ (.vl l) Q) (h : RVs g ω H l xs) : ∀ p, H p = none → Q (.ref p) (upd H p (.lst xs)) := fun p hp =>
  f _ (lab ω p (some (.tmp n))) _ (new_ext r.trk hp (fun q => nomatch q)) (r.new hp ow_lst) ⟨p, xs, rfl, lab_same, upd_same, h.kp' (new_kp hp)⟩
theorem and_t {a b : Bool} (h : (a && b) = true) : a = true ∧ b = true := Bool.and_eq_true_iff.mp h

/-! ### operators -/
theorem bin_ok (r : Rel g cl xa ω H env σ) (hK : X.K = g.K) {o : Op} {op : Operator} {ta tb t : T} {k1 k2 : Lb} {x y : V} (ho : opOk o op = true) (ha : RT g cl xa ω H k1 ta x) (hb : RT g cl xa ω H k2 tb y)
    (e : binF o ta tb = some t) (f : Fin g cl xa n ω H env σ t Q) : SOp X (binaryOp op) x y H Q := by
  have cat : ∀ {l q : List Val}, (ta = .vl l ∨ ta = .v (.lst l)) → (tb = .vl q ∨ tb = .v (.lst q)) → fits (l.length + q.length) = true → t = .vl (l ++ q) → SOp X (binaryOp .Add) x y H Q := by
    intro l q h1 h2 h3 h4
    subst h4
    obtain ⟨a, xs, q1, q2, q3⟩ := ha.lstOf h1
    obtain ⟨b, ys, p1, p2, p3⟩ := hb.lstOf h2
    exact sop_of op_cat ⟨a, b, xs, ys, q1, p1, q3, p3, by rw [q2.length, p2.length]; exact fits_ok h3, f.lst r (q2.append p2)⟩
  unfold binF at e
  split at e
  · cases op <;> cases ho
    cases e
    rw [show x = .int _ from ha, show y = .int _ from hb]
    exact sop_of op_add ⟨_, _, rfl, rfl, f.val r rfl⟩
  · cases op <;> cases ho
    cases e
    rw [show x = .int _ from ha, show y = .int _ from hb]
    exact sop_of op_sub ⟨_, _, rfl, rfl, f.val r rfl⟩
  · cases op <;> cases ho
    split at e
    · rename_i i j z
      cases e
      rw [show x = .int _ from ha, show y = .int _ from hb]
      refine sop_of op_mul ⟨_, _, rfl, rfl, ?_, f.val r rfl⟩
      rcases Bool.or_eq_true_iff.mp z with z | z
      · obtain ⟨z1, z2⟩ := and_t z
        exact .inl ⟨of_decide_eq_true z1, of_decide_eq_true z2⟩
      · obtain ⟨z1, z2⟩ := and_t z
        exact .inr ⟨of_decide_eq_true z1, of_decide_eq_true z2⟩
    · cases e
  · cases op <;> cases ho
    split at e
    · rename_i i j z
      cases e
      rw [show x = .int _ from ha, show y = .int _ from hb]
      obtain ⟨z1, z2⟩ := and_t z
      exact sop_of op_fdiv ⟨_, _, rfl, rfl, ⟨of_decide_eq_true z1, of_decide_eq_true z2⟩, f.val r rfl⟩
    · cases e
  · cases op <;> cases ho
    split at e
    · rename_i i j z
      cases e
      rw [show x = .int _ from ha, show y = .int _ from hb]
      exact sop_of op_mod ⟨_, _, rfl, rfl, of_decide_eq_true z, f.val r rfl⟩
    · cases e
  · cases op <;> cases ho
    split at e
    · rename_i i j z
      cases e
      rw [show x = .int _ from ha, show y = .int _ from hb]
      obtain ⟨z1, z2⟩ := and_t z
      obtain ⟨z2, z3⟩ := and_t z2
      exact sop_of op_pow ⟨_, _, rfl, rfl, ⟨of_decide_eq_true z1, of_decide_eq_true z2, of_decide_eq_true z3⟩, f.val r rfl⟩
    · cases e
  · cases op <;> cases ho
    split at e
    · rename_i i j z
      cases e
      rw [show x = .int _ from ha, show y = .int _ from hb]
      obtain ⟨z1, z2⟩ := and_t z
      obtain ⟨z2, z3⟩ := and_t z2
      exact sop_of op_shl ⟨_, _, rfl, rfl, ⟨of_decide_eq_true z1, of_decide_eq_true z2, of_decide_eq_true z3⟩, f.val r rfl⟩
    · cases e
  · cases op <;> cases ho
    split at e
    · rename_i l q _ z
      cases e
      obtain ⟨a, xs, q1, q2, q3⟩ := ha
      obtain ⟨b, ys, p1, p2, p3⟩ := hb
      refine sop_of op_catA ⟨a, b, xs, ys, q1, p1, hK ▸ q2.sq, hK ▸ p2.sq, by rw [q3.length, p3.length]; exact fits_ok z, fun h => ?_, fun h h' => ?_, fun h h' => ?_⟩
      · have hl : l = [] := by have := q3.length; rw [h] at this; exact List.length_eq_zero_iff.mp this.symm
        subst hl
        exact f.val r ⟨b, ys, rfl, p2, p3⟩
      · have hl : q = [] := by have := p3.length; rw [h'] at this; exact List.length_eq_zero_iff.mp this.symm
        subst hl
        rw [List.append_nil] at f
        exact f.val r ⟨a, xs, rfl, q2, q3⟩
      · exact f.tup r (q3.append p3)
    · cases e
  · cases op <;> cases ho
    split at e
    · rename_i l q z
      cases e; exact cat (.inl rfl) (.inl rfl) z rfl
    · cases e
  · cases op <;> cases ho
    split at e
    · rename_i l q z
      cases e; exact cat (.inr rfl) (.inl rfl) z rfl
    · cases e
  · cases op <;> cases ho
    split at e
    · rename_i l q z
      cases e; exact cat (.inl rfl) (.inr rfl) z rfl
    · cases e
  · cases op <;> cases ho
    split at e
    · rename_i l q z
      cases e; exact cat (.inr rfl) (.inr rfl) z rfl
    · cases e
  · cases op <;> cases ho
    split at e
    · rename_i l j _ z
      cases e
      obtain ⟨a, xs, q1, q2, q3, q4⟩ := ha
      rw [show y = .int _ from hb]
      obtain ⟨z1, z2⟩ := and_t z
      obtain ⟨z2, z3⟩ := and_t z2
      have w1 : (0 : Int) ≤ j := of_decide_eq_true z1
      have w2 : j ≤ 1000 := of_decide_eq_true z2
      have w3 : l.length ≤ 1000 := Nat.le_of_ble_eq_true z3
      refine sop_of op_rep ⟨a, j, xs, q1, rfl, q3, by omega, by omega, ?_, f.lst r (q4.rep _)⟩
      rw [q4.length]
      have h1 : l.length * j.toNat ≤ 1000 * 1000 := Nat.mul_le_mul w3 (by omega)
      exact Nat.le_trans h1 (by rw [sizeLine_eq]; decide)
    · cases e
  · cases op <;> cases ho
    split at e
    · rename_i l j z
      cases e
      obtain ⟨a, xs, q1, q2, q3⟩ := ha
      rw [show y = .int _ from hb]
      obtain ⟨z1, z2⟩ := and_t z
      obtain ⟨z2, z3⟩ := and_t z2
      obtain ⟨z3, z4⟩ := and_t z3
      refine sop_of op_repT ⟨a, _, xs, q1, rfl, hK ▸ q2.sq, fun h => ?_, of_decide_eq_true z2, of_decide_eq_true z3, by rw [q3.length]; exact Nat.le_of_ble_eq_true z4, f.tup r (q3.rep _)⟩
      have := q3.isEmpty
      rw [h] at this
      rw [← this] at z1
      cases z1
    · cases e
  · cases e

/-! ### comparisons -/
mutual
def toPy : Val → PyData
  | .none => .none
  | .bool b => .bool b
  | .int i => .int i
  | .str s => .str ⟨s.toArray⟩
  | .tup l => .tuple (toPys l)
  | .lst l => .list (toPys l)
  | _ => .dict []
def toPys : List Val → List PyData
  | [] => []
  | v :: l => toPy v :: toPys l
end
theorem str_beq (x y : List Nat) : ((⟨x.toArray⟩ : Str) == ⟨y.toArray⟩) = (x == y) := by
  by_cases h : x = y
  · subst h; simp
  · have h' : ¬ (⟨x.toArray⟩ : Str) = ⟨y.toArray⟩ := fun q => h (by injection q with q; simpa using q)
    rw [beq_eq_false_iff_ne.mpr h, beq_eq_false_iff_ne.mpr h']
mutual
theorem eqv_py : ∀ (n m : Nat) (a b : Val), dat n a = true → dat m b = true → PyData.eqv (toPy a) (toPy b) = eqv a b
  | n, m, .none, b, _, h => by cases b <;> first | rfl | (cases m <;> cases h)
  | n, m, .bool c, b, _, h => by cases b <;> first | rfl | (cases m <;> cases h)
  | n, m, .int c, b, _, h => by cases b <;> first | rfl | (cases m <;> cases h)
  | n, m, .str c, b, _, h => by
    cases b with
    | str d => exact str_beq c d
    | _ => first | rfl | (cases m <;> cases h)
  | 0, m, .tup l, b, h', h => by cases h'
  | n + 1, m, .tup l, b, h', h => by
    cases b with
    | tup q =>
      cases m with
      | zero => cases h
      | succ m => exact eqvs_py n m l q h' h
    | _ => first | rfl | (cases m <;> cases h)
  | 0, m, .lst l, b, h', h => by cases h'
  | n + 1, m, .lst l, b, h', h => by
    cases b with
    | lst q =>
      cases m with
      | zero => cases h
      | succ m => exact eqvs_py n m l q h' h
    | _ => first | rfl | (cases m <;> cases h)
  | n, m, .lck l, b, h', h => by cases n <;> cases h'
  | n, m, .dct _ _, b, h', h => by cases n <;> cases h'
  | n, m, .fn _, b, h', h => by cases n <;> cases h'
theorem eqvs_py : ∀ (n m : Nat) (a b : List Val), a.all (dat n) = true → b.all (dat m) = true → PyData.eqvAll (toPys a) (toPys b) = eqvs a b
  | n, m, [], [], _, _ => rfl
  | n, m, [], _ :: _, _, _ => rfl
  | n, m, _ :: _, [], _, _ => rfl
  | n, m, x :: xs, y :: ys, h', h => by
    rw [List.all_cons] at h h'
    obtain ⟨h1, h2⟩ := and_t h
    obtain ⟨h3, h4⟩ := and_t h'
    show (PyData.eqv (toPy x) (toPy y) && PyData.eqvAll (toPys xs) (toPys ys)) = (eqv x y && eqvs xs ys)
    rw [eqv_py n m x y h3 h1, eqvs_py n m xs ys h4 h2]
end
mutual
theorem dat_ok : ∀ (n : Nat) (a : Val), dat n a = true → (toPy a).canLay0 = true ∧ (toPy a).depth ≤ n
  | n, .none, _ => ⟨rfl, Nat.zero_le _⟩
  | n, .bool c, _ => ⟨rfl, Nat.zero_le _⟩
  | n, .int c, _ => ⟨rfl, Nat.zero_le _⟩
  | n, .str c, h => by
    have h2 : (c.all fun c => Nat.blt c 1114112) = true := by cases n <;> exact h
    refine ⟨?_, Nat.zero_le _⟩
    show PyData.strOk ⟨c.toArray⟩ = true
    unfold PyData.strOk
    rw [List.all_toArray]
    rw [← h2]
    congr 1
    funext c
    show decide (c < 1114112) = Nat.ble (c + 1) 1114112
    by_cases q : c < 1114112
    · rw [decide_eq_true q, Nat.ble_eq_true_of_le q]
    · rw [decide_eq_false q]
      cases z : Nat.ble (c + 1) 1114112 with
      | false => rfl
      | true => exact absurd (Nat.le_of_ble_eq_true z) q
  | 0, .tup l, h => by cases h
  | n + 1, .tup l, h => let ⟨h1, h2⟩ := dats_ok n l h; ⟨h1, Nat.succ_le_succ h2⟩
  | 0, .lst l, h => by cases h
  | n + 1, .lst l, h => let ⟨h1, h2⟩ := dats_ok n l h; ⟨h1, Nat.succ_le_succ h2⟩
  | n, .lck l, h => by cases n <;> cases h
  | n, .dct _ _, h => by cases n <;> cases h
  | n, .fn _, h => by cases n <;> cases h
theorem dats_ok : ∀ (n : Nat) (a : List Val), a.all (dat n) = true → PyData.canLayAll0 (toPys a) = true ∧ PyData.depthAll (toPys a) ≤ n
  | n, [], _ => ⟨rfl, Nat.zero_le _⟩
  | n, x :: xs, h => by
    rw [List.all_cons] at h
    obtain ⟨h1, h2⟩ := and_t h
    obtain ⟨h3, h4⟩ := dat_ok n x h1
    obtain ⟨h5, h6⟩ := dats_ok n xs h2
    refine ⟨?_, ?_⟩
    · show ((toPy x).canLay0 && PyData.canLayAll0 (toPys xs)) = true
      rw [h3, h5]; rfl
    · show max (toPy x).depth (PyData.depthAll (toPys xs)) ≤ n
      omega
end
theorem dat_shaped {a : Val} (h : dat 60 a = true) : SeqAt.shaped (toPy a) = true := by
  obtain ⟨h1, h2⟩ := dat_ok 60 a h
  unfold SeqAt.shaped
  rw [h1, decide_eq_true (by omega : (toPy a).depth ≤ 64)]; rfl
mutual
theorem dat_dp : ∀ (n : Nat) (a : Val) (x : V), dat n a = true → RV g ω H a x → Dp g.K H x (toPy a)
  | n, .none, x, _, h => by rw [show x = .non from h]; exact .non
  | n, .bool c, x, _, h => by rw [show x = .bl c from h]; exact .bl _
  | n, .int c, x, _, h => by rw [show x = .int c from h]; exact .int _
  | n, .str c, x, _, h => by rw [show x = .str ⟨c.toArray⟩ from h]; exact .str _
  | 0, .tup l, x, h, _ => by cases h
  | n + 1, .tup l, x, h, ⟨a, xs, h1, h2, h3⟩ => by rw [h1]; exact .tup h2.sq (dats_dp n l xs h h3)
  | 0, .lst l, x, h, _ => by cases h
  | n + 1, .lst l, x, h, ⟨a, xs, h1, h2, h3, h4⟩ => by rw [h1]; exact .lst (.inl (.inl h3)) (dats_dp n l xs h h4)
  | n, .lck l, x, h, _ => by cases n <;> cases h
  | n, .dct _ _, x, h, _ => by cases n <;> cases h
  | n, .fn _, x, h, _ => by cases n <;> cases h
theorem dats_dp : ∀ (n : Nat) (a : List Val) (xs : List V), a.all (dat n) = true → RVs g ω H a xs → DpAll g.K H xs (toPys a)
  | n, [], xs, _, h => by rw [show xs = [] from h]; exact .nil
  | n, v :: l, xs, h, ⟨x, r, h1, h2, h3⟩ => by
    rw [List.all_cons] at h
    obtain ⟨q1, q2⟩ := and_t h
    rw [h1]
    exact .cons (dat_dp n v x q1 h2) (dats_dp n l r q2 h3)
end
theorem fz_dp {k : Lb} {t : T} {x : V} {v : Val} (h : RT g cl xa ω H k t x) (e : fz t = some v) (hd : dat 60 v = true) : Dp g.K H x (toPy v) := by
  cases t with
  | v w => cases e; exact dat_dp 60 v x hd h
  | vl l =>
    cases e
    obtain ⟨a, xs, h1, h2, h3, h4⟩ := h
    rw [h1]
    exact .lst (.inl (.inl h3)) (dats_dp 59 l xs hd h4)
  | _ => cases e
theorem eqF_ok (hK : X.K = g.K) (hu : X.A.units + 70 < cLine) {ta tb : T} {b : Bool} {k1 k2 : Lb} {x y : V} (ha : RT g cl xa ω H k1 ta x) (hb : RT g cl xa ω H k2 tb y) (e : eqF ta tb = some b) :
    (Q (.bl b) H → SOp X (compareOp .Eq) x y H Q) ∧ (Q (.bl (!b)) H → SOp X (compareOp .NotEq) x y H Q) := by
  unfold eqF at e
  split at e
  · rename_i v w h1 h2
    split at e
    · rename_i z
      obtain ⟨z1, z2⟩ := and_t z
      cases e
      have d1 := fz_dp ha h1 z1
      have d2 := fz_dp hb h2 z2
      rw [← hK] at d1 d2
      have eq := eqv_py 60 60 v w z1 z2
      exact ⟨fun q => sop_of (op_eqD (by omega)) ⟨_, _, d1, d2, dat_shaped z1, dat_shaped z2, by rw [eq]; exact q⟩,
        fun q => sop_of (op_neD (by omega)) ⟨_, _, d1, d2, dat_shaped z1, dat_shaped z2, by rw [eq]; exact q⟩⟩
    · cases e
  · cases e
theorem flat_V {v : Val} {x : V} (h : RV g ω H v x) (f : flat v = true) : flatV x = true := by
  cases v <;> first | exact (Bool.false_ne_true f).elim | (rw [show x = _ from h]; rfl)
theorem flat_all : ∀ {l : List Val} {xs : List V}, RVs g ω H l xs → l.all flat = true → xs.all flatV = true
  | [], _, h, _ => by rw [show _ = ([] : List V) from h]; rfl
  | v :: l, _, ⟨x, r, h1, h2, h3⟩, f => by
    rw [List.all_cons] at f
    obtain ⟨f1, f2⟩ := and_t f
    rw [h1, List.all_cons, flat_V h2 f1, flat_all h3 f2]; rfl
theorem flat_eq {v w : Val} {x y : V} (h : RV g ω H v x) (h' : RV g ω H w y) (f : flat v = true) (f' : flat w = true) : eqV x y = eqv v w := by
  cases v <;> first | exact (Bool.false_ne_true f).elim | (rw [show x = _ from h]; cases w <;> first | exact (Bool.false_ne_true f').elim | (rw [show y = _ from h']; first | rfl | exact str_beq _ _))
theorem flat_any {v : Val} {x : V} (h : RV g ω H v x) (f : flat v = true) : ∀ {l : List Val} {xs : List V}, RVs g ω H l xs → l.all flat = true → inV x xs = l.any fun y => eqv y v
  | [], _, h, _ => by rw [show _ = ([] : List V) from h]; rfl
  | w :: l, _, ⟨y, r, h1, h2, h3⟩, f2 => by
    rw [List.all_cons] at f2
    obtain ⟨f3, f4⟩ := and_t f2
    rw [h1, List.any_cons, ← flat_eq h2 h f3 f, ← flat_any h f h3 f4]; rfl
theorem any_py {v : Val} {n : Nat} (h : dat 60 v = true) : ∀ {l : List Val}, l.all (dat n) = true → (toPys l).any (fun z => PyData.eqv z (toPy v)) = l.any fun y => eqv y v
  | [], _ => rfl
  | w :: l, hl => by
    rw [List.all_cons] at hl
    obtain ⟨h1, h2⟩ := and_t hl
    show (PyData.eqv (toPy w) (toPy v) || (toPys l).any fun z => PyData.eqv z (toPy v)) = (eqv w v || l.any fun y => eqv y v)
    rw [eqv_py n 60 w v h1 h, any_py h h2]
theorem inF_ok (hu : X.A.units + 70 < cLine) (hK : X.K = g.K) {ta tb : T} {b : Bool} {k1 k2 : Lb} {x y : V} (ha : RT g cl xa ω H k1 ta x) (hb : RT g cl xa ω H k2 tb y) (e : inF ta tb = some b) :
    (Q (.bl b) H → SOp X (compareOp .In) x y H Q) ∧ (Q (.bl (!b)) H → SOp X (compareOp .NotIn) x y H Q) := by
  unfold inF at e
  split at e
  · rename_i v
    split at e
    · rename_i l hl
      split at e
      · rename_i z
        cases e
        obtain ⟨z1, z2⟩ := and_t z
        obtain ⟨p, xs, q1, q2, q3⟩ := hb.items' hl
        have q3' : SqL X.K H p xs ∨ SqT X.K H p xs := by rw [hK]; exact q3
        have eq := flat_any (show RV g ω H v x from ha) z1 q2 z2
        exact ⟨fun q => sop_of op_in_seq ⟨p, xs, q1, q3', flat_V ha z1, flat_all q2 z2, by rw [eq]; exact q⟩,
          fun q => sop_of op_notIn_seq ⟨p, xs, q1, q3', flat_V ha z1, flat_all q2 z2, by rw [eq]; exact q⟩⟩
      · split at e
        · rename_i l2 hz
          split at e
          · rename_i z
            cases e
            obtain ⟨z1, z2⟩ := and_t z
            have d1 : Dp X.K H x (toPy v) := by rw [hK]; exact dat_dp 60 v x z1 ha
            have d2 := fz_dp hb hz z2
            rw [← hK] at d2
            have hall : l2.all (dat 59) = true := z2
            have eq : (toPys l2).any (fun z => PyData.eqv z (toPy v)) = l2.any fun y => eqv y v := any_py z1 hall
            exact ⟨fun q => sop_of (op_inD (by omega)) ⟨_, _, d1, d2, dat_shaped z1, dat_shaped z2, by rw [eq]; exact q⟩,
              fun q => sop_of (op_notInD (by omega)) ⟨_, _, d1, d2, dat_shaped z1, dat_shaped z2, by rw [eq]; exact q⟩⟩
          · cases e
        · cases e
    · split at e
      · rename_i i j _
        cases e
        have e1 : x = .str ⟨i.toArray⟩ := ha
        have e2 : y = .str ⟨j.toArray⟩ := hb
        exact ⟨fun q => sop_of op_in_str ⟨_, _, e1, e2, by simpa [occurs, Str.length] using q⟩, fun q => sop_of op_notIn_str ⟨_, _, e1, e2, by simpa [occurs, Str.length] using q⟩⟩
      · cases e
  · cases e
theorem non_dec {v : Val} {x : V} (h : RV g ω H v x) : decide (x = .non) = v.isNone := by
  cases v with
  | none => rw [show x = .non from h]; rfl
  | bool _ => rw [show x = .bl _ from h]; rfl
  | int _ => rw [show x = .int _ from h]; rfl
  | str _ => rw [show x = .str _ from h]; rfl
  | tup _ => obtain ⟨a, xs, h1, _⟩ := h; rw [h1]; rfl
  | lst _ => obtain ⟨a, xs, h1, _⟩ := h; rw [h1]; rfl
  | lck _ => obtain ⟨a, xs, h1, _⟩ := h; rw [h1]; rfl
  | dct _ _ => obtain ⟨_, a, h1, _⟩ := h; rw [h1]; rfl
  | fn _ => rw [show x = .ref _ from h]; rfl
theorem cmp_ok (hK : X.K = g.K) (hu : X.A.units + 70 < cLine) {o : Cp} {op : CmpOp} {ta tb : T} {b : Bool} {k1 k2 : Lb} {x y : V} (ho : cpOk o op = true) (ha : RT g cl xa ω H k1 ta x) (hb : RT g cl xa ω H k2 tb y)
    (e : cmpF o ta tb = some b) (q : Q (.bl b) H) : SOp X (compareOp op) x y H Q := by
  unfold cmpF at e
  split at e
  · cases op <;> cases ho
    cases e; rw [show x = .int _ from ha, show y = .int _ from hb]; exact sop_of op_lt ⟨_, _, rfl, rfl, q⟩
  · cases op <;> cases ho
    cases e; rw [show x = .int _ from ha, show y = .int _ from hb]; exact sop_of op_le ⟨_, _, rfl, rfl, q⟩
  · cases op <;> cases ho
    cases e; rw [show x = .int _ from ha, show y = .int _ from hb]; exact sop_of op_gt ⟨_, _, rfl, rfl, q⟩
  · cases op <;> cases ho
    cases e; rw [show x = .int _ from ha, show y = .int _ from hb]; exact sop_of op_ge ⟨_, _, rfl, rfl, q⟩
  · cases op <;> cases ho
    cases e; exact sop_of op_isN ⟨hb, by rw [non_dec ha]; exact q⟩
  · cases op <;> cases ho
    cases e
    refine sop_of op_notN ⟨hb, ?_⟩
    rw [non_dec ha]; exact q
  · cases op <;> cases ho
    cases e; obtain ⟨a, xs, h1, _⟩ := ha; subst h1; exact sop_of op_isN ⟨hb, q⟩
  · cases op <;> cases ho
    cases e; obtain ⟨a, xs, h1, _⟩ := ha; subst h1; exact sop_of op_notN ⟨hb, q⟩
  · cases op <;> cases ho
    cases e; rename_i c d; rw [show x = .bl _ from ha, show y = .bl _ from hb]
    refine sop_of op_is_bl ⟨_, _, rfl, rfl, ?_⟩
    cases c <;> cases d <;> exact q
  · cases op <;> cases ho
    cases e; rename_i c d; rw [show x = .bl _ from ha, show y = .bl _ from hb]
    refine sop_of op_isnot_bl ⟨_, _, rfl, rfl, ?_⟩
    cases c <;> cases d <;> exact q
  · cases op <;> cases ho
    exact (eqF_ok hK hu ha hb e).1 q
  · cases op <;> cases ho
    obtain ⟨b', e1, e2⟩ := Option.map_eq_some_iff.mp e
    exact (eqF_ok hK hu ha hb e1).2 (by rw [e2]; exact q)
  · cases op <;> cases ho
    exact (inF_ok hu hK ha hb e).1 q
  · cases op <;> cases ho
    obtain ⟨b', e1, e2⟩ := Option.map_eq_some_iff.mp e
    exact (inF_ok hu hK ha hb e1).2 (by rw [e2]; exact q)
  · cases e
end
end Py
set_option maxHeartbeats 1000000
namespace Py
open PySem PySem.Spec PyProof.Rows L2
section
variable {g : Gc} {cl : Clx} {xa : Fx} {n : Nat} {ω : Om} {H : Hp} {σ : L2.St} {env : Env} {Q : VK} {X : Cx} {M : Nm} {cx : EC} {sc : Scope} {k : Nat}
/-! ### subscripts, slices -/
theorem atI_map {α β : Type} {R : α → β → Prop} {xs : List α} {ys : List β} {i : Int} {v : α} (hl : ys.length = xs.length) (h : ∀ (j : Nat) (v : α), xs[j]? = some v → ∃ y, ys[j]? = some y ∧ R v y) (e : atI xs i = some v) : ∃ y, atI ys i = some y ∧ R v y := by
  unfold atI at e ⊢
  rw [hl]
  cases q : ixN xs.length i with
  | none => rw [q] at e; cases e
  | some j => rw [q] at e; exact h j v e
theorem ix_dK (hu : X.A.units + 1 < cLine) : IxR X (fun x y H Q => ∃ a v, x = .ref a ∧ DGet H a y (some v) ∧ Q v H) := by
  intro value slice pins s σ H x y v u Q I rx ry h hs
  obtain ⟨a, w, rfl, hg, q⟩ := h
  obtain rfl : v = Value.ref a := rx
  exact tail_any (dict_typeIs I hg) slot_dict_getitem.lookup (d_getItem hu I hg ry fun w' s' I' rw' => ⟨w, H, I', rw', q⟩) hs
theorem key_kV {v : Val} {x : V} {k : Key} (h : RV g ω H v x) (e : keyV v = some k) : x = kV k := by
  cases v <;> first | (cases e; exact h) | cases e
theorem str_key {a b : List Nat} : (⟨a.toArray⟩ : Str) = ⟨b.toArray⟩ ↔ a = b := by
  constructor
  · intro h
    have := congrArg (fun z : Str => z.cps.toList) h
    simpa using this
  · rintro rfl; rfl
theorem key_eq {v w : Val} {k q : Key} (e : keyV v = some k) (e' : keyV w = some q) : (eqv v w = true ↔ k = q) := by
  cases v <;> first | cases e | skip
  · cases w <;> first | cases e' | skip
    · rename_i i j
      show ((i == j) = true ↔ (Sum.inl i : Key) = Sum.inl j)
      rw [beq_iff_eq]; exact ⟨fun h => by rw [h], fun h => Sum.inl.inj h⟩
    · exact ⟨fun h => (nomatch h), fun h => (nomatch h)⟩
  · cases w <;> first | cases e' | skip
    · exact ⟨fun h => (nomatch h), fun h => (nomatch h)⟩
    · rename_i i j
      show ((i == j) = true ↔ (Sum.inr ⟨i.toArray⟩ : Key) = Sum.inr ⟨j.toArray⟩)
      rw [beq_iff_eq]; exact ⟨fun h => by rw [h], fun h => str_key.mp (Sum.inr.inj h)⟩
theorem lookK_dk {k : Val} {q : Key} (hk : keyV k = some q) : ∀ {ks vs : List Val} {kvs : List (Key × V)} {v : Val}, DK g ω H ks vs kvs → lookK k ks vs = some v → ∃ y, valV kvs q = some y ∧ RV g ω H v y
  | [], _, _, _, _, e => by cases e
  | _ :: _, [], _, _, h, _ => h.elim
  | x :: ks, w :: vs, _, v, ⟨p, y, r, h1, h2, h3, h4⟩, e => by
    have e' : (match eqv x k with | true => some w | false => lookK k ks vs) = some v := e
    rw [h1]
    have ke := key_eq h2 hk
    cases hq : eqv x k with
    | true =>
      rw [hq] at e'
      cases e'
      exact ⟨y, valV_pos (ke.mp hq), h3⟩
    | false =>
      rw [hq] at e'
      obtain ⟨z, z1, z2⟩ := lookK_dk hk h4 e'
      exact ⟨z, by rw [valV_neg fun z => (by rw [ke.mpr z] at hq; cases hq)]; exact z1, z2⟩
theorem sub_ok (hu : X.A.units + 1 < cLine) (r : Rel g cl xa ω H env σ) (hK : X.K = g.K) {ta tb t : T} {k1 k2 : Lb} {x y : V} (ha : RT g cl xa ω H k1 ta x) (hb : RT g cl xa ω H k2 tb y)
    (e : subF ta tb = some t) (f : Fin g cl xa n ω H env σ t Q) : SIx X x y H Q := by
  unfold subF at e
  split at e
  · rename_i i
    rw [show y = .int i from hb]
    split at e
    · rename_i l hl
      obtain ⟨v, e1, e2⟩ := Option.map_eq_some_iff.mp e
      subst e2
      obtain ⟨p, xs, q1, q2, q3⟩ := ha.items' hl
      obtain ⟨z, z1, z2⟩ := atI_map (R := fun v y => RV g ω H v y) q2.length (fun j v h => q2.get h) e1
      rw [q1]
      rcases q3 with q3 | q3
      · exact six_of ix_seq (.inl ⟨p, xs, i, z, rfl, rfl, hK ▸ q3, z1, f.val r z2⟩)
      · exact six_of ix_seq (.inr (.inl ⟨p, xs, i, z, rfl, rfl, hK ▸ q3, z1, f.val r z2⟩))
    · split at e
      · split at e
        · next s _ _ hz =>
          obtain ⟨c, e1, e2⟩ := Option.map_eq_some_iff.mp e
          subst e2
          have ex : x = .str ⟨s.toArray⟩ := ha
          rw [ex]
          exact six_of ix_seq (.inr (.inr ⟨_, i, c, rfl, rfl, by simpa [Str.length] using fits_ok hz, by simpa using e1, f.val r rfl⟩))
        · cases e
      · obtain ⟨v, e1, e2⟩ := Option.map_eq_some_iff.mp e
        subst e2
        obtain ⟨a, kvs, q1, _, q3, q4⟩ := ha
        obtain ⟨w, w1, w2⟩ := lookK_dk (k := .int i) (q := .inl i) rfl q4 e1
        subst q1
        refine six_of (ix_dK hu) ⟨a, w, rfl, ?_, f.val r w2⟩
        rw [← w1]; exact DGet.k (k := .inl i) q3
      · cases e
  · rename_i s
    split at e
    · obtain ⟨v, e1, e2⟩ := Option.map_eq_some_iff.mp e
      subst e2
      obtain ⟨a, kvs, q1, _, q3, q4⟩ := ha
      obtain ⟨w, w1, w2⟩ := lookK_dk (k := .str s) (q := .inr ⟨s.toArray⟩) rfl q4 e1
      subst q1
      rw [show y = .str ⟨s.toArray⟩ from hb]
      refine six_of (ix_dK hu) ⟨a, w, rfl, ?_, f.val r w2⟩
      rw [← w1]; exact DGet.k (k := .inr ⟨s.toArray⟩) q3
    · cases e
  · cases e
theorem slc_ok (r : Rel g cl xa ω H env σ) (hK : X.K = g.K) {ta t : T} {k1 : Lb} {x : V} {lo hi : Option Int} (ha : RT g cl xa ω H k1 ta x)
    (e : slcF ta lo hi = some t) (f : Fin g cl xa n ω H env σ t Q) : SSl X x lo hi H Q := by
  unfold slcF at e
  split at e
  · rename_i l
    cases e
    obtain ⟨a, xs, q1, q2, q3⟩ := ha
    subst q1
    have hc : RVs g ω H (cutL l lo hi) (cutV xs lo hi) := q3.cut lo hi
    refine ssl_of sl_tupA ⟨a, xs, rfl, hK ▸ q2.sq, fun h => ?_, fun h => f.tup r hc⟩
    refine f.val r ⟨a, xs, rfl, q2, ?_⟩
    obtain ⟨h1, h2⟩ := h
    rw [q3.length] at h1 h2
    have : cutL l lo hi = l := by unfold cutL; rw [h1, h2]; simp
    rw [this]; exact q3
  · rename_i l
    cases e
    obtain ⟨a, xs, q1, q2, q3, q4⟩ := ha
    subst q1
    exact ssl_of sl_list ⟨a, xs, rfl, .inl (.inl q3), f.lst r (q4.cut lo hi)⟩
  · rename_i l
    cases e
    obtain ⟨a, xs, q1, q2, q4⟩ := ha
    subst q1
    exact ssl_of sl_list ⟨a, xs, rfl, by rw [hK]; exact q2.sq, f.lst r (q4.cut lo hi)⟩
  · rename_i l
    cases e
    obtain ⟨a, xs, q1, q2, q3, q4⟩ := ha
    subst q1
    exact ssl_of sl_list ⟨a, xs, rfl, .inl (.inl q3), f.lst r (q4.cut lo hi)⟩
  · cases e

/-! ### built-ins -/
theorem fold_max : ∀ (r : List Int) (x : Int), (r.foldl (fun a b => if a < b then b else a) x ∈ x :: r) ∧ (∀ y ∈ x :: r, y ≤ r.foldl (fun a b => if a < b then b else a) x)
  | [], x => ⟨List.mem_singleton.mpr rfl, fun y hy => by rw [List.mem_singleton.mp hy]; exact Int.le_refl _⟩
  | z :: r, x => by
    obtain ⟨h1, h2⟩ := fold_max r (if x < z then z else x)
    rw [List.foldl_cons]
    refine ⟨?_, fun y hy => ?_⟩
    · rcases List.mem_cons.mp h1 with h | h
      · rw [h]
        split
        · exact List.mem_cons_of_mem _ List.mem_cons_self
        · exact List.mem_cons_self
      · exact List.mem_cons_of_mem _ (List.mem_cons_of_mem _ h)
    · have h3 := h2 _ List.mem_cons_self
      have ha : x ≤ (if x < z then z else x) := by split <;> omega
      have hb : z ≤ (if x < z then z else x) := by split <;> omega
      rcases List.mem_cons.mp hy with h | hy
      · rw [h]; exact Int.le_trans ha h3
      · rcases List.mem_cons.mp hy with h | hy
        · rw [h]; exact Int.le_trans hb h3
        · exact h2 y (List.mem_cons_of_mem _ hy)
theorem maxI_ok {ns : List Int} {m : Int} (h : maxI ns = some m) : m ∈ ns ∧ (∀ y ∈ ns, y ≤ m) ∧ 0 < ns.length := by
  cases ns with
  | nil => cases h
  | cons x r =>
    cases h
    obtain ⟨h1, h2⟩ := fold_max r x
    exact ⟨h1, h2, by simp⟩
theorem cr_sumT (hc : X.calm = true) : CallR X (.builtin "sum") (fun vs H Q => ∃ (a : Addr) (ns : List Int), vs = [V.ref a] ∧ SqT X.K H a (ns.map V.int) ∧ Q (.int ns.sum) H) := by
  intro pins s σ H vs us Q I r h
  obtain ⟨a, ns, rfl, hs, q⟩ := h
  obtain ⟨its, rv, ht, _⟩ := I.tuple hs
  rw [Vals.ref1 r]
  have hi := rv.ints
  obtain ⟨ys, e⟩ := hi.allInts.items
  have hn : numsOf (intItems ys).toList = ns := by rw [← e]; exact hi.numsOf
  rw [nums_intItems] at hn
  rw [e] at ht
  refine PySem.W.ktm_sumG (I.ok.hd hc) ht fun h' tk t' hk => ?_
  rw [preSum_eq, List.take_of_length_le (by simp), hn]
  exact ⟨.int _, H, I.kept hk, ⟨_, rfl⟩, q⟩
def BI.fv : BI → Value
  | .len => .builtin "len" | .int => .type "int" | .sum => .builtin "sum" | .tuple => .type "tuple" | .list => .type "list"
  | .all => .builtin "all" | .any => .builtin "any" | .abs => .builtin "abs" | .maxl => .builtin "max"
theorem bi_ok (r : Rel g cl xa ω H env σ) (hK : X.K = g.K) (hc : X.calm = true) {b : BI} {ta t : T} {k1 : Lb} {x : V} (ha : RT g cl xa ω H k1 ta x)
    (e : biF b ta = some t) (f : Fin g cl xa n ω H env σ t Q) : SCall X b.fv [x] H Q := by
  cases b with
  | len =>
    simp only [biF] at e
    split at e
    · next l hl =>
      cases e
      obtain ⟨p, xs, q1, q2, q3⟩ := ha.items' hl
      subst q1
      exact scall_of call_len_seq ⟨p, xs, rfl, hK ▸ q3, f.val r (by rw [q2.length]; rfl)⟩
    · split at e
      · split at e
        · next s _ _ hz =>
          cases e
          have ex : x = .str ⟨s.toArray⟩ := ha
          rw [ex]
          exact scall_of call_len_str ⟨_, rfl, by simpa [Str.length] using fits_ok hz, f.val r (by simp [Str.length]; rfl)⟩
        · cases e
      · cases e
  | int =>
    cases ta with
    | v v =>
      cases v with
      | int i => cases e; rw [show x = .int i from ha]; exact scall_of call_int1 (.inl ⟨i, rfl, f.val r rfl⟩)
      | bool i => cases e; rw [show x = .bl i from ha]; exact scall_of call_int1 (.inr ⟨i, rfl, f.val r rfl⟩)
      | _ => cases e
    | _ => cases e
  | maxl =>
    have key : ∀ l ns m, (ta = .vl l ∨ ta = .v (.lst l)) → intsOf l = some ns → maxI ns = some m → t = .v (.int m) → SCall X (.builtin "max") [x] H Q := fun l ns m h e1 em e2 => by
      subst e2
      obtain ⟨a, xs, q1, q2, q3⟩ := ha.lstOf h
      subst q1
      obtain ⟨m1, m2, m3⟩ := maxI_ok em
      refine scall_of (cr_max hc) ⟨a, ns, rfl, .inl (.inl (by rw [← q2.ints e1]; exact q3)), m3, fun m' h1 h2 => ?_⟩
      have : m' = m := Int.le_antisymm (m2 m' h1) (h2 m m1)
      rw [this]; exact f.val r rfl
    have go : ∀ l, (ta = .vl l ∨ ta = .v (.lst l)) → ((intsOf l).bind maxI).map (fun m => T.v (.int m)) = some t → SCall X (.builtin "max") [x] H Q := fun l h e => by
      obtain ⟨m, e1, e2⟩ := Option.map_eq_some_iff.mp e
      obtain ⟨ns, e3, e4⟩ := Option.bind_eq_some_iff.mp e1
      exact key l ns m h e3 e4 e2.symm
    cases ta with
    | v v =>
      cases v with
      | lst l => exact go l (.inr rfl) e
      | _ => cases e
    | vl l => exact go l (.inl rfl) e
    | _ => cases e
  | abs =>
    cases ta with
    | v v =>
      cases v with
      | int i => cases e; rw [show x = .int i from ha]; exact scall_of call_abs ⟨i, rfl, f.val r rfl⟩
      | _ => cases e
    | _ => cases e
  | tuple =>
    obtain ⟨l, e1, e2⟩ := Option.map_eq_some_iff.mp (show (items ta).map (fun l => T.v (.tup l)) = some t from e)
    subst e2
    obtain ⟨p, xs, q1, q2, q3⟩ := ha.items e1
    subst q1
    rcases q3 with ⟨q3, q4⟩ | q3
    · exact scall_of call_tuple_of ⟨p, xs, rfl, .inr ⟨hK ▸ q4.sq, f.val r ⟨p, xs, rfl, q4, q2⟩⟩⟩
    · exact scall_of call_tuple_of ⟨p, xs, rfl, .inl ⟨hK ▸ q3, f.tup r q2⟩⟩
  | list =>
    have key : ∀ l, items ta = some l → t = .vl l → SCall X (.type "list") [x] H Q := fun l e1 e2 => by
      subst e2
      obtain ⟨p, xs, q1, q2, q3⟩ := ha.items' e1
      subst q1
      exact scall_of call_list_of ⟨p, xs, rfl, hK ▸ q3, f.lst r q2⟩
    cases ta with
    | v v =>
      cases v with
      | tup l => cases e; exact key l rfl rfl
      | lst l => cases e; exact key l rfl rfl
      | _ => cases e
    | vl l => cases e; exact key l rfl rfl
    | _ => cases e
  | sum =>
    have key : ∀ l ns, (ta = .vl l ∨ ta = .v (.lst l)) → intsOf l = some ns → t = .v (.int ns.sum) → SCall X (.builtin "sum") [x] H Q := fun l ns h e1 e2 => by
      subst e2
      obtain ⟨a, xs, q1, q2, q3⟩ := ha.lstOf h
      subst q1
      exact scall_of (cr_sum hc) ⟨a, ns, rfl, .inl (.inl (by rw [← q2.ints e1]; exact q3)), f.val r rfl⟩
    cases ta with
    | v v =>
      cases v with
      | tup l =>
        obtain ⟨ns, e1, e2⟩ := Option.map_eq_some_iff.mp (show (intsOf l).map (fun ns => T.v (.int ns.sum)) = some t from e)
        subst e2
        obtain ⟨a, xs, q1, q2, q3⟩ := ha
        subst q1
        exact scall_of (cr_sumT hc) ⟨a, ns, rfl, by rw [hK, ← q3.ints e1]; exact q2.sq, f.val r rfl⟩
      | lst l => obtain ⟨ns, e1, e2⟩ := Option.map_eq_some_iff.mp (show (intsOf l).map (fun ns => T.v (.int ns.sum)) = some t from e); exact key l ns (.inr rfl) e1 e2.symm
      | _ => cases e
    | vl l => obtain ⟨ns, e1, e2⟩ := Option.map_eq_some_iff.mp (show (intsOf l).map (fun ns => T.v (.int ns.sum)) = some t from e); exact key l ns (.inl rfl) e1 e2.symm
    | _ => cases e
  | all =>
    have key : ∀ l ns, (ta = .vl l ∨ ta = .v (.lst l)) → boolsOf l = some ns → t = .v (.bool (ns.all id)) → SCall X (.builtin "all") [x] H Q := fun l ns h e1 e2 => by
      subst e2
      obtain ⟨a, xs, q1, q2, q3⟩ := ha.lstOf h
      subst q1
      exact scall_of (cr_all hc) ⟨a, ns, rfl, .inl (.inl (by rw [← q2.bools e1]; exact q3)), f.val r rfl⟩
    cases ta with
    | v v =>
      cases v with
      | lst l => obtain ⟨ns, e1, e2⟩ := Option.map_eq_some_iff.mp (show (boolsOf l).map (fun ns => T.v (.bool (ns.all id))) = some t from e); exact key l ns (.inr rfl) e1 e2.symm
      | _ => cases e
    | vl l => obtain ⟨ns, e1, e2⟩ := Option.map_eq_some_iff.mp (show (boolsOf l).map (fun ns => T.v (.bool (ns.all id))) = some t from e); exact key l ns (.inl rfl) e1 e2.symm
    | _ => cases e
  | any =>
    have key : ∀ l ns, (ta = .vl l ∨ ta = .v (.lst l)) → boolsOf l = some ns → t = .v (.bool (ns.any id)) → SCall X (.builtin "any") [x] H Q := fun l ns h e1 e2 => by
      subst e2
      obtain ⟨a, xs, q1, q2, q3⟩ := ha.lstOf h
      subst q1
      exact scall_of (cr_any hc) ⟨a, ns, rfl, .inl (.inl (by rw [← q2.bools e1]; exact q3)), f.val r rfl⟩
    cases ta with
    | v v =>
      cases v with
      | lst l => obtain ⟨ns, e1, e2⟩ := Option.map_eq_some_iff.mp (show (boolsOf l).map (fun ns => T.v (.bool (ns.any id))) = some t from e); exact key l ns (.inr rfl) e1 e2.symm
      | _ => cases e
    | vl l => obtain ⟨ns, e1, e2⟩ := Option.map_eq_some_iff.mp (show (boolsOf l).map (fun ns => T.v (.bool (ns.any id))) = some t from e); exact key l ns (.inl rfl) e1 e2.symm
    | _ => cases e
/-- a thing's type, as isinstance asks it -/
def Ty.cn : Ty → String
  | .int => "int" | .bool => "bool" | .str => "str" | .tuple => "tuple" | .list => "list" | .dict => "dict"
theorem isi_ok (hK : X.K = g.K) {ty : Ty} {ta : T} {k1 : Lb} {x : V} {b : Bool} (ha : RT g cl xa ω H k1 ta x) (e : isiF ty ta = some b) (q : Q (.bl b) H) : SCall X (.builtin "isinstance") [x, .ty ty.cn] H Q := by
  have key : ∀ (t : String) (c : Bool), TyX X.K H x (.type t) → kitB t ty.cn = some c → c = b → SCall X (.builtin "isinstance") [x, .ty ty.cn] H Q := fun t c h1 h2 h3 =>
    scall_of call_isi ⟨x, .ty ty.cn, _, _, b, rfl, .ty _, h1, kit_ty (by rw [h2, h3]), q⟩
  cases ta with
  | v v =>
    cases v with
    | none => cases e; rw [show x = .non from ha] at key ⊢; exact key "NoneType" false (.base .non) (by cases ty <;> decide +kernel) rfl
    | bool c => cases e; rw [show x = .bl c from ha] at key ⊢; exact key "bool" _ (.base (.bl c)) (by cases ty <;> decide +kernel) rfl
    | int c => cases e; rw [show x = .int c from ha] at key ⊢; exact key "int" _ (.base (.int c)) (by cases ty <;> decide +kernel) rfl
    | str c => cases e; rw [show x = .str _ from ha] at key ⊢; exact key "str" _ (.base (.str _)) (by cases ty <;> decide +kernel) rfl
    | tup l =>
      cases e
      obtain ⟨a, xs, q1, q2, q3⟩ := ha
      subst q1
      rcases q2 with ⟨_, q2⟩ | ⟨o, its, m, z1, z2, z3, z4⟩
      · exact key "tuple" _ (.base (.tup q2)) (by cases ty <;> decide +kernel) rfl
      · exact key "tuple" _ (.kTuple (hK ▸ z1) z2) (by cases ty <;> decide +kernel) rfl
    | lst l =>
      cases e
      obtain ⟨a, xs, q1, q2, q3, q4⟩ := ha
      subst q1
      exact key "list" _ (.base (.lst q3)) (by cases ty <;> decide +kernel) rfl
    | lck l => cases e
    | dct _ _ =>
      cases e
      obtain ⟨_, a, q1, q2, q3⟩ := ha
      subst q1
      exact key "dict" _ (.base (.dK q3)) (by cases ty <;> decide +kernel) rfl
    | fn _ => cases e
  | vl l =>
    cases e
    obtain ⟨a, xs, q1, q2, q3, q4⟩ := ha
    subst q1
    exact key "list" _ (.base (.lst q3)) (by cases ty <;> decide +kernel) rfl
  | _ => cases e
end
end Py
set_option maxHeartbeats 1000000
namespace Py
open PySem PySem.Spec PyProof.Rows L2

/-! ### argument lists -/
def SA (X : Cx) (es : List Expr) : TA := fun σ H Q => ∀ (pos : Pos) (pins : List (Addr × Obj)) (s : Shared), Inv X pins σ H s → wpAny (model X.prog X.w) X.A (spliced (backTo pos (starEach es X.env))) (AP X pins σ Q) X.xe s
theorem pa_sa (X : Cx) (es : List Expr) : PA X es (SA X es) := ⟨fun pos pins s _ _ _ I h => h pos pins s I⟩
theorem sa_of {X : Cx} {es : List Expr} {t : TA} (h : PA X es t) {σ : L2.St} {H : Hp} {Q : List V → Hp → Prop} (q : t σ H Q) : SA X es σ H Q := fun pos pins s I => h.run pos pins s σ H Q I q
theorem star_eq {e : Expr} (h : plainE e = true) (es : List Expr) (env : PySem.Env) : starEach (e :: es) env = (false, eval e env) :: starEach es env := by
  cases e <;> first | rfl | cases h
section
variable {g : Gc} {cl : Clx} {xa : Fx} {M : Nm} {cx : EC} {sc : Scope} {k : Nat} {X : Cx}
/-- the operands' values -/
def ROs (g : Gc) (cl : Clx) (xa : Fx) (ω : Om) (H : Hp) (σ : L2.St) : Nat → List Opd → List V → Prop
  | _, [], xs => xs = []
  | n, o :: os, xs => ∃ x r, xs = x :: r ∧ RO g cl xa ω H σ n o x ∧ ROs g cl xa ω H σ (n + 1) os r
def OkA (g : Gc) (cl : Clx) (xa : Fx) (X : Cx) (f : Env → R (List Opd)) (es : List Expr) : Prop := ∀ n ω H env σ Q W, Rel g cl xa ω H env σ → Takes X W →
  Post g cl xa n ω H σ (f env) (fun os _ ω' H' => ∀ xs, ROs g cl xa ω' H' σ n os xs → Q xs H') W → SA X es σ H Q
theorem vis_ok (C : Cok g M cx sc k X) {i : Nat} {x : Str} (h : varOk M.N sc i x = true) : X.N[i]? = some x ∧ Vis X.env.scope x ∧ (x == ("__debug__" : Str)) = false ∧ (x == ("__classdict__" : Str)) = false := by
  obtain ⟨h1, h2⟩ := and_t h
  obtain ⟨h2, h3⟩ := and_t h2
  obtain ⟨h3, h4⟩ := and_t h3
  refine ⟨?_, ?_, by simpa using h3, by simpa using h4⟩
  · unfold at? at h1
    rw [C.N]
    split at h1
    · next y q => rw [q, seq_ok h1]
    · cases h1
  · exact C.vis x h2
theorem gl_ok (C : Cok g M cx sc k X) {x : Str} (h : glB sc x = true) : Gl X x := C.glo x h
theorem okT_of {e : Expr} {f : Env → R Opd} (C : Cok g M cx sc k X) (he : ∀ whole, isTrue e X.env whole = (do let v ← whole; standAt e.pos; holding [v] (truthy v))) (h : OkO g cl xa X f e) : OkT g cl xa X f e := by
  intro n ω H env σ Q W r tk p
  refine st_of (pt_truth (pe_se X e) he) (h n ω H env σ _ W r tk ?_)
  refine (Post.bind p).imp fun o env1 ω1 H1 e1 r1 p1 x ro => ?_
  cases q : rd env1 o with
  | none => rw [q] at p1; exact p1.elim
  | some t =>
    obtain ⟨l, hr⟩ := ro.rd r1 q
    rw [q] at p1
    cases z : truth t with
    | none => simp only [z] at p1; exact p1.elim
    | some b =>
      simp only [z] at p1
      exact ⟨b, C.K ▸ hr.truth z, Post.here r1 p1⟩
theorem ok_k {c : Val} {e : Expr} (h : (E.k c).chk M sc e = true) : OkO g cl xa X (fun env => (E.k c).ev cx env) e := by
  intro n ω H env σ Q W r tk p
  have p' := Post.here (a := Opd.t (.v c)) r p
  simp only [E.chk] at h
  split at h
  · next q j pos =>
    unfold constOk at h
    split at h
    · exact se_of pe_non (p' _ rfl)
    · next b b' => rw [← eq_of_beq h]; exact se_of pe_bl (p' _ rfl)
    · next i j => rw [← of_decide_eq_true h]; exact se_of pe_int (p' _ rfl)
    · next s z =>
      refine se_of pe_str (p' _ ?_)
      rw [← of_decide_eq_true h]
      show V.str z = .str ⟨z.cps.toList.toArray⟩
      simp
    · cases h
  · cases h
theorem ok_var (C : Cok g M cx sc k X) {i : Nat} {e : Expr} (h : (E.var i).chk M sc e = true) : OkO g cl xa X (fun env => (E.var i).ev cx env) e := by
  intro n ω H env σ Q W r tk p
  simp only [E.chk] at h
  split at h
  · next x pos =>
    obtain ⟨h1, h2, h3, h4⟩ := vis_ok C h
    simp only [E.ev] at p
    cases q : gt env i with
    | none => rw [q] at p; exact p.elim
    | some t =>
      cases hcp : t.isCap with
      | true =>
        cases t with
        | cap _ => rw [q] at p; exact p.elim
        | _ => cases hcp
      | false =>
      obtain ⟨y, q1, q2⟩ := r.at_ i t q hcp
      refine se_of (pe_var h1 h2 h3 h4) ⟨y, q1, ?_⟩
      cases t with
      | v v =>
        rw [q] at p
        exact Post.here (a := Opd.t (.v v)) r p y (RT.relabel (fun _ h => h) (fun a ha => ha) (k := .slot i) (k' := .slot i) q2)
      | vl l => rw [q] at p; exact Post.here (a := Opd.pl i) r p y q1
      | vd _ _ => rw [q] at p; exact Post.here (a := Opd.pl i) r p y q1
      | ob _ _ => rw [q] at p; exact Post.here (a := Opd.pl i) r p y q1
      | _ => rw [q] at p; exact p.elim
  · cases h
theorem ok_gl (C : Cok g M cx sc k X) {i : Nat} {e : Expr} (h : (E.gl i).chk M sc e = true) : OkO g cl xa X (fun env => (E.gl i).ev cx env) e := by
  intro n ω H env σ Q W r tk p
  simp only [E.chk] at h
  split at h
  · next x pos =>
    obtain ⟨h1, h2⟩ := and_t h
    obtain ⟨h2, h3⟩ := and_t h2
    obtain ⟨h3, _⟩ := and_t h3
    simp only [E.ev] at p
    cases q : cx.gv[i]? with
    | none => rw [q] at p; exact p.elim
    | some v =>
      rw [q] at p
      unfold gsAt at h1
      split at h1
      · next y q2 =>
        have p' : Post g cl xa n ω H σ (match v.isD with
          | false => Py.R.ok (Opd.t (.v v)) env
          | true => .no) (fun o _ ω' H' => ∀ x, RO g cl xa ω' H' σ n o x → Q x H') W := p
        cases hd : v.isD with
        | true => rw [hd] at p'; exact p'.elim
        | false =>
        rw [hd] at p'
        obtain ⟨u, z, e1, e2, e3⟩ := C.gs i y v q2 q hd
        rw [seq_ok h1] at e1
        exact se_of (pe_glob (gl_ok C h2) e1 e2 (by simpa using h3)) (Post.here (a := Opd.t (.v v)) r p' z (e3 ω H))
      · cases h1
  · cases h
/-! operators -/
theorem ok_bin (C : Cok g M cx sc k X) {o : Op} {a b : E} {e : Expr} (h : (E.bin o a b).chk M sc e = true)
    (ia : ∀ e, a.chk M sc e = true → OkO g cl xa X (fun env => a.ev cx env) e) (ib : ∀ e, b.chk M sc e = true → OkO g cl xa X (fun env => b.ev cx env) e) :
    OkO g cl xa X (fun env => (E.bin o a b).ev cx env) e := by
  intro n ω H env σ Q W r tk p
  simp only [E.chk] at h
  split at h
  · next l op rr pos =>
    obtain ⟨h1, h2⟩ := and_t h
    obtain ⟨h2, h3⟩ := and_t h2
    simp only [E.ev] at p
    refine se_of (pe_op (opr X _) (pe_se X l) (pe_se X rr)) ?_
    refine ia l h2 n ω H env σ _ W r tk ((Post.bind p).imp fun oa env1 ω1 H1 e1 r1 p1 x ro => ?_)
    refine ib rr h3 (n + 1) ω1 H1 env1 σ _ W r1 tk (((Post.bind p1).up (Nat.le_succ n)).imp fun ob env2 ω2 H2 e2 r2 p2 y ro2 => ?_)
    cases q1 : rd env2 oa with
    | none => rw [q1] at p2; exact p2.elim
    | some ta =>
      cases q2 : rd env2 ob with
      | none => rw [q1, q2] at p2; exact p2.elim
      | some tb =>
        rw [q1, q2] at p2
        cases q3 : binF o ta tb with
        | none => simp only [q3] at p2; exact p2.elim
        | some t =>
          simp only [q3] at p2
          obtain ⟨k1, ha⟩ := (ro.ext e2 (Nat.lt_succ_self n)).rd r2 q1
          obtain ⟨k2, hb⟩ := ro2.rd r2 q2
          exact bin_ok r2 C.K h1 ha hb q3 fun x' ω' H' e' r' t' => p2 ω' H' e' r' x' t'
  · cases h
theorem ok_neg (C : Cok g M cx sc k X) {a : E} {e : Expr} (h : (E.neg a).chk M sc e = true)
    (ia : ∀ e, a.chk M sc e = true → OkO g cl xa X (fun env => a.ev cx env) e) :
    OkO g cl xa X (fun env => (E.neg a).ev cx env) e := by
  intro n ω H env σ Q W r tk p
  simp only [E.chk] at h
  split at h
  · next l pos =>
    simp only [E.ev] at p
    refine se_of (pe_un un_neg (pe_se X l)) ?_
    refine ia l h n ω H env σ _ W r tk ((Post.bind p).imp fun oa env1 ω1 H1 e1 r1 p1 x ro => ?_)
    split at p1
    · next i => exact ⟨i, ro, Post.here (a := Opd.t (.v (.int (-i)))) r1 p1 _ rfl⟩
    · exact p1.elim
  · cases h
/-- the two operands of a comparison, then what comes of it -/
theorem two_ok (C : Cok g M cx sc k X) {a b : E} {l rr : Expr} (ia : OkO g cl xa X (fun env => a.ev cx env) l) (ib : OkO g cl xa X (fun env => b.ev cx env) rr)
    {n : Nat} {ω : Om} {H : Hp} {env : Env} {σ : L2.St} {W : WX} {β : Type} {G : T → T → Env → R β} {P : β → Env → Om → Hp → Prop} {R : V → V → Hp → Prop} (r : Rel g cl xa ω H env σ) (tk : Takes X W)
    (p : Post g cl xa n ω H σ ((a.ev cx env).bind fun oa env => (b.ev cx env).bind fun ob env => match rd env oa, rd env ob with
      | some ta, some tb => G ta tb env
      | _, _ => .no) P W)
    (hR : ∀ ta tb env2 ω2 H2 k1 k2 x y, Rel g cl xa ω2 H2 env2 σ → RT g cl xa ω2 H2 k1 ta x → RT g cl xa ω2 H2 k2 tb y → Post g cl xa n ω2 H2 σ (G ta tb env2) P W → R x y H2) :
    SE X l σ H fun x H1 => SE X rr σ H1 fun y H2 => R x y H2 := by
  refine ia n ω H env σ _ W r tk ((Post.bind p).imp fun oa env1 ω1 H1 e1 r1 p1 x ro => ?_)
  refine ib (n + 1) ω1 H1 env1 σ _ W r1 tk (((Post.bind p1).up (Nat.le_succ n)).imp fun ob env2 ω2 H2 e2 r2 p2 y ro2 => ?_)
  cases q1 : rd env2 oa with
  | none => rw [q1] at p2; exact p2.elim
  | some ta =>
    cases q2 : rd env2 ob with
    | none => rw [q1, q2] at p2; exact p2.elim
    | some tb =>
      rw [q1, q2] at p2
      obtain ⟨k1, ha⟩ := (ro.ext e2 (Nat.lt_succ_self n)).rd r2 q1
      obtain ⟨k2, hb⟩ := ro2.rd r2 q2
      exact hR ta tb env2 ω2 H2 k1 k2 x y r2 ha hb p2
theorem marks_ok {op : CmpOp} {e : Expr} (h : plainE e = true) : behindInMarks op e = false := by
  cases e <;> first | rfl | cases h
theorem ok_cmp (C : Cok g M cx sc k X) {o : Cp} {a b : E} {e : Expr} (h : (E.cmp o a b).chk M sc e = true)
    (ia : ∀ e, a.chk M sc e = true → OkO g cl xa X (fun env => a.ev cx env) e) (ib : ∀ e, b.chk M sc e = true → OkO g cl xa X (fun env => b.ev cx env) e) :
    OkO g cl xa X (fun env => (E.cmp o a b).ev cx env) e ∧ OkT g cl xa X (fun env => (E.cmp o a b).ev cx env) e := by
  simp only [E.chk] at h
  split at h
  · next l op rr pos =>
    obtain ⟨h1, h2⟩ := and_t h
    obtain ⟨h2, h3⟩ := and_t h2
    obtain ⟨h3, h4⟩ := and_t h3
    constructor
    · intro n ω H env σ Q W r tk p
      simp only [E.ev] at p
      refine se_of (pe_cmpR (opr X _) (pe_se X l) (pe_se X rr) (marks_ok h4)) (two_ok C (ia l h2) (ib rr h3) r tk p fun ta tb env2 ω2 H2 k1 k2 x y r2 ha hb p2 => ?_)
      cases q3 : cmpF o ta tb with
      | none => simp only [q3] at p2; exact p2.elim
      | some t =>
        simp only [q3] at p2
        exact cmp_ok C.K C.hu h1 ha hb q3 (Post.here (a := Opd.t (.v (.bool t))) r2 p2 _ rfl)
    · intro n ω H env σ Q W r tk p
      have p' := Post.bind p
      simp only [E.ev] at p'
      refine st_of (pt_cmpR (opr X _) (pe_se X l) (pe_se X rr) (marks_ok h4)) (two_ok C (ia l h2) (ib rr h3) r tk p' fun ta tb env2 ω2 H2 k1 k2 x y r2 ha hb p2 => ?_)
      cases q3 : cmpF o ta tb with
      | none => simp only [q3] at p2; exact p2.elim
      | some t =>
        simp only [q3] at p2
        exact cmp_ok C.K C.hu h1 ha hb q3 ⟨t, rfl, Post.here r2 (Post.here (a := Opd.t (.v (.bool t))) r2 p2)⟩
  · cases h
theorem ok_chn (C : Cok g M cx sc k X) {o1 o2 : Cp} {a b c : E} {e : Expr} (h : (E.chn o1 o2 a b c).chk M sc e = true)
    (ia : ∀ e, a.chk M sc e = true → OkO g cl xa X (fun env => a.ev cx env) e) (ib : ∀ e, b.chk M sc e = true → OkO g cl xa X (fun env => b.ev cx env) e) (ic : ∀ e, c.chk M sc e = true → OkO g cl xa X (fun env => c.ev cx env) e) :
    OkO g cl xa X (fun env => (E.chn o1 o2 a b c).ev cx env) e ∧ OkT g cl xa X (fun env => (E.chn o1 o2 a b c).ev cx env) e := by
  simp only [E.chk] at h
  split at h
  · next l op1 op2 r1 r2 pos =>
    obtain ⟨h1, h2⟩ := and_t h
    obtain ⟨g1, g2⟩ := and_t h1
    obtain ⟨h2, h3⟩ := and_t h2
    obtain ⟨h3, h4⟩ := and_t h3
    obtain ⟨h4, h5⟩ := and_t h4
    have main : ∀ (P : Opd → Env → Om → Hp → Prop) (Q : VK) (n : Nat) (ω : Om) (H : Hp) (env : Env) (σ : L2.St) (W : WX), Rel g cl xa ω H env σ → Takes X W →
        Post g cl xa n ω H σ ((E.chn o1 o2 a b c).ev cx env) P W → (∀ b env ω H, Rel g cl xa ω H env σ → P (.t (.v (.bool b))) env ω H → Q (.bl b) H) →
        tChain (SOp X (compareOp op1)) (SOp X (compareOp op2)) (SE X l) (SE X r1) (SE X r2) σ H Q := by
      intro P Q n ω H env σ W r tk p hP
      simp only [E.ev] at p
      refine ia l h2 n ω H env σ _ W r tk ((Post.bind p).imp fun oa env1 ω1 H1 e1 q1 p1 x ro => ?_)
      refine ib r1 h3 (n + 1) ω1 H1 env1 σ _ W q1 tk (((Post.bind p1).up (Nat.le_succ n)).imp fun ob env2 ω2 H2 e2 q2 p2 y ro2 => ?_)
      cases z1 : rd env2 oa with
      | none => rw [z1] at p2; exact p2.elim
      | some ta =>
        rw [z1] at p2
        obtain ⟨k1, ha⟩ := (ro.ext e2 (Nat.lt_succ_self n)).rd q2 z1
        split at p2
        · next ta' vb zz =>
          cases zz
          have hb : RT g cl xa ω2 H2 (.tmp (n + 1)) (.v vb) y := ro2
          cases z2 : cmpF o1 ta (.v vb) with
          | none => simp only [z2] at p2; exact p2.elim
          | some t =>
            simp only [z2] at p2
            refine cmp_ok C.K C.hu g1 ha hb z2 ⟨t, rfl, ?_⟩
            cases t with
            | false => exact hP false env2 ω2 H2 q2 (Post.here (a := Opd.t (.v (.bool false))) q2 p2)
            | true =>
              rw [if_pos rfl]
              refine ic r2 h4 (n + 2) ω2 H2 env2 σ _ W q2 tk (((Post.bind p2).up (by omega)).imp fun oc env3 ω3 H3 e3 q3 p3 w' ro3 => ?_)
              cases z3 : rd env3 oc with
              | none => rw [z3] at p3; exact p3.elim
              | some tc =>
                rw [z3] at p3
                obtain ⟨k3, hc⟩ := ro3.rd q3 z3
                have hb' : RT g cl xa ω3 H3 (.tmp (n + 1)) (.v vb) y := RT.keep e3.kp (e3.tmp _ (by omega)) hb
                cases z4 : cmpF o2 (.v vb) tc with
                | none => simp only [z4] at p3; exact p3.elim
                | some t =>
                  simp only [z4] at p3
                  exact cmp_ok C.K C.hu g2 hb' hc z4 (hP t env3 ω3 H3 q3 (Post.here (a := Opd.t (.v (.bool t))) q3 p3))
        · exact p2.elim
    have hm : lastMarks [op1, op2] [r1, r2] = false := by
      show behindInMarks op2 r2 = false
      exact marks_ok h5
    constructor
    · intro n ω H env σ Q W r tk p
      exact se_of (pe_chain (opr X _) (opr X _) (pe_se X l) (pe_se X r1) (pe_se X r2) hm) (main _ _ n ω H env σ W r tk p fun b env ω H r h => h _ rfl)
    · intro n ω H env σ Q W r tk p
      refine st_of (pt_chain (opr X _) (opr X _) (pe_se X l) (pe_se X r1) (pe_se X r2) hm) (main _ _ n ω H env σ W r tk (Post.bind p) fun b env ω H r h => ⟨b, rfl, Post.here r h⟩)
  · cases h
end
end Py
set_option maxHeartbeats 1000000
namespace Py
open PySem PySem.Spec PyProof.Rows L2
section
variable {g : Gc} {cl : Clx} {xa : Fx} {M : Nm} {cx : EC} {sc : Scope} {k : Nat} {X : Cx}
theorem Post.trans {α : Type} {n : Nat} {ω ω1 : Om} {H H1 : Hp} {σ : L2.St} {r : R α} {Q : α → Env → Om → Hp → Prop} {W : WX} (p : Post g cl xa n ω H σ r Q W) (e : Ext n ω H ω1 H1) : Post g cl xa n ω1 H1 σ r Q W := by
  cases r with
  | ok a env1 => exact fun ω2 H2 e2 r2 => p ω2 H2 (e.trans e2) r2
  | ex c env1 => exact fun cls d ω2 H2 σ2 e2 r2 rx => p cls d ω2 H2 σ2 (e.trans e2) r2 rx
  | no => exact p
def SW (X : Cx) (e : Expr) : TT := fun σ H Q => ∀ (wh : Sem Value) (pins : List (Addr × Obj)) (s : Shared), Inv X pins σ H s → wpAny (model X.prog X.w) X.A (isTrue e X.env wh) (TP X pins σ Q) X.xe s
theorem pw_sw (X : Cx) (e : Expr) : PW X e (SW X e) := ⟨fun wh pins s _ _ _ I h => h wh pins s I⟩
theorem sw_of {X : Cx} {e : Expr} {t : TT} (h : PW X e t) {σ : L2.St} {H : Hp} {Q : Bool → Hp → Prop} (q : t σ H Q) : SW X e σ H Q := fun wh pins s I => h.run wh pins s σ H Q I q
def OkW (g : Gc) (cl : Clx) (xa : Fx) (X : Cx) (f : Env → R Opd) (e : Expr) : Prop := ∀ n ω H env σ Q W, Rel g cl xa ω H env σ → Takes X W →
  Post g cl xa n ω H σ (truthR (f env)) (fun b _ ω' H' => Q b H') W → SW X e σ H Q
/-- of the truth of an outcome -/
theorem truth_post {n : Nat} {ω : Om} {H : Hp} {σ : L2.St} {W : WX} {r : R Opd} {F : Opd → Env → R Opd} {Q : Bool → Env → Om → Hp → Prop} {Q' : Bool → Env → Om → Hp → Prop}
    (p : Post g cl xa n ω H σ (truthR (r.bind F)) Q W) (hF : ∀ o env, rd env o = none → F o env = .no) (hF2 : ∀ o env t, rd env o = some t → truth t = none → F o env = .no)
    (h : ∀ o env1 t b, rd env1 o = some t → truth t = some b → Post g cl xa n ω H σ (truthR (F o env1)) Q W → ∀ ω1 H1, Ext n ω H ω1 H1 → Rel g cl xa ω1 H1 env1 σ → Q' b env1 ω1 H1) :
    Post g cl xa n ω H σ (truthR r) Q' W := by
  cases r with
  | ok o env1 =>
    have p' : Post g cl xa n ω H σ (truthR (F o env1)) Q W := p
    cases q : rd env1 o with
    | none => rw [hF o env1 q] at p'; exact p'.elim
    | some t =>
      cases z : truth t with
      | none => rw [hF2 o env1 t q z] at p'; exact p'.elim
      | some b =>
        have e : truthR (.ok o env1) = .ok b env1 := by
          show (match rd env1 o with | some t => (match truth t with | some b => R.ok b env1 | none => .no) | none => .no) = _
          rw [q]; simp only [z]
        rw [e]
        exact fun ω1 H1 e1 r1 => h o env1 t b q z p' ω1 H1 e1 r1
  | ex c env1 => exact p
  | no => exact p
theorem ok_not (C : Cok g M cx sc k X) {a : E} {e : Expr} (h : (E.not a).chk M sc e = true)
    (ia : ∀ e, a.chk M sc e = true → OkO g cl xa X (fun env => a.ev cx env) e ∧ OkT g cl xa X (fun env => a.ev cx env) e) :
    OkO g cl xa X (fun env => (E.not a).ev cx env) e ∧ OkT g cl xa X (fun env => (E.not a).ev cx env) e := by
  simp only [E.chk] at h
  split at h
  · next l pos =>
    constructor
    · intro n ω H env σ Q W r tk p
      simp only [E.ev] at p
      refine se_of (pe_notT (pe_se X l)) ((ia l h).1 n ω H env σ _ W r tk ?_)
      refine (Post.bind (Q := fun o _ ω' H' => ∀ x, RO g cl xa ω' H' σ n o x → Q x H') (r := a.ev cx env) (f := fun o env1 => (match rd env1 o with | some t => (match truth t with | some b => R.ok b env1 | none => .no) | none => .no).bind fun (b : Bool) env => R.ok (Opd.t (T.v (Val.bool (!b)))) env) ?_).imp fun o env1 ω1 H1 e1 r1 p1 x ro => ?_
      · revert p; cases a.ev cx env <;> exact id
      · cases q : rd env1 o with
        | none => rw [q] at p1; exact p1.elim
        | some t =>
          obtain ⟨l, hr⟩ := ro.rd r1 q
          rw [q] at p1
          cases z : truth t with
          | none => simp only [z] at p1; exact p1.elim
          | some b =>
            simp only [z] at p1
            exact ⟨b, C.K ▸ hr.truth z, Post.here (a := Opd.t (.v (.bool (!b)))) r1 p1 _ rfl⟩
    · intro n ω H env σ Q W r tk p
      simp only [E.ev] at p
      refine st_of (pt_not (pt_st X l)) ((ia l h).2 n ω H env σ _ W r tk ?_)
      cases q : truthR (a.ev cx env) with
      | ok b env1 => rw [q] at p; exact fun ω1 H1 e1 r1 => p ω1 H1 e1 r1
      | ex c env1 => rw [q] at p; exact p
      | no => rw [q] at p; exact p
  · cases h
theorem pt_ifx {c a b : Expr} {pos : Pos} {t : TT} {ta tb : TT} (hc : PT X c t) (ha : PT X a ta) (hb : PT X b tb) :
    PT X (.IfExp c a b pos) (fun σ H Q => t σ H fun c H1 => if c = true then ta σ H1 Q else tb σ H1 Q) := by
  refine ⟨fun pins s σ H Q I h => ?_⟩
  rw [arm_isTrue_IfExp]
  refine wpAny_bind (thn (hc.run pins s σ H _ I h) fun d s1 ⟨H1, I1, q1⟩ => ?_)
  cases d with
  | true => exact ha.run pins s1 σ H1 Q I1 q1
  | false => exact hb.run pins s1 σ H1 Q I1 q1
theorem ok_ite (C : Cok g M cx sc k X) {c a b : E} {e : Expr} (h : (E.ite c a b).chk M sc e = true)
    (ic : ∀ e, c.chk M sc e = true → OkO g cl xa X (fun env => c.ev cx env) e ∧ OkT g cl xa X (fun env => c.ev cx env) e)
    (ia : ∀ e, a.chk M sc e = true → OkO g cl xa X (fun env => a.ev cx env) e ∧ OkT g cl xa X (fun env => a.ev cx env) e)
    (ib : ∀ e, b.chk M sc e = true → OkO g cl xa X (fun env => b.ev cx env) e ∧ OkT g cl xa X (fun env => b.ev cx env) e) :
    OkO g cl xa X (fun env => (E.ite c a b).ev cx env) e ∧ OkT g cl xa X (fun env => (E.ite c a b).ev cx env) e := by
  simp only [E.chk] at h
  split at h
  · next t x y pos =>
    obtain ⟨h1, h2⟩ := and_t h
    obtain ⟨h2, h3⟩ := and_t h2
    constructor
    · intro n ω H env σ Q W r tk p
      simp only [E.ev] at p
      refine se_of (pe_ifExp (pt_st X t) (pe_se X x) (pe_se X y)) ((ic t h1).2 n ω H env σ _ W r tk ((Post.bind p).imp fun b env1 ω1 H1 e1 r1 p1 => ?_))
      cases b with
      | true => rw [if_pos rfl]; exact (ia x h2).1 n ω1 H1 env1 σ Q W r1 tk p1
      | false => exact (ib y h3).1 n ω1 H1 env1 σ Q W r1 tk p1
    · intro n ω H env σ Q W r tk p
      simp only [E.ev] at p
      refine st_of (pt_ifx (pt_st X t) (pt_st X x) (pt_st X y)) ((ic t h1).2 n ω H env σ _ W r tk ?_)
      cases q : truthR (c.ev cx env) with
      | ok d env1 =>
        rw [q] at p
        intro ω1 H1 e1 r1
        cases d with
        | true => rw [if_pos rfl]; exact (ia x h2).2 n ω1 H1 env1 σ Q W r1 tk (Post.trans p e1)
        | false => exact (ib y h3).2 n ω1 H1 env1 σ Q W r1 tk (Post.trans p e1)
      | ex c env1 => rw [q] at p; exact p
      | no => rw [q] at p; exact p
  · cases h
/-- and, or -/
theorem ok_bo1 {w : Bool} {op : BoolOp} (hw : boOk w op = true) {a : E} {x : Expr} (ia : OkO g cl xa X (fun env => a.ev cx env) x ∧ OkT g cl xa X (fun env => a.ev cx env) x) (pos : Pos) :
    OkO g cl xa X (fun env => (Es.cons a .nil).bo cx w env) (.BoolOp op [x] pos) ∧ OkW g cl xa X (fun env => (Es.cons a .nil).bo cx w env) (.BoolOp op [x] pos) := by
  constructor
  · intro n ω H env σ Q W r tk p
    simp only [Es.bo] at p
    exact se_of (pe_one (pe_se X x)) (ia.1 n ω H env σ Q W r tk p)
  · intro n ω H env σ Q W r tk p
    simp only [Es.bo] at p
    cases op with
    | And => exact sw_of (pw_and1 (pt_st X x)) (ia.2 n ω H env σ Q W r tk p)
    | Or => exact sw_of (pw_or1 (pt_st X x)) (ia.2 n ω H env σ Q W r tk p)
theorem ok_bo2 (C : Cok g M cx sc k X) {w : Bool} {op : BoolOp} (hw : boOk w op = true) {a b : E} {r : Es} {x y : Expr} {rest : List Expr} (ia : OkO g cl xa X (fun env => a.ev cx env) x ∧ OkT g cl xa X (fun env => a.ev cx env) x) (pos : Pos)
    (ir : OkO g cl xa X (fun env => (Es.cons b r).bo cx w env) (.BoolOp op (y :: rest) pos) ∧ OkW g cl xa X (fun env => (Es.cons b r).bo cx w env) (.BoolOp op (y :: rest) pos)) :
    OkO g cl xa X (fun env => (Es.cons a (.cons b r)).bo cx w env) (.BoolOp op (x :: y :: rest) pos) ∧ OkW g cl xa X (fun env => (Es.cons a (.cons b r)).bo cx w env) (.BoolOp op (x :: y :: rest) pos) := by
  constructor
  · intro n ω H env σ Q W rr tk p
    change Post g cl xa n ω H σ ((Es.cons a (.cons b r)).bo cx w env) _ W at p
    rw [show (Es.cons a (.cons b r)).bo cx w env = (a.ev cx env).bind fun o env => match rd env o with
      | some t => match truth t with
        | some c => match c == w with
          | true => (Es.cons b r).bo cx w env
          | false => .ok o env
        | none => .no
      | none => .no by first | (simp only [Es.bo]; done) | (simp only [Es.bo]; rfl)] at p
    have key : ∀ (o : Opd) (env1 : Env) (ω1 : Om) (H1 : Hp) (z : V), Rel g cl xa ω1 H1 env1 σ → RO g cl xa ω1 H1 σ n o z →
        Post g cl xa n ω1 H1 σ (match rd env1 o with
          | some t => match truth t with
            | some c => match c == w with
              | true => (Es.cons b r).bo cx w env1
              | false => .ok o env1
            | none => .no
          | none => .no) (fun o _ ω' H' => ∀ x, RO g cl xa ω' H' σ n o x → Q x H') W →
        ∃ c, TruV X.K z H1 c ∧ ((c == w) = true → SE X (.BoolOp op (y :: rest) pos) σ H1 Q) ∧ ((c == w) = false → Q z H1) := by
      intro o env1 ω1 H1 z r1 ro p1
      cases q : rd env1 o with
      | none => rw [q] at p1; exact p1.elim
      | some t =>
        obtain ⟨l, hr⟩ := ro.rd r1 q
        rw [q] at p1
        cases zz : truth t with
        | none => simp only [zz] at p1; exact p1.elim
        | some c =>
          simp only [zz] at p1
          refine ⟨c, C.K ▸ hr.truth zz, fun hc => ?_, fun hc => ?_⟩
          · rw [hc] at p1; exact ir.1 n ω1 H1 env1 σ Q W r1 tk p1
          · rw [hc] at p1; exact Post.here (a := o) r1 p1 z ro
    cases op with
    | And =>
      cases w with
      | false => cases hw
      | true =>
        refine se_of (pe_andT (pe_se X x) (pe_se X _)) (ia.1 n ω H env σ _ W rr tk ((Post.bind p).imp fun o env1 ω1 H1 e1 r1 p1 z ro => ?_))
        obtain ⟨c, h1, h2, h3⟩ := key o env1 ω1 H1 z r1 ro p1
        refine ⟨c, h1, ?_⟩
        cases c with
        | true => exact h2 rfl
        | false => exact h3 rfl
    | Or =>
      cases w with
      | true => cases hw
      | false =>
        refine se_of (pe_orT (pe_se X x) (pe_se X _)) (ia.1 n ω H env σ _ W rr tk ((Post.bind p).imp fun o env1 ω1 H1 e1 r1 p1 z ro => ?_))
        obtain ⟨c, h1, h2, h3⟩ := key o env1 ω1 H1 z r1 ro p1
        refine ⟨c, h1, ?_⟩
        cases c with
        | true => exact h3 rfl
        | false => exact h2 rfl
  · intro n ω H env σ Q W rr tk p
    change Post g cl xa n ω H σ (truthR ((Es.cons a (.cons b r)).bo cx w env)) _ W at p
    rw [show (Es.cons a (.cons b r)).bo cx w env = (a.ev cx env).bind fun o env => match rd env o with
      | some t => match truth t with
        | some c => match c == w with
          | true => (Es.cons b r).bo cx w env
          | false => .ok o env
        | none => .no
      | none => .no by first | (simp only [Es.bo]; done) | (simp only [Es.bo]; rfl)] at p
    have key : Post g cl xa n ω H σ (truthR (a.ev cx env)) (fun c _ ω1 H1 => ((c == w) = true → SW X (.BoolOp op (y :: rest) pos) σ H1 Q) ∧ ((c == w) = false → Q c H1)) W := by
      refine truth_post p (fun o env h => by simp only [h]) (fun o env t h h2 => by simp only [h, h2]) fun o env1 t c h1 h2 p1 ω1 H1 e1 r1 => ?_
      simp only [h1, h2] at p1
      refine ⟨fun hc => ?_, fun hc => ?_⟩
      · rw [hc] at p1; exact ir.2 n ω1 H1 env1 σ Q W r1 tk (Post.trans p1 e1)
      · rw [hc] at p1
        have e : truthR (.ok o env1) = .ok c env1 := by
          show (match rd env1 o with | some t => (match truth t with | some b => R.ok b env1 | none => .no) | none => .no) = _
          rw [h1]; simp only [h2]
        simp only [e] at p1
        exact p1 ω1 H1 e1 r1
    cases op with
    | And =>
      cases w with
      | false => cases hw
      | true =>
        refine sw_of (pw_and (pt_st X x) (pw_sw X _)) (ia.2 n ω H env σ _ W rr tk (key.imp fun c env1 ω1 H1 e1 r1 h => ?_))
        cases c with
        | true => exact h.1 rfl
        | false => exact h.2 rfl
    | Or =>
      cases w with
      | true => cases hw
      | false =>
        refine sw_of (pw_or (pt_st X x) (pw_sw X _)) (ia.2 n ω H env σ _ W rr tk (key.imp fun c env1 ω1 H1 e1 r1 h => ?_))
        cases c with
        | true => exact h.2 rfl
        | false => exact h.1 rfl
end
end Py
set_option maxHeartbeats 1000000
namespace Py
open PySem PySem.Spec PyProof.Rows L2
section
variable {g : Gc} {cl : Clx} {xa : Fx} {M : Nm} {cx : EC} {sc : Scope} {k : Nat} {X : Cx} {n : Nat} {ω : Om} {H : Hp} {σ : L2.St} {env : Env} {W : WX}
/-! ### freezing -/
abbrev Above (n : Nat) (ω : Om) (H : Hp) (ω' : Om) (H' : Hp) : Prop := ∀ m, n < m → Kk (.tmp m) ω H ω' H'
theorem esc_ok {o : Opd} {x : V} {v : Val} {env' : Env} (r : Rel g cl xa ω H env σ) (ro : RO g cl xa ω H σ n o x) (e : esc env o = .ok v env') :
    ∃ ω', Ext n ω H ω' H ∧ Above n ω H ω' H ∧ Rel g cl xa ω' H env' σ ∧ RV g ω' H v x := by
  cases o with
  | t t =>
    cases t with
    | v w => cases e; exact ⟨ω, Ext.refl, fun _ _ => Kk.refl, r, ro⟩
    | vl l =>
      cases e
      obtain ⟨a, xs, h1, h2, h3, h4⟩ := ro
      refine ⟨lab ω a none, lab_ext h2 (fun q => nomatch q) (fun m hm q => ?_) (fun q => nomatch q), fun m hm => lab_kk h2 (fun q => ?_), r.keep (lab_kp h2) (fun i => lab_kk h2 (fun q => nomatch q)) (lab_trk r.trk h2), ?_⟩
      · cases q; exact Nat.lt_irrefl _ hm
      · cases q; exact Nat.lt_irrefl _ hm
      · exact ⟨a, xs, h1, lab_same, h3, h4.kp' (lab_kp h2)⟩
    | _ => cases e
  | pl i =>
    have ex : σ[i]? = some (some x) := ro
    have e' : (match gt env i with
      | some t => (match fz t with
        | some x => R.ok x (st env i (some (.v x)))
        | none => .no)
      | none => .no) = R.ok v env' := e
    cases q : gt env i with
    | none => rw [q] at e'; cases e'
    | some t =>
      rw [q] at e'
      have h2 := r.at' q ex
      cases t with
      | v w =>
        cases e'
        refine ⟨ω, Ext.refl, fun _ _ => Kk.refl, r.put ex h2, h2⟩
      | vl l =>
        cases e'
        obtain ⟨a, xs, h1, h3, h4, h5⟩ := h2
        have hv : RV g (lab ω a none) H (.lst l) x := ⟨a, xs, h1, lab_same, h4, h5.kp' (lab_kp h3)⟩
        refine ⟨lab ω a none, lab_ext h3 (fun q => nomatch q) (fun m hm q => nomatch q) (fun q => nomatch q), fun m hm => lab_kk h3 (fun q => nomatch q), ?_, hv⟩
        refine ⟨by rw [st_length, r.len], fun j u hj => ?_, r.fix, lab_trk r.trk h3⟩
        rw [gt_st] at hj
        by_cases z : j = i ∧ i < env.length
        · rw [if_pos z] at hj; cases hj
          exact ⟨x, fun _ => by rw [z.1]; exact ex, hv⟩
        · rw [if_neg z] at hj
          obtain ⟨y, w1, w2⟩ := r.at0 j u hj
          have hlt := gt_lt hj
          have ne : i ≠ j := fun q => z ⟨q.symm, by rw [q]; exact hlt⟩
          exact ⟨y, w1, w2.keep (lab_kp h3) (lab_kk h3 (slot_ne (Ne.symm ne)))⟩
      | _ => cases e'
theorem esc_noex {o : Opd} {x : Exc} {env' : Env} (e : esc env o = .ex x env') : False := by
  cases o with
  | t t => cases t <;> cases e
  | pl i =>
    have e' : (match gt env i with
      | some t => (match fz t with
        | some x => R.ok x (st env i (some (.v x)))
        | none => .no)
      | none => .no) = R.ex x env' := e
    cases q : gt env i with
    | none => rw [q] at e'; cases e'
    | some t => rw [q] at e'; cases t <;> cases e'
theorem ROs.kk {ω' : Om} {H' : Hp} (h1 : Kp ω H ω' H') : ∀ {n : Nat} {os : List Opd} {xs : List V}, (∀ m, n ≤ m → Kk (.tmp m) ω H ω' H') → ROs g cl xa ω H σ n os xs → ROs g cl xa ω' H' σ n os xs
  | _, [], _, _, h => h
  | n, o :: os, _, hk, ⟨x, r, e, h2, h3⟩ => ⟨x, r, e, by
      cases o with
      | t t => exact RT.keep h1 (hk n (Nat.le_refl n)) h2
      | pl i => exact h2, ROs.kk h1 (fun m hm => hk m (Nat.le_of_succ_le hm)) h3⟩
theorem escs_ok : ∀ {os : List Opd} {n : Nat} {ω : Om} {env env' : Env} {xs : List V} {vs : List Val}, Rel g cl xa ω H env σ → ROs g cl xa ω H σ n os xs → escs os env = .ok vs env' →
    ∃ ω', Ext n ω H ω' H ∧ Rel g cl xa ω' H env' σ ∧ RVs g ω' H vs xs
  | [], n, ω, env, _, xs, vs, r, ro, e => by cases e; exact ⟨ω, Ext.refl, r, ro⟩
  | o :: os, n, ω, env, env', _, vs, r, ⟨x, q, e0, h1, h2⟩, e => by
    have e' : ((esc env o).bind fun x env => (escs os env).bind fun xs env => R.ok (x :: xs) env) = .ok vs env' := e
    cases z : esc env o with
    | ex _ _ => exact (esc_noex z).elim
    | no => rw [z] at e'; cases e'
    | ok v env1 =>
      rw [z] at e'
      have e2 : ((escs os env1).bind fun xs env => R.ok (v :: xs) env) = .ok vs env' := e'
      obtain ⟨ω1, x1, a1, r1, v1⟩ := esc_ok r h1 z
      have ro1 : ROs g cl xa ω1 H σ (n + 1) os q := ROs.kk x1.kp (fun m hm => a1 m hm) h2
      cases z2 : escs os env1 with
      | ex _ _ => rw [z2] at e2; cases e2
      | no => rw [z2] at e2; cases e2
      | ok us env2 =>
        rw [z2] at e2
        cases e2
        obtain ⟨ω2, x2, r2, v2⟩ := escs_ok r1 ro1 z2
        exact ⟨ω2, x1.trans (x2.mono (Nat.le_succ n)), r2, x, q, e0, v1.kp' x2.kp, v2⟩
theorem escs_noex : ∀ {os : List Opd} {env env' : Env} {x : Exc}, escs os env = .ex x env' → False
  | [], _, _, _, e => by cases e
  | o :: os, env, env', x, e => by
    have e' : ((esc env o).bind fun x env => (escs os env).bind fun xs env => R.ok (x :: xs) env) = .ex x env' := e
    cases z : esc env o with
    | ex _ _ => exact (esc_noex z).elim
    | no => rw [z] at e'; cases e'
    | ok v env1 =>
      rw [z] at e'
      have e2 : ((escs os env1).bind fun xs env => R.ok (v :: xs) env) = .ex x env' := e'
      cases z2 : escs os env1 with
      | ex _ _ => exact (escs_noex z2).elim
      | no => rw [z2] at e2; cases e2
      | ok us env2 => rw [z2] at e2; cases e2
/-- freezing within an outcome -/
theorem Post.esc {α : Type} {o : Opd} {x : V} {f : Val → Env → R α} {Q : α → Env → Om → Hp → Prop} (r : Rel g cl xa ω H env σ) (ro : RO g cl xa ω H σ n o x) (p : Post g cl xa n ω H σ ((esc env o).bind f) Q W) :
    ∃ v env' ω', Ext n ω H ω' H ∧ Above n ω H ω' H ∧ Rel g cl xa ω' H env' σ ∧ RV g ω' H v x ∧ Post g cl xa n ω' H σ (f v env') Q W := by
  cases z : Py.esc env o with
  | ex _ _ => exact (esc_noex z).elim
  | no => rw [z] at p; exact p.elim
  | ok v env1 =>
    rw [z] at p
    obtain ⟨ω1, x1, a1, r1, v1⟩ := esc_ok r ro z
    exact ⟨v, env1, ω1, x1, a1, r1, v1, Post.trans p x1⟩
theorem Post.escs {α : Type} {os : List Opd} {xs : List V} {f : List Val → Env → R α} {Q : α → Env → Om → Hp → Prop} (r : Rel g cl xa ω H env σ) (ro : ROs g cl xa ω H σ n os xs) (p : Post g cl xa n ω H σ ((escs os env).bind f) Q W) :
    ∃ vs env' ω', Ext n ω H ω' H ∧ Rel g cl xa ω' H env' σ ∧ RVs g ω' H vs xs ∧ Post g cl xa n ω' H σ (f vs env') Q W := by
  cases z : Py.escs os env with
  | ex _ _ => exact (escs_noex z).elim
  | no => rw [z] at p; exact p.elim
  | ok v env1 =>
    rw [z] at p
    obtain ⟨ω1, x1, r1, v1⟩ := escs_ok r ro z
    exact ⟨v, env1, ω1, x1, r1, v1, Post.trans p x1⟩
theorem Fin.of {t : T} {env : Env} {Q : VK} (p : Post g cl xa n ω H σ (.ok (.t t) env) (fun o _ ω' H' => ∀ x, RO g cl xa ω' H' σ n o x → Q x H') W) : Fin g cl xa n ω H env σ t Q := fun x' ω' H' e' r' t' => p ω' H' e' r' x' t'

/-! ### displays -/
theorem ok_tup {es : Es} {e : Expr} (h : (E.tup es).chk M sc e = true) (ia : ∀ l, es.chk M sc l = true → OkA g cl xa X (fun env => es.ev cx env) l) :
    OkO g cl xa X (fun env => (E.tup es).ev cx env) e := by
  intro n ω H env σ Q W r tk p
  simp only [E.chk] at h
  split at h
  · next xs kk pos =>
    simp only [E.ev] at p
    refine se_of (pe_tup (pa_sa X xs)) (ia xs h n ω H env σ _ W r tk ((Post.bind p).imp fun os env1 ω1 H1 e1 r1 p1 ys ro => ?_))
    obtain ⟨vs, env2, ω2, x2, r2, v2, p2⟩ := Post.escs r1 ro p1
    cases z : fits vs.length with
    | false => simp only [z] at p2; exact p2.elim
    | true => simp only [z] at p2; exact ⟨by rw [v2.length]; exact fits_ok z, (Fin.of p2).tup r2 v2⟩
  · cases h
theorem ok_lis {es : Es} {e : Expr} (h : (E.lis es).chk M sc e = true) (ia : ∀ l, es.chk M sc l = true → OkA g cl xa X (fun env => es.ev cx env) l) :
    OkO g cl xa X (fun env => (E.lis es).ev cx env) e := by
  intro n ω H env σ Q W r tk p
  simp only [E.chk] at h
  split at h
  · next xs pos =>
    simp only [E.ev] at p
    refine se_of (pe_lst (pa_sa X xs)) (ia xs h n ω H env σ _ W r tk ((Post.bind p).imp fun os env1 ω1 H1 e1 r1 p1 ys ro => ?_))
    obtain ⟨vs, env2, ω2, x2, r2, v2, p2⟩ := Post.escs r1 ro p1
    cases z : fits vs.length with
    | false => simp only [z] at p2; exact p2.elim
    | true => simp only [z] at p2; exact ⟨by rw [v2.length]; exact fits_ok z, (Fin.of p2).lst r2 v2⟩
  · cases h
/-! ### subscripts, slices -/
theorem plainIx_ok {e : Expr} (h : plainE e = true) : PlainIx e := by
  intro o i
  cases e <;> first | rfl | cases h
theorem ok_sub (C : Cok g M cx sc k X) {a b : E} {e : Expr} (h : (E.sub a b).chk M sc e = true)
    (ia : ∀ e, a.chk M sc e = true → OkO g cl xa X (fun env => a.ev cx env) e) (ib : ∀ e, b.chk M sc e = true → OkO g cl xa X (fun env => b.ev cx env) e) :
    OkO g cl xa X (fun env => (E.sub a b).ev cx env) e := by
  intro n ω H env σ Q W r tk p
  simp only [E.chk] at h
  split at h
  · next l rr pos =>
    obtain ⟨h1, h2⟩ := and_t h
    obtain ⟨h2, h3⟩ := and_t h2
    simp only [E.ev] at p
    refine se_of (pe_ix (ixr X) (pe_se X l) (pe_se X rr) (plainIx_ok h3)) (two_ok C (ia l h1) (ib rr h2) r tk p fun ta tb env2 ω2 H2 k1 k2 x y r2 ha hb p2 => ?_)
    cases q3 : subF ta tb with
    | none => simp only [q3] at p2; exact p2.elim
    | some t => simp only [q3] at p2; exact sub_ok (by have := C.hu; omega) r2 C.K ha hb q3 (Fin.of p2)
  · cases h
def SPo (X : Cx) (e : Option Expr) : TO := fun σ H Q => ∀ (pins : List (Addr × Obj)) (s : Shared), Inv X pins σ H s → wpAny (model X.prog X.w) X.A (evalPart e X.env) (fun u s' => ∃ o H', Inv X pins σ H' s' ∧ IsPart u o ∧ Q o H') X.xe s
theorem po_spo (X : Cx) (e : Option Expr) : PO X e (SPo X e) := ⟨fun pins s _ _ _ I h => h pins s I⟩
theorem spo_of {X : Cx} {e : Option Expr} {t : TO} (h : PO X e t) {σ : L2.St} {H : Hp} {Q : Option Int → Hp → Prop} (q : t σ H Q) : SPo X e σ H Q := fun pins s I => h.run pins s σ H Q I q
def OkP (g : Gc) (cl : Clx) (xa : Fx) (X : Cx) (f : Env → R (Option Int)) (e : Option Expr) : Prop := ∀ n ω H env σ Q W, Rel g cl xa ω H env σ → Takes X W →
  Post g cl xa n ω H σ (f env) (fun o _ _ H' => Q o H') W → SPo X e σ H Q
theorem ok_pt {o : Oe} {e : Option Expr} (h : o.chk M sc e = true) (ia : ∀ a, o = .so a → ∀ e, a.chk M sc e = true → OkO g cl xa X (fun env => a.ev cx env) e) : OkP g cl xa X (fun env => o.pt cx env) e := by
  intro n ω H env σ Q W r tk p
  cases o with
  | no =>
    simp only [Oe.chk] at h
    split at h
    · exact spo_of po_none (Post.here r p)
    · cases h
  | so a =>
    simp only [Oe.chk] at h
    split at h
    · next x =>
      have p' : Post g cl xa n ω H σ (Oe.pt cx (.so a) env) (fun o _ _ H' => Q o H') W := p
      simp only [Oe.pt] at p'
      refine spo_of (po_some (pe_se X x)) (ia a rfl x h n ω H env σ _ W r tk ((Post.bind p').imp fun o env1 ω1 H1 e1 r1 p1 y ro => ?_))
      split at p1
      · next i => exact ⟨i, ro, Post.here r1 p1⟩
      · exact p1.elim
    · cases h
theorem ok_slc (C : Cok g M cx sc k X) {a : E} {lo hi : Oe} {e : Expr} (h : (E.slc a lo hi).chk M sc e = true)
    (ia : ∀ e, a.chk M sc e = true → OkO g cl xa X (fun env => a.ev cx env) e) (il : ∀ e, lo.chk M sc e = true → OkP g cl xa X (fun env => lo.pt cx env) e) (ih : ∀ e, hi.chk M sc e = true → OkP g cl xa X (fun env => hi.pt cx env) e) :
    OkO g cl xa X (fun env => (E.slc a lo hi).ev cx env) e := by
  intro n ω H env σ Q W r tk p
  simp only [E.chk] at h
  split at h
  · next v l u p2 pos =>
    obtain ⟨h1, h2⟩ := and_t h
    obtain ⟨h2, h3⟩ := and_t h2
    simp only [E.ev] at p
    refine se_of (pe_slice (slr X) (pe_se X v) (po_spo X l) (po_spo X u)) (ia v h1 n ω H env σ _ W r tk ((Post.bind p).imp fun oa env1 ω1 H1 e1 r1 p1 x ro => ?_))
    refine il l h2 (n + 1) ω1 H1 env1 σ _ W r1 tk (((Post.bind p1).up (Nat.le_succ n)).imp fun ol env2 ω2 H2 e2 r2 p2 => ?_)
    refine ih u h3 (n + 1) ω2 H2 env2 σ _ W r2 tk (((Post.bind p2).up (Nat.le_succ n)).imp fun oh env3 ω3 H3 e3 r3 p3 => ?_)
    cases q1 : rd env3 oa with
    | none => rw [q1] at p3; exact p3.elim
    | some ta =>
      rw [q1] at p3
      obtain ⟨k1, ha⟩ := ((ro.ext e2 (Nat.lt_succ_self n)).ext e3 (Nat.lt_succ_self n)).rd r3 q1
      cases q2 : slcF ta ol oh with
      | none => simp only [q2] at p3; exact p3.elim
      | some t => simp only [q2] at p3; exact slc_ok r3 C.K ha q2 (Fin.of p3)
  · cases h
/-! ### arguments -/
theorem ok_nil {l : List Expr} (h : Es.nil.chk M sc l = true) : OkA g cl xa X (fun env => Es.nil.ev cx env) l := by
  intro n ω H env σ Q W r tk p
  simp only [Es.chk] at h
  split at h
  · exact sa_of pa_nil (Post.here (a := ([] : List Opd)) r p [] rfl)
  · cases h
theorem ok_cons {a : E} {rs : Es} {l : List Expr} (h : (Es.cons a rs).chk M sc l = true) (ia : ∀ e, a.chk M sc e = true → OkO g cl xa X (fun env => a.ev cx env) e)
    (ir : ∀ l, rs.chk M sc l = true → OkA g cl xa X (fun env => rs.ev cx env) l) : OkA g cl xa X (fun env => (Es.cons a rs).ev cx env) l := by
  intro n ω H env σ Q W r tk p
  simp only [Es.chk] at h
  split at h
  · next x xs =>
    obtain ⟨h1, h2⟩ := and_t h
    obtain ⟨h1, h3⟩ := and_t h1
    have p' : Post g cl xa n ω H σ ((Es.cons a rs).ev cx env) (fun os _ ω' H' => ∀ xs, ROs g cl xa ω' H' σ n os xs → Q xs H') W := p
    simp only [Es.ev] at p'
    refine sa_of (pa_cons (pe_se X x) (pa_sa X xs) (star_eq h3 _ _)) (ia x h1 n ω H env σ _ W r tk ((Post.bind p').imp fun o env1 ω1 H1 e1 r1 p1 y ro => ?_))
    refine ir xs h2 (n + 1) ω1 H1 env1 σ _ W r1 tk (((Post.bind p1).up (Nat.le_succ n)).imp fun os env2 ω2 H2 e2 r2 p2 ys ros => ?_)
    exact Post.here (a := o :: os) r2 p2 (y :: ys) ⟨y, ys, rfl, ro.ext e2 (Nat.lt_succ_self n), ros⟩
  · cases h
end
end Py
set_option maxHeartbeats 1000000
namespace Py
open PySem PySem.Spec PyProof.Rows L2
section
variable {g : Gc} {cl : Clx} {xa : Fx} {M : Nm} {cx : EC} {sc : Scope} {k : Nat} {X : Cx} {n : Nat} {ω : Om} {H : Hp} {σ : L2.St} {env : Env} {W : WX}
/-! ### built-ins, called -/
theorem blt_ok (C : Cok g M cx sc k X) {x y : Str} (h : blt M sc x y = true) : x = y ∧ Gl X x ∧ X.mg x = none := by
  obtain ⟨h1, h2⟩ := and_t h
  obtain ⟨h2, h3⟩ := and_t h2
  exact ⟨seq_ok h1, gl_ok C h2, C.free x h3⟩
theorem bi_boot (b : BI) : bootBuiltins b.nm = some b.fv := by cases b <;> decide +kernel
theorem ty_boot (t : Ty) : bootBuiltins t.nm = some (.type t.cn) := by cases t <;> decide +kernel
theorem bi_n1 (b : BI) : b.nm ≠ "__name__" := by cases b <;> decide
theorem bi_n2 (b : BI) : (b.nm == ("__debug__" : Str)) = false := by cases b <;> decide
theorem ty_n1 (b : Ty) : b.nm ≠ "__name__" := by cases b <;> decide
theorem ty_n2 (b : Ty) : (b.nm == ("__debug__" : Str)) = false := by cases b <;> decide
/-- one operand, then what comes of it -/
theorem one_ok {a : E} {y : Expr} {β : Type} {G : T → Env → R β} {P : β → Env → Om → Hp → Prop} {R : V → Hp → Prop} (r : Rel g cl xa ω H env σ) (tk : Takes X W)
    (ia : OkO g cl xa X (fun env => a.ev cx env) y)
    (p : Post g cl xa n ω H σ ((a.ev cx env).bind fun o env => match rd env o with
      | some t => G t env
      | none => .no) P W)
    (hR : ∀ (ta : T) (env2 : Env) (ω2 : Om) (H2 : Hp) (k1 : Lb) (z : V), Rel g cl xa ω2 H2 env2 σ → RT g cl xa ω2 H2 k1 ta z → Post g cl xa n ω2 H2 σ (G ta env2) P W → R z H2) :
    SE X y σ H R := by
  refine ia n ω H env σ _ W r tk ((Post.bind p).imp fun o env1 ω1 H1 e1 r1 p2 z ro => ?_)
  cases q : rd env1 o with
  | none => rw [q] at p2; exact p2.elim
  | some ta =>
    rw [q] at p2
    obtain ⟨k1, ha⟩ := ro.rd r1 q
    exact hR ta env1 ω1 H1 k1 z r1 ha p2
theorem ok_bi (C : Cok g M cx sc k X) {b : BI} {a : E} {e : Expr} (h : (E.bi b a).chk M sc e = true)
    (ia : ∀ e, a.chk M sc e = true → OkO g cl xa X (fun env => a.ev cx env) e) :
    OkO g cl xa X (fun env => (E.bi b a).ev cx env) e := by
  intro n ω H env σ Q W r tk p
  simp only [E.chk] at h
  split at h
  · next x px y pos =>
    obtain ⟨h1, h2⟩ := and_t h
    obtain ⟨h2, h3⟩ := and_t h2
    obtain ⟨h3, hc⟩ := and_t h3
    obtain ⟨e1, e2, e3⟩ := blt_ok C h1
    subst e1
    have hst := star_eq h3 [] X.env
    simp only [E.ev] at p
    have main : SE X y σ H fun z H2 => SCall X b.fv [z] H2 Q := one_ok r tk (ia y h2) p fun ta env2 ω2 H2 k1 z r2 ha p2 => by
      cases q2 : biF b ta with
      | none => simp only [q2] at p2; exact p2.elim
      | some t => simp only [q2] at p2; exact bi_ok r2 C.K (C.calm hc) ha q2 (Fin.of p2)
    have hv := bi_boot b
    cases b <;> first
      | exact se_of (pe_callB (callr X _) e2 e3 hv (pa_cons (pe_se X y) pa_nil hst) (bi_n1 _) (bi_n2 _) hst) main
      | exact se_of (pe_callTy (callr X _) e2 e3 hv (pa_cons (pe_se X y) pa_nil hst) (bi_n1 _) (bi_n2 _) hst) main
  · cases h
theorem ok_isi (C : Cok g M cx sc k X) {t : Ty} {a : E} {e : Expr} (h : (E.isi t a).chk M sc e = true)
    (ia : ∀ e, a.chk M sc e = true → OkO g cl xa X (fun env => a.ev cx env) e) :
    OkO g cl xa X (fun env => (E.isi t a).ev cx env) e := by
  intro n ω H env σ Q W r tk p
  simp only [E.chk] at h
  split at h
  · next x px y z pz pos =>
    obtain ⟨h1, hh⟩ := and_t h
    obtain ⟨hi, h4⟩ := and_t hh
    obtain ⟨h2, h3⟩ := and_t hi
    obtain ⟨e1, e2, e3⟩ := blt_ok C h1
    obtain ⟨f1, f2, f3⟩ := blt_ok C h4
    subst e1 f1
    have hst := star_eq h3 [.Name t.nm pz] X.env
    simp only [E.ev] at p
    have main : SE X y σ H fun w H2 => SCall X (.builtin "isinstance") [w, .ty t.cn] H2 Q := one_ok r tk (ia y h2) p fun ta env2 ω2 H2 k1 z r2 ha p2 => by
      cases q2 : isiF t ta with
      | none => simp only [q2] at p2; exact p2.elim
      | some b => simp only [q2] at p2; exact isi_ok C.K ha q2 (Post.here (a := Opd.t (.v (.bool b))) r2 p2 _ rfl)
    exact se_of (pe_callB (callr X _) e2 e3 (by decide +kernel) (pa_cons (pe_se X y) (pa_cons (pe_bltn f2 f3 (ty_boot t) (v := .ty t.cn) rfl (ty_n1 t) (ty_n2 t)) pa_nil) hst) (by decide) (by decide) hst) main
  · cases h
/-! ### x.pop() -/
theorem ok_pop (C : Cok g M cx sc k X) {i : Nat} {e : Expr} (h : (E.pop i).chk M sc e = true) : OkO g cl xa X (fun env => (E.pop i).ev cx env) e := by
  intro n ω H env σ Q W r tk p
  simp only [E.chk] at h
  split at h
  · next x px m apos pos =>
    obtain ⟨h1, h2⟩ := and_t h
    obtain ⟨h2, h3⟩ := and_t h2
    rw [seq_ok h2]
    obtain ⟨g1, g2, g3, g4⟩ := vis_ok C h1
    simp only [E.ev] at p
    split at p
    · next l hl =>
      split at p
      · next y hy =>
        obtain ⟨z, q1, a, xs, q2, q3, q4, q5⟩ := r.at_ i (.vl l) hl
        subst q2
        refine se_of (pe_bm0 PySem.F.plainAttrs_list PySem.F.slot_list_pop PySem.F.type_list_pop mt_pop (pe_var g1 g2 g3 g4) rfl h3) ⟨_, q1, .inl ⟨rfl, xs, .inl (.inl q4)⟩, ?_⟩
        obtain ⟨w, w1, w2⟩ := q5.get hy
        refine ⟨a, xs, w, rfl, rfl, q4, by rw [q5.length]; exact w1, ?_⟩
        have kp : Kp ω H ω (upd H a (.lst xs.dropLast)) := wr_kp q3
        have r' : Rel g cl xa ω (upd H a (.lst xs.dropLast)) (st env i (some (.vl l.dropLast))) σ := by
          refine ⟨by rw [st_length, r.len], fun j u hj => ?_, r.fix, wr_trk r.trk q3 ow_lst⟩
          rw [gt_st] at hj
          by_cases zz : j = i ∧ i < env.length
          · rw [if_pos zz] at hj; cases hj
            exact ⟨.ref a, fun _ => by rw [zz.1]; exact q1, a, _, rfl, by rw [zz.1]; exact q3, upd_same, q5.dropLast.kp' kp⟩
          · rw [if_neg zz] at hj
            obtain ⟨y, w1, w2⟩ := r.at0 j u hj
            have hlt := gt_lt hj
            have ne : i ≠ j := fun q => zz ⟨q.symm, by rw [q]; exact hlt⟩
            exact ⟨y, w1, w2.keep kp (wr_kk q3 (slot_ne (Ne.symm ne)))⟩
        exact p ω _ (wr_ext q3 (fun q => nomatch q) (fun m hm q => nomatch q)) r' w (w2.kp' kp)
      · exact p.elim
    · exact p.elim
  · cases h
end
end Py
set_option maxHeartbeats 1000000
namespace Py
open PySem PySem.Spec PyProof.Rows L2
/-! ### a comprehension's block is a context -/
theorem look_relabel {env : PySem.Env} {x : Str} {k : NameKind} (hk : k ≠ .free) : ∀ {names : List (Str × NameKind)}, names.lookup x = some k →
    (names.map fun (n, k) => if (k == NameKind.free && env.scope.kind == .function && env.kindOf n == some .cell) then (n, NameKind.cell) else (n, k)).lookup x = some k
  | [], h => by cases h
  | (n, q) :: r, h => by
    have ih := look_relabel (env := env) (x := x) hk (names := r)
    rw [List.map_cons]
    rw [List.lookup_cons] at h ⊢
    by_cases hc : (q == NameKind.free && env.scope.kind == .function && env.kindOf n == some .cell) = true
    · simp only [hc, if_true]
      cases hx : x == n with
      | true =>
        rw [hx] at h
        have hq : q = k := Option.some.inj h
        subst hq
        have : (q == NameKind.free) = true := (and_t (and_t hc).1).1
        exact absurd (eq_of_beq this) hk
      | false => rw [hx] at h; exact ih h
    · rw [if_neg hc]
      cases hx : x == n with
      | true => rw [hx] at h; exact h
      | false => rw [hx] at h; exact ih h
theorem look_relabel_free {env : PySem.Env} {x : Str} : ∀ {names : List (Str × NameKind)}, names.lookup x = some .free →
    (names.map fun (n, k) => if (k == NameKind.free && env.scope.kind == .function && env.kindOf n == some .cell) then (n, NameKind.cell) else (n, k)).lookup x = some .cell ∨
    (names.map fun (n, k) => if (k == NameKind.free && env.scope.kind == .function && env.kindOf n == some .cell) then (n, NameKind.cell) else (n, k)).lookup x = some .free
  | [], h => by cases h
  | (n, q) :: r, h => by
    have ih := look_relabel_free (env := env) (x := x) (names := r)
    rw [List.map_cons]
    rw [List.lookup_cons] at h
    rw [List.lookup_cons]
    by_cases hc : (q == NameKind.free && env.scope.kind == .function && env.kindOf n == some .cell) = true
    · simp only [hc, if_true]
      cases hx : x == n with
      | true => exact .inl rfl
      | false => rw [hx] at h; exact ih h
    · rw [if_neg hc]
      cases hx : x == n with
      | true => rw [hx] at h; exact .inr h
      | false => rw [hx] at h; exact ih h
section
variable {g : Gc} {cl : Clx} {xa : Fx} {M : Nm} {cx : EC} {sc : Scope} {k : Nat} {X : Cx} {n : Nat} {ω : Om} {H : Hp} {σ : L2.St} {env : Env} {W : WX}
theorem Cok.blk (C : Cok g M cx sc k X) {scope : Scope} (s : Shared) (H : Hp) (a : Addr) (l : List (Str × Addr)) (fp : List Addr) : Cok g M.in cx scope k (X.blk s H scope (compEnvC scope l a X.env) fp) where
  K := C.K
  N := C.N
  nd := C.nd
  vis := fun x h => by
    unfold visB at h
    unfold Vis
    split at h
    · next q => exact .inl (look_relabel (env := X.env) (k := .local) (fun z => nomatch z) q)
    · next q => exact .inr (.inl (look_relabel (env := X.env) (k := .cell) (fun z => nomatch z) q))
    · next q => exact .inr (look_relabel_free (env := X.env) q)
    · cases h
  fre := fun x h => by
    rcases h with q | q
    · exact .inl (look_relabel (env := X.env) (k := .cell) (fun z => nomatch z) q)
    · exact look_relabel_free (env := X.env) q
  loc := fun x h => by
    unfold locB at h
    split at h
    · next q => exact ⟨.inl (look_relabel (env := X.env) (k := .local) (fun z => nomatch z) q), .inr (look_relabel (env := X.env) (k := .local) (fun z => nomatch z) q)⟩
    · next q => exact ⟨.inr (look_relabel (env := X.env) (k := .cell) (fun z => nomatch z) q), .inl (by show (scope.names.lookup x == some .cell) = true; rw [q]; rfl)⟩
    · cases h
  glo := fun x h => by
    unfold glB at h
    split at h
    · next q => exact look_relabel (env := X.env) (k := .globalImplicit) (fun z => nomatch z) q
    · cases h
  calm := C.calm
  hu := C.hu
  room := C.room
  free := C.free
  gs := C.gs
  gd := C.gd
  fns := C.fns
  cls := C.cls
  clm := C.clm
  fnm := C.fnm
  mth := C.mth
  rm1 := fun h => (Bool.false_ne_true h).elim
  lam := fun h => (Bool.false_ne_true h).elim
/-! ### what is walked -/
def SI (X : Cx) (tg iter : Expr) : TI := fun σ H R => ∀ (pins : List (Addr × Obj)) (s : Shared), Inv X pins σ H s →
  wpAny (model X.prog X.w) X.A (eval iter X.env) (fun v s1 => wpAny (model X.prog X.w) X.A (pyIter v) (PIE X pins σ tg R) X.xe s1) X.xe s
theorem pi_si (X : Cx) (tg iter : Expr) : PI X tg iter (SI X tg iter) := ⟨fun pins s _ _ _ I h => h pins s I⟩
theorem si_of {X : Cx} {tg iter : Expr} {t : TI} (h : PI X tg iter t) {σ : L2.St} {H : Hp} {R : L2.It → Hp → Prop} (q : t σ H R) : SI X tg iter σ H R := fun pins s I => h.run pins s σ H R I q
/-- the walk J gives these items, whatever is done meanwhile -/
structure Wk (g : Gc) (ω : Om) (H : Hp) (J : L2.It) (l : List Val) : Prop where
  len : l.length ≤ sizeLine
  go : ∀ (ω' : Om) (H' : Hp) (i : Nat), Kp ω H ω' H' → i < l.length → J.go i H'
  stop : ∀ (ω' : Om) (H' : Hp), Kp ω H ω' H' → J.stop l.length H'
  yld : ∀ (ω' : Om) (H' : Hp) (i : Nat) (x : V) (H'' : Hp), Kp ω H ω' H' → i < l.length → J.yld i H' x H'' →
    ∃ v, l[i]? = some v ∧ ((H'' = H' ∧ RV g ω' H' v x) ∨ ∃ (p : Addr) (q : List Val) (xs : List V), H' p = none ∧ H'' = upd H' p (.tup xs) ∧ x = .ref p ∧ v = .tup q ∧ RVs g ω' H' q xs)
def OkI (g : Gc) (cl : Clx) (xa : Fx) (X : Cx) (f : Env → R (List Val)) (tg iter : Expr) : Prop := ∀ n ω H env σ R W, Rel g cl xa ω H env σ → Takes X W →
  Post g cl xa n ω H σ (f env) (fun l _ ω' H' => ∀ J, Wk g ω' H' J l → R J H') W → SI X tg iter σ H R
/-- what stands is not too long -/
def Fit (K : PySem.W.Frag) (H : Hp) : Prop := (∀ a xs, SqT K H a xs → xs.length ≤ sizeLine) ∧ ∀ a xs, SqL K H a xs → xs.length ≤ sizeLine
theorem pe_fit {X : Cx} {e : Expr} {t : TE} (h : PE X e t) : PE X e (fun σ H Q => t σ H fun x H1 => Fit X.K H1 → Q x H1) :=
  ⟨fun pins s σ H Q I q => thn (h.run pins s σ H _ I q) fun v s1 ⟨x, H1, I1, r1, q1⟩ => ⟨x, H1, I1, r1, q1 ⟨fun a xs h => let ⟨_, _, _, z⟩ := I1.tuple h; z, fun a xs h => let ⟨_, _, _, z⟩ := I1.list h; z⟩⟩⟩
theorem wk_tup {a : Addr} {xs : List V} {l : List Val} (hl : xs.length ≤ sizeLine) (h : TupA g.K ω H a xs) (hv : RVs g ω H l xs) : Wk g ω H (Itt g.K a) l where
  len := by rw [← hv.length]; exact hl
  go := fun ω' H' i kp hi => by
    have hl := hv.length
    exact ⟨xs, xs[i]'(by omega), (h.kp kp).sq, by simp [show i < xs.length by omega]⟩
  stop := fun ω' H' kp => ⟨xs, (h.kp kp).sq, by rw [hv.length]; exact Nat.le_refl _⟩
  yld := fun ω' H' i x H'' kp hi y => by
    obtain ⟨e, y⟩ := y
    have e1 := y xs (h.kp kp).sq
    obtain ⟨v, hv1⟩ : ∃ v, l[i]? = some v := ⟨l[i], by simp [hi]⟩
    obtain ⟨z, z1, z2⟩ := hv.get hv1
    rw [e1] at z1
    cases z1
    exact ⟨v, hv1, .inl ⟨e, z2.kp' kp⟩⟩
theorem wk_lst {a : Addr} {xs : List V} {l : List Val} {u : HO} (hl : xs.length ≤ sizeLine) (hw : ω a = none) (h : H a = some u) (hu : u = .lst xs ∨ ∃ o, u = .frz o (.lst xs)) (hv : RVs g ω H l xs) : Wk g ω H (Itl g.K a) l := by
  have sq : ∀ {ω' : Om} {H' : Hp}, Kp ω H ω' H' → SqL g.K H' a xs := fun kp => by
    have := (kp a u h hw (by rcases hu with rfl | ⟨_, rfl⟩ <;> exact fun _ z => nomatch z)).1
    rcases hu with e | ⟨o, e⟩
    · rw [e] at this; exact .inl (.inl this)
    · rw [e] at this; exact .inl (.inr ⟨o, this⟩)
  refine ⟨by rw [← hv.length]; exact hl, fun ω' H' i kp hi => ?_, fun ω' H' kp => ⟨xs, sq kp, by rw [hv.length]; exact Nat.le_refl _⟩, fun ω' H' i x H'' kp hi y => ?_⟩
  · have hl := hv.length
    exact ⟨xs, xs[i]'(by omega), sq kp, by simp [show i < xs.length by omega]⟩
  · obtain ⟨e, y⟩ := y
    have e1 := y xs (sq kp)
    obtain ⟨v, hv1⟩ : ∃ v, l[i]? = some v := ⟨l[i], by simp [hi]⟩
    obtain ⟨z, z1, z2⟩ := hv.get hv1
    rw [e1] at z1
    cases z1
    exact ⟨v, hv1, .inl ⟨e, z2.kp' kp⟩⟩
theorem ok_it_e (C : Cok g M cx sc k X) {a : E} {tg e : Expr} (h : (It.e a).chk M sc tg e = true) (ia : ∀ e, a.chk M sc e = true → OkO g cl xa X (fun env => a.ev cx env) e) :
    OkI g cl xa X (fun env => (It.e a).ev cx env) tg e := by
  intro n ω H env σ R W r tk p
  simp only [It.chk] at h
  have p' : Post g cl xa n ω H σ ((It.e a).ev cx env) (fun l _ ω' H' => ∀ J, Wk g ω' H' J l → R J H') W := p
  simp only [It.ev] at p'
  cases q : a.ev cx env with
  | no => rw [q] at p'; exact p'.elim
  | ex c env1 =>
    rw [q] at p'
    refine si_of (pi_tup (pe_fit (pe_se X e))) (ia e h n ω H env σ _ W r tk ?_)
    show Post g cl xa n ω H σ (a.ev cx env) _ W
    rw [q]; exact p'
  | ok o env1 =>
    rw [q] at p'
    have p2 : Post g cl xa n ω H σ ((esc env1 o).bind fun x env => match x with
      | .tup l => Py.R.ok l env
      | .lst l => Py.R.ok l env
      | _ => .no) (fun l _ ω' H' => ∀ J, Wk g ω' H' J l → R J H') W := p'
    cases z : esc env1 o with
    | no => rw [z] at p2; exact p2.elim
    | ex _ _ => exact (esc_noex z).elim
    | ok v env2 =>
      have key : ∀ (y : V) (ω1 : Om) (H1 : Hp), Ext n ω H ω1 H1 → Rel g cl xa ω1 H1 env1 σ → RO g cl xa ω1 H1 σ n o y →
          ∃ ω2, Ext n ω H ω2 H1 ∧ Rel g cl xa ω2 H1 env2 σ ∧ RV g ω2 H1 v y := fun y ω1 H1 e1 r1 ro => by
        obtain ⟨ω2, x2, _, r2, v2⟩ := esc_ok r1 ro z
        exact ⟨ω2, e1.trans x2, r2, v2⟩
      rw [z] at p2
      cases v with
      | tup l =>
        refine si_of (pi_tup (pe_fit (pe_se X e))) (ia e h n ω H env σ _ W r tk ?_)
        show Post g cl xa n ω H σ (a.ev cx env) _ W
        rw [q]
        intro ω1 H1 e1 r1 y ro fit
        obtain ⟨ω2, e2, r2, b, xs, w1, w2, w3⟩ := key y ω1 H1 e1 r1 ro
        exact ⟨b, w1, ⟨xs, C.K ▸ w2.sq⟩, p2 ω2 H1 e2 r2 _ (C.K ▸ wk_tup (fit.1 b xs (C.K ▸ w2.sq)) w2 w3)⟩
      | lst l =>
        refine si_of (pi_list (pe_fit (pe_se X e))) (ia e h n ω H env σ _ W r tk ?_)
        show Post g cl xa n ω H σ (a.ev cx env) _ W
        rw [q]
        intro ω1 H1 e1 r1 y ro fit
        obtain ⟨ω2, e2, r2, b, xs, w1, w2, w3, w4⟩ := key y ω1 H1 e1 r1 ro
        exact ⟨b, w1, ⟨xs, .inl (.inl w3)⟩, p2 ω2 H1 e2 r2 _ (C.K ▸ wk_lst (fit.2 b xs (.inl (.inl w3))) w2 w3 (.inl rfl) w4)⟩
      | _ => exact p2.elim
theorem rngV_length (lo hi : Int) : (rngV lo hi).length = (hi - lo).toNat := by unfold rngV; simp
theorem rngV_get (lo hi : Int) (i : Nat) (h : i < (hi - lo).toNat) : (rngV lo hi)[i]? = some (.int (lo + (i : Nat))) := by
  unfold rngV; simp [h]
theorem wk_rng {lo hi : Int} (hl : (hi - lo).toNat ≤ sizeLine) : Wk g ω H (Itr lo (hi - lo).toNat) (rngV lo hi) where
  len := by rw [rngV_length]; exact hl
  go := fun ω' H' i kp hi' => by rw [rngV_length] at hi'; exact hi'
  stop := fun ω' H' kp => by rw [rngV_length]; exact Nat.le_refl _
  yld := fun ω' H' i x H'' kp hi' y => by
    rw [rngV_length] at hi'
    exact ⟨_, rngV_get lo hi i hi', .inl ⟨y.1, y.2⟩⟩
theorem ok_it_rng (C : Cok g M cx sc k X) {a : E} {tg e : Expr} (h : (It.rng a).chk M sc tg e = true) (ia : ∀ e, a.chk M sc e = true → OkO g cl xa X (fun env => a.ev cx env) e) :
    OkI g cl xa X (fun env => (It.rng a).ev cx env) tg e := by
  intro n ω H env σ R W r tk p
  simp only [It.chk] at h
  split at h
  · next x px y pos =>
    obtain ⟨h1, hh⟩ := and_t h
    obtain ⟨h2, h3⟩ := and_t hh
    obtain ⟨e1, e2, e3⟩ := blt_ok C h1
    subst e1
    have hst := star_eq h3 [] X.env
    have p' : Post g cl xa n ω H σ ((It.rng a).ev cx env) (fun l _ ω' H' => ∀ J, Wk g ω' H' J l → R J H') W := p
    simp only [It.ev] at p'
    refine si_of (pi_range1 e2 e3 (pa_cons (pe_se X y) pa_nil hst) hst) (one_ok r tk (ia y h2) p' fun ta env2 ω2 H2 k1 z r2 ha p2 => ?_)
    cases q : rngF [ta] with
    | none => simp only [q] at p2; exact p2.elim
    | some l =>
      simp only [q] at p2
      unfold rngF at q
      split at q
      · next j q1 =>
        cases q1
        split at q
        · next hz =>
          cases q
          obtain ⟨z1, z2⟩ := and_t hz
          have := of_decide_eq_true z2
          refine ⟨j, by rw [show z = .int j from ha], of_decide_eq_true z1, by omega, ?_⟩
          have w := wk_rng (g := g) (ω := ω2) (H := H2) (lo := 0) (hi := j) (by show _ ≤ 2 ^ 24; omega)
          rw [Int.sub_zero] at w
          exact Post.here r2 p2 _ w
        · cases q
      · next q1 => cases q1
      · cases q
  · cases h
theorem ok_it_rng2 (C : Cok g M cx sc k X) {a b : E} {tg e : Expr} (h : (It.rng2 a b).chk M sc tg e = true) (ia : ∀ e, a.chk M sc e = true → OkO g cl xa X (fun env => a.ev cx env) e) (ib : ∀ e, b.chk M sc e = true → OkO g cl xa X (fun env => b.ev cx env) e) :
    OkI g cl xa X (fun env => (It.rng2 a b).ev cx env) tg e := by
  intro n ω H env σ R W r tk p
  simp only [It.chk] at h
  split at h
  · next x px y z pos =>
    obtain ⟨h1, hh⟩ := and_t h
    obtain ⟨h2, h3⟩ := and_t hh
    obtain ⟨h2, h4⟩ := and_t h2
    obtain ⟨h3, h5⟩ := and_t h3
    obtain ⟨e1, e2, e3⟩ := blt_ok C h1
    subst e1
    have hst := star_eq h4 [z] X.env
    have hst2 := star_eq h5 [] X.env
    have p' : Post g cl xa n ω H σ ((It.rng2 a b).ev cx env) (fun l _ ω' H' => ∀ J, Wk g ω' H' J l → R J H') W := p
    simp only [It.ev] at p'
    refine si_of (pi_range2 e2 e3 (pa_cons (pe_se X y) (pa_cons (pe_se X z) pa_nil hst2) hst) (hst.trans (by rw [hst2]; rfl)) hst2) (two_ok C (ia y h2) (ib z h3) r tk p' fun ta tb env2 ω2 H2 k1 k2 u v r2 ha hb p2 => ?_)
    cases q : rngF [ta, tb] with
    | none => simp only [q] at p2; exact p2.elim
    | some l =>
      simp only [q] at p2
      unfold rngF at q
      split at q
      · next q1 => cases q1
      · next i j q1 =>
        cases q1
        split at q
        · next hz =>
          cases q
          obtain ⟨z1, z2⟩ := and_t hz
          obtain ⟨z3, z4⟩ := and_t z1
          obtain ⟨z5, z6⟩ := and_t z2
          obtain ⟨z5, z7⟩ := and_t z5
          exact ⟨i, j, by rw [show u = .int i from ha, show v = .int j from hb], ⟨of_decide_eq_true z3, of_decide_eq_true z4, of_decide_eq_true z5, of_decide_eq_true z7⟩, Post.here r2 p2 _ (wk_rng (by have := of_decide_eq_true z6; show _ ≤ 2 ^ 24; omega))⟩
        · cases q
      · cases q
  · cases h
end
end Py
set_option maxHeartbeats 1000000
namespace Py
open PySem PySem.Spec PyProof.Rows L2
section
variable {g : Gc} {cl : Clx} {xa : Fx} {M : Nm} {cx : EC} {sc : Scope} {k : Nat} {X : Cx} {n : Nat} {ω : Om} {H : Hp} {σ : L2.St} {env : Env} {W : WX}
/-! ### targets -/
def gNs : List Nat → TGs
  | [] => gNil
  | i :: is => gCons (gName i) (gNs is)
def gOf (K : PySem.W.Frag) : Tg → TG
  | .n i => gName i
  | .t is => gTup K is.length (gNs is)
theorem name_ok (C : Cok g M cx sc k X) {i : Nat} {x : Str} {pos : Pos} (h : stoOk M.N sc i x = true) : PG X (.Name x pos) (gName i) := by
  obtain ⟨h1, h2⟩ := and_t h
  obtain ⟨h3, h4⟩ := C.loc x h2
  unfold at? at h1
  split at h1
  · next y q =>
    rw [seq_ok h1] at q
    exact pg_name (by rw [C.N]; exact C.nd) (by rw [C.N]; exact q) h3 h4
  · cases h1
theorem names_ok (C : Cok g M cx sc k X) : ∀ {is : List Nat} {es : List Expr}, Tg.chk.chkNs M.N sc is es = true → PGs X es (gNs is) ∧ (assignEach es X.env).length = is.length ∧ (assignEach es X.env).findIdx? (·.1) = none
  | [], es, h => by
    unfold Tg.chk.chkNs at h
    split at h
    · exact ⟨pgs_nil, rfl, rfl⟩
    · next q => cases q
    · cases h
  | i :: is, es, h => by
    unfold Tg.chk.chkNs at h
    split at h
    · next q => cases q
    · next i' is' x px es' q =>
      cases q
      obtain ⟨h1, h2⟩ := and_t h
      obtain ⟨q1, q2, q3⟩ := names_ok C h2
      refine ⟨pgs_cons (name_ok C h1) q1, ?_, ?_⟩
      · show (assignEach es' X.env).length + 1 = _; rw [q2]; rfl
      · show ((false, _) :: assignEach es' X.env).findIdx? (·.1) = none
        rw [List.findIdx?_cons]
        simp [q3]
    · cases h
theorem tg_ok (C : Cok g M cx sc k X) (hc : X.calm = true) {tg : Tg} {e : Expr} (h : tg.chk M.N sc e = true) : PG X e (gOf X.K tg) := by
  unfold Tg.chk at h
  split at h
  · next i x px => exact name_ok C h
  · next is es kk pos =>
    obtain ⟨q1, q2, q3⟩ := names_ok C h
    exact pg_tup hc q1 q2 q3
  · cases h
theorem asgN_ok : ∀ {is : List Nat} {l : List Val} {xs : List V} {env env' : Env} {σ : L2.St} {Q : L2.St → Hp → Prop}, Rel g cl xa ω H env σ → RVs g ω H l xs → asgN is l env = some env' → (∀ j ∈ is, j ∉ xa.F) →
    (∀ σ', Rel g cl xa ω H env' σ' → (∀ j, j ∉ is → σ'[j]? = σ[j]?) → σ'.length = σ.length → Q σ' H) → gNs is xs σ H Q
  | [], [], xs, env, env', σ, Q, r, h, e, _, q => by
    cases e
    exact ⟨h, q σ r (fun _ _ => rfl) rfl⟩
  | i :: is, v :: l, xs, env, env', σ, Q, r, ⟨x, rr, e1, h1, h2⟩, e, hF, q => by
    refine ⟨x, rr, e1, asgN_ok (r.set (t := .v v) h1 (hF i List.mem_cons_self)) h2 e (fun j hj => hF j (List.mem_cons_of_mem _ hj)) fun σ' r' hs hl => q σ' r' (fun j hj => ?_) ?_⟩
    · rw [hs j (fun z => hj (List.mem_cons_of_mem _ z)), List.getElem?_set_ne (fun z => hj (by rw [z]; exact List.mem_cons_self))]
    · rw [hl, List.length_set]
  | [], _ :: _, _, _, _, _, _, _, _, e, _, _ => by cases e
  | _ :: _, [], _, _, _, _, _, _, _, e, _, _ => by cases e
theorem asgN_len : ∀ {is : List Nat} {l : List Val} {env env' : Env}, asgN is l env = some env' → l.length = is.length
  | [], [], _, _, _ => rfl
  | _ :: is, _ :: l, _, _, e => by rw [List.length_cons, List.length_cons, asgN_len (is := is) (l := l) e]
  | [], _ :: _, _, _, e => by cases e
  | _ :: _, [], _, _, e => by cases e
theorem asgV_ok (hK : X.K = g.K) {tg : Tg} {v : Val} {x : V} {env' : Env} {Q : L2.St → Hp → Prop} (r : Rel g cl xa ω H env σ) (h : RV g ω H v x) (e : asgV tg v env = some env') (hF : ∀ j ∈ tg.asg, j ∉ xa.F)
    (q : ∀ σ', Rel g cl xa ω H env' σ' → (∀ j, j ∉ tg.asg → σ'[j]? = σ[j]?) → σ'.length = σ.length → Q σ' H) : gOf X.K tg x σ H Q := by
  cases tg with
  | n i =>
    cases e
    exact q _ (r.set (t := .v v) h (hF i (List.mem_singleton_self _))) (fun j hj => List.getElem?_set_ne (fun z => hj (by rw [← z]; exact List.mem_singleton_self _))) (List.length_set ..)
  | t is =>
    cases v with
    | tup l =>
      obtain ⟨a, xs, h1, h2, h3⟩ := h
      have e' : asgN is l env = some env' := e
      exact ⟨a, xs, h1, hK ▸ h2.sq, by rw [h3.length, asgN_len e'], asgN_ok r h3 e' hF q⟩
    | _ => cases e
/-! ### wiping -/
theorem lwipe_get (σ : L2.St) (i : Nat) : ∀ vs : List Nat, (L2.wipe σ vs)[i]? = if i ∈ vs then (if i < σ.length then some none else none) else σ[i]?
  | [] => by simp [L2.wipe]
  | v :: vs => by
    have ih := lwipe_get σ i vs
    show ((L2.wipe σ vs).set v none)[i]? = _
    by_cases hv : v = i
    · subst hv
      rw [if_pos List.mem_cons_self]
      by_cases hl : v < σ.length
      · rw [if_pos hl, List.getElem?_set_self (by rw [L2.wipe_length]; exact hl)]
      · rw [if_neg hl]; rw [List.getElem?_eq_none_iff, List.length_set, L2.wipe_length]; omega
    · rw [List.getElem?_set_ne hv, ih]
      have : (i ∈ v :: vs) ↔ i ∈ vs := by simp [Ne.symm hv]
      simp only [this]
theorem lwipe_eq {σ σ' : L2.St} {vs : List Nat} (hl : σ'.length = σ.length) (h : ∀ j, j ∉ vs → σ'[j]? = σ[j]?) : L2.wipe σ' vs = L2.wipe σ vs := by
  apply List.ext_getElem?
  intro i
  rw [lwipe_get, lwipe_get, hl]
  by_cases hi : i ∈ vs
  · rw [if_pos hi, if_pos hi]
  · rw [if_neg hi, if_neg hi, h i hi]
theorem wipe_gt (e : Env) (i : Nat) : ∀ vs : List Nat, gt (Py.wipe e vs) i = if i ∈ vs then none else gt e i
  | [] => by simp [Py.wipe]
  | v :: vs => by
    show gt (st (Py.wipe e vs) v none) i = _
    rw [gt_st, wipe_gt e i vs]
    by_cases hv : i = v
    · subst hv
      rw [if_pos (List.mem_cons_self (a := i) (l := vs))]
      by_cases hl : i < (Py.wipe e vs).length
      · rw [if_pos ⟨rfl, hl⟩]
      · rw [if_neg (fun q => hl q.2)]
        by_cases hi : i ∈ vs
        · rw [if_pos hi]
        · rw [if_neg hi]
          cases q : gt e i with
          | none => rfl
          | some t => exact absurd (gt_lt (env := Py.wipe e vs) (i := i) (t := t) (by rw [wipe_gt e i vs, if_neg hi]; exact q)) hl
    · rw [if_neg (fun q => hv q.1)]
      have : (i ∈ v :: vs) ↔ i ∈ vs := by simp [hv]
      simp only [this]
theorem wipe_len (e : Env) : ∀ vs : List Nat, (Py.wipe e vs).length = e.length
  | [] => rfl
  | v :: vs => by show (st (Py.wipe e vs) v none).length = _; rw [st_length, wipe_len e vs]
theorem Rel.wipe (r : Rel g cl xa ω H env σ) (vs : List Nat) : Rel g cl xa.nf ω H (Py.wipe env vs) (L2.wipe σ vs) where
  fix := fun j hj => by cases hj
  len := by rw [wipe_len, L2.wipe_length, r.len]
  at0 := fun i t h => by
    rw [wipe_gt] at h
    by_cases hi : i ∈ vs
    · rw [if_pos hi] at h; cases h
    · rw [if_neg hi] at h
      obtain ⟨x, h1, h2⟩ := r.at0 i t h
      exact ⟨x, fun c => by rw [lwipe_get, if_neg hi]; exact h1 c, h2.nf rfl⟩
  trk := r.trk
theorem back_gt (e0 e : Env) (i : Nat) (hl : e.length = e0.length) : ∀ vs : List Nat, gt (putBackOwn e0 e vs) i = if i ∈ vs then onlyV (gt e0 i) else gt e i
  | [] => by simp [putBackOwn]
  | v :: vs => by
    have len : ∀ vs : List Nat, (putBackOwn e0 e vs).length = e.length := fun vs => by
      induction vs with
      | nil => rfl
      | cons v vs ih => show (st _ _ _).length = _; rw [st_length, ih]
    show gt (st (putBackOwn e0 e vs) v (onlyV (gt e0 v))) i = _
    rw [gt_st, back_gt e0 e i hl vs]
    by_cases hv : i = v
    · subst hv
      rw [if_pos (List.mem_cons_self (a := i) (l := vs))]
      by_cases hl2 : i < (putBackOwn e0 e vs).length
      · rw [if_pos ⟨rfl, hl2⟩]
      · rw [if_neg (fun q => hl2 q.2)]
        have hn : ∀ (q : Env), q.length = e0.length → gt q i = none := fun q hq => by
          cases z : gt q i with
          | none => rfl
          | some t => have := gt_lt z; rw [len, hl] at hl2; omega
        rw [hn e0 rfl, hn e hl]
        simp [onlyV]
    · rw [if_neg (fun q => hv q.1)]
      have : (i ∈ v :: vs) ↔ i ∈ vs := by simp [hv]
      simp only [this]
theorem back_len (e0 e : Env) : ∀ vs : List Nat, (putBackOwn e0 e vs).length = e.length
  | [] => rfl
  | v :: vs => by show (st _ _ _).length = _; rw [st_length, back_len e0 e vs]
/-- behind a comprehension -/
theorem Rel.back {ω1 : Om} {H1 : Hp} {env1 : Env} (r1 : Rel g cl xa ω1 H1 env1 σ) (kp : Kp ω1 H1 ω H) {vs : List Nat} (r : Rel g cl xa.nf ω H env (L2.wipe σ vs)) : Rel g cl xa ω H (putBackOwn env1 env vs) σ where
  fix := r1.fix
  len := by rw [back_len, ← r.len, L2.wipe_length]
  at0 := fun i t h => by
    have hl : env.length = env1.length := by rw [← r.len, L2.wipe_length, r1.len]
    rw [back_gt _ _ _ hl] at h
    by_cases hi : i ∈ vs
    · rw [if_pos hi] at h
      cases q : gt env1 i with
      | none => rw [q] at h; cases h
      | some u =>
        rw [q] at h
        cases u with
        | v w =>
          cases h
          obtain ⟨x, h1, h2⟩ := r1.at_ i _ q
          exact ⟨x, fun _ => h1, RV.kp kp w x h2⟩
        | _ => cases h
    · rw [if_neg hi] at h
      obtain ⟨x, h1, h2⟩ := r.at0 i t h
      exact ⟨x, fun c => by have := h1 c; rw [lwipe_get, if_neg hi] at this; exact this, h2.nf rfl⟩
  trk := r.trk
end
end Py
set_option maxHeartbeats 1000000
namespace Py
open PySem PySem.Spec PyProof.Rows L2
/-- a clause's tests, as a reading -/
def STs (X : Cx) (ifs : List Expr) : TT := fun σ H Q => ∀ (pins : List (Addr × Obj)) (s : Shared), Inv X pins σ H s →
  wpAny (model X.prog X.w) X.A (forIn ifs true fun c r => if r = true then do let ok ← isTrue c X.env (eval c X.env); pure (ForInStep.yield ok) else pure (ForInStep.yield r)) (TP X pins σ Q) X.xe s
theorem sts_of {X : Cx} {ifs : List Expr} {t : TT} (h : PTs X ifs t) {σ : L2.St} {H : Hp} {Q : Bool → Hp → Prop} (q : t σ H Q) : STs X ifs σ H Q := fun pins s I => h.run pins s σ H Q I q
section
variable {g : Gc} {cl : Clx} {xa : Fx} {M : Nm} {cx : EC} {sc : Scope} {k : Nat} {X : Cx}
def OkF (g : Gc) (cl : Clx) (xa : Fx) (X : Cx) (f : Env → R Bool) (ifs : List Expr) : Prop := ∀ n ω H env σ Q W, Rel g cl xa ω H env σ → Takes X W →
  Post g cl xa n ω H σ (f env) (fun b _ _ H' => Q b H') W → STs X ifs σ H Q
theorem ok_cond {o : Oe} {l : List Expr} (h : o.chkIf M sc l = true) (ia : ∀ a, o = .so a → ∀ e, a.chk M sc e = true → OkT g cl xa X (fun env => a.ev cx env) e) : OkF g cl xa X (fun env => o.cond cx env) l := by
  intro n ω H env σ Q W r tk p
  cases o with
  | no =>
    simp only [Oe.chkIf] at h
    split at h
    · exact sts_of pts_nil (Post.here r p)
    · cases h
  | so a =>
    simp only [Oe.chkIf] at h
    split at h
    · next x =>
      have p' : Post g cl xa n ω H σ (Oe.cond cx (.so a) env) (fun b _ _ H' => Q b H') W := p
      simp only [Oe.cond] at p'
      exact sts_of (pts_one (pt_st X x)) (ia a rfl x h n ω H env σ Q W r tk p')
    · cases h
theorem lcL_noex {tg : Tg} {own : List Nat} {c : Env → R Bool} {el : Env → R Val} : ∀ {xs acc : List Val} {env env' : Env} {x : Exc}, lcL tg own c el xs acc env = .ex x env' → False
  | [], _, _, _, _, e => by cases e
  | v :: xs, acc, env, env', x, e => by
    unfold lcL at e
    split at e
    · cases e
    · split at e
      · split at e
        · exact lcL_noex e
        · cases e
      · exact lcL_noex e
      · cases e
theorem fetch_drop {α : Type} {l : List α} {i : Nat} {v : α} (h : l[i]? = some v) : l.drop i = v :: l.drop (i + 1) := by
  obtain ⟨hl, e⟩ := List.getElem?_eq_some_iff.mp h
  rw [List.drop_eq_getElem_cons hl, e]
theorem lc_both (C : Cok g M cx sc k X) {el : E} {tg : Tg} {it : It} {c : Oe} {own : List Nat} {elt t i : Expr} {ifs : List Expr} {scope : Scope} {pos : Pos} (h : (E.lc el tg it c own).chk M sc (.ListComp elt [⟨t, i, ifs, 0⟩] scope pos) = true)
    (iit : ∀ t e, it.chk M sc t e = true → OkI g cl xa X (fun env => it.ev cx env) t e)
    (ic : ∀ xa X sc, Cok g M.in cx sc k X → M.calm = true → ∀ l, c.chkIf M.in sc l = true → OkF g cl xa X (fun env => c.cond cx env) l)
    (iel : ∀ xa X sc, Cok g M.in cx sc k X → M.calm = true → ∀ e, el.chk M.in sc e = true → OkO g cl xa X (fun env => el.ev cx env) e) :
    ∃ (tt : TT) (te : TE) (ow : List (Str × Nat)), X.calm = true ∧ BlkOk X.N X.env.scope scope ow ∧ (∀ (s : Shared) (H0 : Hp) (a : Addr) (l : List (Str × Addr)) (fp : List Addr), PG (X.blk s H0 scope (compEnvC scope l a X.env) fp) t (gOf X.K tg)) ∧
      (∀ (s : Shared) (H0 : Hp) (a : Addr) (l : List (Str × Addr)) (fp : List Addr), PTs (X.blk s H0 scope (compEnvC scope l a X.env) fp) ifs tt) ∧ (∀ (s : Shared) (H0 : Hp) (a : Addr) (l : List (Str × Addr)) (fp : List Addr), PE (X.blk s H0 scope (compEnvC scope l a X.env) fp) elt te) ∧
      (∀ x, foldedSetIterable i X.env x = pure x) ∧ ∀ n ω H env σ Q W, Rel g cl xa ω H env σ → Takes X W → Post g cl xa n ω H σ ((E.lc el tg it c own).ev cx env) (fun o _ ω' H' => ∀ x, RO g cl xa ω' H' σ n o x → Q x H') W →
        tLc (SI X t i) (gOf X.K tg) tt te (ow.map (·.2)) σ H Q := by
  simp only [E.chk] at h
  obtain ⟨h1, hh⟩ := and_t h
  obtain ⟨h1, h0⟩ := and_t h1
  obtain ⟨h2, hh⟩ := and_t hh
  obtain ⟨h3, hh⟩ := and_t hh
  obtain ⟨h4, hh⟩ := and_t hh
  obtain ⟨h5, h6⟩ := and_t hh
  obtain ⟨h6, hc⟩ := and_t h6
  have hX := C.calm hc
  have hfold : ∀ x, foldedSetIterable i X.env x = pure x := fun x => by cases i <;> first | rfl | cases h6
  have hown : (ownOf M.N own).map (·.2) = own := by unfold ownOf; rw [List.map_map]; exact List.map_id _
  have hblk : BlkOk X.N X.env.scope scope (ownOf M.N own) := by
    rw [C.N]
    have b := blkOk_by h1
    exact ⟨b.kind, b.uniq, b.ix, fun y hy hf => C.fre y.1 (b.free y hy hf), b.own⟩
  let te : TE := fun σ H Q => ∀ (s : Shared) (H0 : Hp) (a : Addr) (l : List (Str × Addr)) (fp : List Addr), SE (X.blk s H0 scope (compEnvC scope l a X.env) fp) elt σ H Q
  let tt : TT := fun σ H Q => ∀ (s : Shared) (H0 : Hp) (a : Addr) (l : List (Str × Addr)) (fp : List Addr), STs (X.blk s H0 scope (compEnvC scope l a X.env) fp) ifs σ H Q
  refine ⟨tt, te, ownOf M.N own, hX, hblk, fun s H0 a l fp => tg_ok (C.blk s H0 a l fp) hX h3, fun s H0 a l fp => ⟨fun pins s' σ' H' Q' I q => q s H0 a l fp pins s' I⟩, fun s H0 a l fp => ⟨fun pins s' σ' H' Q' I q => q s H0 a l fp pins s' I⟩, hfold, ?_⟩
  intro n ω H env σ Q W r tk p
  have p' : Post g cl xa n ω H σ ((E.lc el tg it c own).ev cx env) (fun o _ ω' H' => ∀ x, RO g cl xa ω' H' σ n o x → Q x H') W := p
  simp only [E.ev] at p'
  rw [hown]
  refine iit t i h2 n ω H env σ _ W r tk ((Post.bind p').imp fun xs env1 ω1 H1 e1 r1 p1 J wk D hD => ?_)
  cases htot : lcL tg own (fun env => c.cond cx env) (fun env => (el.ev cx env).bind fun o env => esc env o) xs [] (wipe env1 own) with
  | ex _ _ => exact (lcL_noex htot).elim
  | no => rw [htot] at p1; exact p1.elim
  | ok ys env2 =>
    rw [htot] at p1
    have p2 : Post g cl xa n ω1 H1 σ (.ok (.t (.vl ys)) (putBackOwn env1 env2 own)) (fun o _ ω' H' => ∀ x, RO g cl xa ω' H' σ n o x → Q x H') W := p1
    refine ⟨fun j m H' => m = xs.length - j ∧ j ≤ xs.length ∧ ∃ (env' : Env) (ω' : Om) (acc : List Val) (av : List V), Rel g cl xa.nf ω' H' env' (L2.wipe σ own) ∧ Ext n ω1 H1 ω' H' ∧ ω' D = some (.tmp n) ∧ H' D = some (.lst av) ∧ RVs g ω' H' acc av ∧ acc.length ≤ j ∧
      lcL tg own (fun env => c.cond cx env) (fun env => (el.ev cx env).bind fun o env => esc env o) (xs.drop j) acc env' = .ok ys env2, ⟨xs.length, by simp, Nat.zero_le _, wipe env1 own, lab ω1 D (some (.tmp n)), [], [], ?_, ?_, lab_same, upd_same, rfl, Nat.le_refl _, htot⟩, ?_⟩
    · exact (r1.new hD ow_lst).wipe own
    · exact new_ext r1.trk hD (fun q => nomatch q)
    · rintro j m H' ⟨rfl, hj, env', ω', acc, av, r', x', hl, hD', hv, hn, he⟩
      by_cases hlt : j < xs.length
      · refine .inr ⟨wk.go ω' H' j x'.kp hlt, _, fun H'' w => ⟨xs.length - (j + 1), by omega, w⟩, fun x H'' y => ?_⟩
        obtain ⟨v, hv1, hy⟩ := wk.yld ω' H' j x H'' x'.kp hlt y
        -- the state behind the yield
        have st : ∃ ω'', Rel g cl xa.nf ω'' H'' env' (L2.wipe σ own) ∧ Ext n ω1 H1 ω'' H'' ∧ ω'' D = some (.tmp n) ∧ H'' D = some (.lst av) ∧ RVs g ω'' H'' acc av ∧ RV g ω'' H'' v x := by
          rcases hy with ⟨rfl, hy⟩ | ⟨pp, q, zs, w1, rfl, rfl, rfl, w2⟩
          · exact ⟨ω', r', x', hl, hD', hv, hy⟩
          · have kp : Kp ω' H' (lab ω' pp none) (upd H' pp (.tup zs)) := new_kp w1
            have ne : D ≠ pp := ne_of_none hD' w1
            exact ⟨lab ω' pp none, r'.new w1 ow_tup, x'.trans (new_ext r'.trk w1 (fun q => nomatch q)), by rw [lab_ne ne]; exact hl, by rw [upd_ne ne]; exact hD', hv.kp' kp, pp, zs, rfl, .inl ⟨lab_same, upd_same⟩, w2.kp' kp⟩
        obtain ⟨ω2, r2, x2, hl2, hD2, hv2, hx2⟩ := st
        rw [fetch_drop hv1] at he
        unfold lcL at he
        cases ha : asgV tg v env' with
        | none => simp only [ha] at he; cases he
        | some env3 =>
          simp only [ha] at he
          refine asgV_ok C.K r2 hx2 ha (fun _ _ z => by cases z) fun σ3 r3 hs hlen => ?_
          have hw : L2.wipe σ3 own = L2.wipe (L2.wipe σ own) own := lwipe_eq hlen fun z hz => hs z fun hz2 => hz (by
            cases tg with
            | n i0 =>
              have : z = i0 := by simpa [Tg.asg] using hz2
              rw [this]
              exact List.contains_iff_mem.mp (by simpa [tgIn] using h0)
            | t is =>
              have h0' : is.all own.contains = true := h0
              exact List.contains_iff_mem.mp (List.all_eq_true.mp h0' z hz2))
          have hww : L2.wipe (L2.wipe σ own) own = L2.wipe σ own := lwipe_eq (L2.wipe_length σ own) fun z hz => by rw [lwipe_get, if_neg hz]
          refine ⟨hw.trans hww, fun s H0 a l fp => ?_⟩
          have Cb := C.blk (scope := scope) s H0 a l fp
          refine ic xa.nf _ scope Cb hc ifs h4 (n + 1) ω2 H'' env3 σ3 _ (fun _ _ _ _ => False) r3 takes0 ?_
          show Post g cl xa.nf (n + 1) ω2 H'' σ3 (c.cond cx env3) _ _
          cases hcond : c.cond cx env3 with
          | no => simp only [hcond] at he; cases he
          | ex _ _ => simp only [hcond] at he; cases he
          | ok b env4 =>
            intro ω4 H4 e4 r4
            have x4 : Ext n ω1 H1 ω4 H4 := x2.trans (e4.mono (Nat.le_succ n))
            obtain ⟨hl4, hD4'⟩ := e4.tmp n (Nat.lt_succ_self n) D hl2
            have hD4 : H4 D = some (.lst av) := hD4'.trans hD2
            cases b with
            | false =>
              simp only [hcond] at he
              rw [if_neg (fun q => nomatch q)]
              refine ⟨rfl, by omega, wipe env4 own, ω4, acc, av, ?_, x4, hl4, hD4, hv2.kp' e4.kp, by omega, he⟩
              have := r4.wipe own
              rw [hw, hww] at this
              exact this
            | true =>
              simp only [hcond] at he
              rw [if_pos rfl]
              intro s H0 a l fp
              have Cb := C.blk (scope := scope) s H0 a l fp
              refine iel xa.nf _ scope Cb hc elt h5 (n + 1) ω4 H4 env4 σ3 _ (fun _ _ _ _ => False) r4 takes0 ?_
              show Post g cl xa.nf (n + 1) ω4 H4 σ3 (el.ev cx env4) _ _
              cases hel : el.ev cx env4 with
              | no => simp only [hel] at he; cases he
              | ex _ _ => simp only [hel] at he; cases he
              | ok o env5 =>
                simp only [hel] at he
                intro ω5 H5 e5 r5 y ro
                have he2 : (match esc env5 o with
                  | R.ok y env => lcL tg own (fun env => c.cond cx env) (fun env => (el.ev cx env).bind fun o env => esc env o) (xs.drop (j + 1)) (acc ++ [y]) (wipe env own)
                  | _ => R.no) = .ok ys env2 := he
                cases hesc : esc env5 o with
                | no => rw [hesc] at he2; cases he2
                | ex _ _ => exact (esc_noex hesc).elim
                | ok v6 env6 =>
                  rw [hesc] at he2
                  obtain ⟨ω6, e6, a6, r6, v6r⟩ := esc_ok r5 ro hesc
                  obtain ⟨hl5, hD5'⟩ := e5.tmp n (Nat.lt_succ_self n) D hl4
                  have hD5 : H5 D = some (.lst av) := hD5'.trans hD4
                  have hl6 : ω6 D = some (.tmp n) := (e6.tmp n (Nat.lt_succ_self n) D hl5).1
                  have hav := hv2.length
                  refine ⟨av, hD5, by have := wk.len; omega, rfl, by omega, wipe env6 own, ω6, acc ++ [v6], av ++ [y], ?_, ?_, hl6, upd_same, ?_, by rw [List.length_append]; simp; omega, he2⟩
                  · have kp : Kp ω6 H5 ω6 (upd H5 D (.lst (av ++ [y]))) := wr_kp hl6
                    have rr := (r6.keep kp (fun i => wr_kk hl6 (fun q => nomatch q)) (wr_trk r6.trk hl6 ow_lst)).wipe own
                    rw [hw, hww] at rr
                    exact rr
                  · exact (x4.trans ((e5.trans e6).mono (Nat.le_succ n))).trans (wr_ext hl6 (fun q => nomatch q) fun m hm q => by cases q; exact Nat.lt_irrefl _ hm)
                  · have kp : Kp ω6 H5 ω6 (upd H5 D (.lst (av ++ [y]))) := wr_kp hl6
                    exact ((((hv2.kp' e4.kp).kp' e5.kp).kp' e6.kp).append (RVs.cons v6r (show RVs g ω6 H5 [] [] from rfl))).kp' kp
      · have hjl : j = xs.length := by omega
        subst hjl
        rw [List.drop_length] at he
        have he' : R.ok acc env' = R.ok ys env2 := he
        injection he' with q1 q2
        subst q1 q2
        exact .inl ⟨wk.stop ω' H' x'.kp, p2 ω' H' x' (Rel.back r1 x'.kp r') _ ⟨D, av, rfl, hl, hD', hv⟩⟩
theorem ok_lc (C : Cok g M cx sc k X) {el : E} {tg : Tg} {it : It} {c : Oe} {own : List Nat} {e : Expr} (h : (E.lc el tg it c own).chk M sc e = true)
    (iit : ∀ t e, it.chk M sc t e = true → OkI g cl xa X (fun env => it.ev cx env) t e)
    (ic : ∀ xa X sc, Cok g M.in cx sc k X → M.calm = true → ∀ l, c.chkIf M.in sc l = true → OkF g cl xa X (fun env => c.cond cx env) l)
    (iel : ∀ xa X sc, Cok g M.in cx sc k X → M.calm = true → ∀ e, el.chk M.in sc e = true → OkO g cl xa X (fun env => el.ev cx env) e) :
    OkO g cl xa X (fun env => (E.lc el tg it c own).ev cx env) e := by
  intro n ω H env σ Q W r tk p
  have h' := h
  simp only [E.chk] at h'
  split at h'
  · next elt t i ifs scope pos =>
    obtain ⟨tt, te, ow, q1, q2, q3, q4, q5, q6, q7⟩ := lc_both C h iit ic iel
    exact se_of (pe_lc (wi := SI X t i) (g := gOf X.K tg) (tt := tt) (te := te) q1 (by rw [C.N]; exact C.nd) (pi_si X t i) q2 q3 q4 q5 q6) (q7 n ω H env σ Q W r tk p)
  · cases h'
end
end Py
set_option maxHeartbeats 1000000
namespace Py
open PySem PySem.Spec PyProof.Rows L2
section
variable {g : Gc} {cl : Clx} {xa : Fx} {M : Nm} {cx : EC} {sc : Scope} {k : Nat} {X : Cx}
theorem lcL_len {tg : Tg} {own : List Nat} {c : Env → R Bool} {el : Env → R Val} : ∀ {xs acc ys : List Val} {env env' : Env}, lcL tg own c el xs acc env = .ok ys env' → acc.length ≤ ys.length
  | [], acc, ys, env, env', e => by cases e; exact Nat.le_refl _
  | v :: xs, acc, ys, env, env', e => by
    unfold lcL at e
    split at e
    · cases e
    · split at e
      · split at e
        · have := lcL_len e
          rw [List.length_append] at this
          omega
        · cases e
      · exact lcL_len e
      · cases e
/-- the turns of a comprehension's loop, the new list at D -/
theorem lc_turns (hK : X.K = g.K) {n : Nat} {σ : L2.St} {tg : Tg} {own : List Nat} {c : Env → R Bool} {el : Env → R Opd} {tt : TT} {te : TE} {J : L2.It} {xs acc0 ys : List Val} {av0 : List V} {env0 env2 : Env} {ω1 ω0 : Om} {H1 H0 : Hp} {D : Addr} {Qd : Hp → Prop}
    (ht : ∀ ω H env σ Q, Rel g cl xa.nf ω H env σ → Post g cl xa.nf (n + 1) ω H σ (c env) (fun b _ _ H' => Q b H') (fun _ _ _ _ => False) → tt σ H Q)
    (hE : ∀ ω H env σ Q, Rel g cl xa.nf ω H env σ → Post g cl xa.nf (n + 1) ω H σ (el env) (fun o _ ω' H' => ∀ x, RO g cl xa.nf ω' H' σ (n + 1) o x → Q x H') (fun _ _ _ _ => False) → te σ H Q)
    (h0 : tgIn own tg = true) (wk : Wk g ω1 H1 J xs) (x0 : Ext n ω1 H1 ω0 H0) (r0 : Rel g cl xa.nf ω0 H0 env0 (L2.wipe σ own)) (hl0 : ω0 D = some (.tmp n)) (hD0 : H0 D = some (.lst av0)) (hv0 : RVs g ω0 H0 acc0 av0)
    (htot : lcL tg own c (fun env => (el env).bind fun o env => esc env o) xs acc0 env0 = .ok ys env2) (hsz : ys.length ≤ sizeLine)
    (hd : ∀ ω' H' av, Ext n ω1 H1 ω' H' → Rel g cl xa.nf ω' H' env2 (L2.wipe σ own) → ω' D = some (.tmp n) → H' D = some (.lst av) → RVs g ω' H' ys av → Qd H') :
    ∃ W : Nat → Nat → Hp → Prop, (∃ m, W 0 m H0) ∧ ∀ i m H, W i m H → (J.stop i H ∧ Qd H) ∨ (J.go i H ∧ ∃ Nx : Hp → Prop, (∀ H', Nx H' → ∃ m', m' < m ∧ W (i + 1) m' H') ∧ ∀ x H', J.yld i H x H' → gOf X.K tg x (L2.wipe σ own) H' fun σ2 H2 => L2.wipe σ2 own = L2.wipe σ own ∧ tt σ2 H2 fun b H3 =>
      if b = true then te σ2 H3 fun y H4 => ∃ acc, H4 D = some (.lst acc) ∧ acc.length < sizeLine ∧ Nx (upd H4 D (.lst (acc ++ [y]))) else Nx H3) := by
  refine ⟨fun j m H' => m = xs.length - j ∧ j ≤ xs.length ∧ ∃ (env' : Env) (ω' : Om) (acc : List Val) (av : List V), Rel g cl xa.nf ω' H' env' (L2.wipe σ own) ∧ Ext n ω1 H1 ω' H' ∧ ω' D = some (.tmp n) ∧ H' D = some (.lst av) ∧ RVs g ω' H' acc av ∧
    lcL tg own c (fun env => (el env).bind fun o env => esc env o) (xs.drop j) acc env' = .ok ys env2, ⟨xs.length, by simp, Nat.zero_le _, env0, ω0, acc0, av0, r0, x0, hl0, hD0, hv0, htot⟩, ?_⟩
  rintro j m H' ⟨rfl, hj, env', ω', acc, av, r', x', hl, hD', hv, he⟩
  by_cases hlt : j < xs.length
  · refine .inr ⟨wk.go ω' H' j x'.kp hlt, _, fun H'' w => ⟨xs.length - (j + 1), by omega, w⟩, fun x H'' y => ?_⟩
    obtain ⟨v, hv1, hy⟩ := wk.yld ω' H' j x H'' x'.kp hlt y
    -- the state behind the yield
    have st : ∃ ω'', Rel g cl xa.nf ω'' H'' env' (L2.wipe σ own) ∧ Ext n ω1 H1 ω'' H'' ∧ ω'' D = some (.tmp n) ∧ H'' D = some (.lst av) ∧ RVs g ω'' H'' acc av ∧ RV g ω'' H'' v x := by
      rcases hy with ⟨rfl, hy⟩ | ⟨pp, q, zs, w1, rfl, rfl, rfl, w2⟩
      · exact ⟨ω', r', x', hl, hD', hv, hy⟩
      · have kp : Kp ω' H' (lab ω' pp none) (upd H' pp (.tup zs)) := new_kp w1
        have ne : D ≠ pp := ne_of_none hD' w1
        exact ⟨lab ω' pp none, r'.new w1 ow_tup, x'.trans (new_ext r'.trk w1 (fun q => nomatch q)), by rw [lab_ne ne]; exact hl, by rw [upd_ne ne]; exact hD', hv.kp' kp, pp, zs, rfl, .inl ⟨lab_same, upd_same⟩, w2.kp' kp⟩
    obtain ⟨ω2, r2, x2, hl2, hD2, hv2, hx2⟩ := st
    rw [fetch_drop hv1] at he
    unfold lcL at he
    cases ha : asgV tg v env' with
    | none => simp only [ha] at he; cases he
    | some env3 =>
      simp only [ha] at he
      refine asgV_ok hK r2 hx2 ha (fun _ _ z => by cases z) fun σ3 r3 hs hlen => ?_
      have hw : L2.wipe σ3 own = L2.wipe (L2.wipe σ own) own := lwipe_eq hlen fun z hz => hs z fun hz2 => hz (by
        cases tg with
        | n i0 =>
          have : z = i0 := by simpa [Tg.asg] using hz2
          rw [this]
          exact List.contains_iff_mem.mp (by simpa [tgIn] using h0)
        | t is =>
          have h0' : is.all own.contains = true := h0
          exact List.contains_iff_mem.mp (List.all_eq_true.mp h0' z hz2))
      have hww : L2.wipe (L2.wipe σ own) own = L2.wipe σ own := lwipe_eq (L2.wipe_length σ own) fun z hz => by rw [lwipe_get, if_neg hz]
      refine ⟨hw.trans hww, ?_⟩
      refine ht ω2 H'' env3 σ3 _ r3 ?_
      show Post g cl xa.nf (n + 1) ω2 H'' σ3 (c env3) _ _
      cases hcond : c env3 with
      | no => simp only [hcond] at he; cases he
      | ex _ _ => simp only [hcond] at he; cases he
      | ok b env4 =>
        intro ω4 H4 e4 r4
        have x4 : Ext n ω1 H1 ω4 H4 := x2.trans (e4.mono (Nat.le_succ n))
        obtain ⟨hl4, hD4'⟩ := e4.tmp n (Nat.lt_succ_self n) D hl2
        have hD4 : H4 D = some (.lst av) := hD4'.trans hD2
        cases b with
        | false =>
          simp only [hcond] at he
          rw [if_neg (fun q => nomatch q)]
          refine ⟨rfl, by omega, wipe env4 own, ω4, acc, av, ?_, x4, hl4, hD4, hv2.kp' e4.kp, he⟩
          have := r4.wipe own
          rw [hw, hww] at this
          exact this
        | true =>
          simp only [hcond] at he
          rw [if_pos rfl]
          refine hE ω4 H4 env4 σ3 _ r4 ?_
          show Post g cl xa.nf (n + 1) ω4 H4 σ3 (el env4) _ _
          cases hel : el env4 with
          | no => simp only [hel] at he; cases he
          | ex _ _ => simp only [hel] at he; cases he
          | ok o env5 =>
            simp only [hel] at he
            intro ω5 H5 e5 r5 y ro
            have he2 : (match esc env5 o with
              | R.ok y env => lcL tg own c (fun env => (el env).bind fun o env => esc env o) (xs.drop (j + 1)) (acc ++ [y]) (wipe env own)
              | _ => R.no) = .ok ys env2 := he
            cases hesc : esc env5 o with
            | no => rw [hesc] at he2; cases he2
            | ex _ _ => exact (esc_noex hesc).elim
            | ok v6 env6 =>
              rw [hesc] at he2
              obtain ⟨ω6, e6, a6, r6, v6r⟩ := esc_ok r5 ro hesc
              obtain ⟨hl5, hD5'⟩ := e5.tmp n (Nat.lt_succ_self n) D hl4
              have hD5 : H5 D = some (.lst av) := hD5'.trans hD4
              have hl6 : ω6 D = some (.tmp n) := (e6.tmp n (Nat.lt_succ_self n) D hl5).1
              have hav := hv2.length
              refine ⟨av, hD5, by have := lcL_len he2; rw [List.length_append, List.length_singleton] at this; omega, rfl, by omega, wipe env6 own, ω6, acc ++ [v6], av ++ [y], ?_, ?_, hl6, upd_same, ?_, he2⟩
              · have kp : Kp ω6 H5 ω6 (upd H5 D (.lst (av ++ [y]))) := wr_kp hl6
                have rr := (r6.keep kp (fun i => wr_kk hl6 (fun q => nomatch q)) (wr_trk r6.trk hl6 ow_lst)).wipe own
                rw [hw, hww] at rr
                exact rr
              · exact (x4.trans ((e5.trans e6).mono (Nat.le_succ n))).trans (wr_ext hl6 (fun q => nomatch q) fun m hm q => by cases q; exact Nat.lt_irrefl _ hm)
              · have kp : Kp ω6 H5 ω6 (upd H5 D (.lst (av ++ [y]))) := wr_kp hl6
                exact ((((hv2.kp' e4.kp).kp' e5.kp).kp' e6.kp).append (RVs.cons v6r (show RVs g ω6 H5 [] [] from rfl))).kp' kp
  · have hjl : j = xs.length := by omega
    subst hjl
    rw [List.drop_length] at he
    have he' : R.ok acc env' = R.ok ys env2 := he
    injection he' with q1 q2
    subst q1 q2
    exact .inl ⟨wk.stop ω' H' x'.kp, hd ω' H' av x' r' hl hD' hv⟩
end
end Py
set_option maxHeartbeats 1000000
namespace Py
open PySem PySem.Spec PyProof.Rows L2
section
variable {g : Gc} {cl : Clx} {xa : Fx} {M : Nm} {cx : EC} {sc : Scope} {k : Nat} {X : Cx}
theorem lc2L_noex {tg tg1 : Tg} {own own1 : List Nat} {c c1 : Env → R Bool} {it1 : Env → R (List Val)} {el : Env → R Val} : ∀ {xs acc : List Val} {env env' : Env} {x : Exc}, lc2L tg own c it1 tg1 own1 c1 el xs acc env = .ex x env' → False
  | [], _, _, _, _, e => by cases e
  | v :: xs, acc, env, env', x, e => by
    unfold lc2L at e
    split at e
    · cases e
    · split at e
      · split at e
        · split at e
          · exact lc2L_noex e
          · cases e
        · cases e
      · exact lc2L_noex e
      · cases e
theorem lc2L_len {tg tg1 : Tg} {own own1 : List Nat} {c c1 : Env → R Bool} {it1 : Env → R (List Val)} {el : Env → R Val} : ∀ {xs acc ys : List Val} {env env' : Env}, lc2L tg own c it1 tg1 own1 c1 el xs acc env = .ok ys env' → acc.length ≤ ys.length
  | [], acc, ys, env, env', e => by cases e; exact Nat.le_refl _
  | v :: xs, acc, ys, env, env', e => by
    unfold lc2L at e
    split at e
    · cases e
    · split at e
      · split at e
        · split at e
          · next h => exact Nat.le_trans (lcL_len h) (lc2L_len e)
          · cases e
        · cases e
      · exact lc2L_len e
      · cases e
theorem ok_lc2 (C : Cok g M cx sc k X) {el : E} {tg : Tg} {it : It} {c : Oe} {own : List Nat} {tg1 : Tg} {it1 : It} {c1 : Oe} {own1 : List Nat} {e : Expr} (h : (E.lc2 el tg it c own tg1 it1 c1 own1).chk M sc e = true)
    (iit : ∀ t e, it.chk M sc t e = true → OkI g cl xa X (fun env => it.ev cx env) t e)
    (ic : ∀ xa X sc, Cok g M.in cx sc k X → M.calm = true → ∀ l, c.chkIf M.in sc l = true → OkF g cl xa X (fun env => c.cond cx env) l)
    (iit1 : ∀ xa X sc, Cok g M.in cx sc k X → M.calm = true → ∀ t e, it1.chk M.in sc t e = true → OkI g cl xa X (fun env => it1.ev cx env) t e)
    (ic1 : ∀ xa X sc, Cok g M.in cx sc k X → M.calm = true → ∀ l, c1.chkIf M.in sc l = true → OkF g cl xa X (fun env => c1.cond cx env) l)
    (iel : ∀ xa X sc, Cok g M.in cx sc k X → M.calm = true → ∀ e, el.chk M.in sc e = true → OkO g cl xa X (fun env => el.ev cx env) e) :
    OkO g cl xa X (fun env => (E.lc2 el tg it c own tg1 it1 c1 own1).ev cx env) e := by
  intro n ω H env σ Q W r tk p
  simp only [E.chk] at h
  split at h
  · next elt t i ifs t1 i1 ifs1 scope pos =>
    obtain ⟨hA, hB⟩ := and_t h
    obtain ⟨hA, hA2⟩ := and_t hA
    obtain ⟨h1, h0⟩ := and_t hA
    obtain ⟨h01, hsub⟩ := and_t hA2
    obtain ⟨hB, hC⟩ := and_t hB
    obtain ⟨h2, hh⟩ := and_t hB
    obtain ⟨h3, hh⟩ := and_t hh
    obtain ⟨h4, hh⟩ := and_t hh
    obtain ⟨h5, h6⟩ := and_t hh
    obtain ⟨h6, hc⟩ := and_t h6
    obtain ⟨k1, hh⟩ := and_t hC
    obtain ⟨k2, hh⟩ := and_t hh
    obtain ⟨k3, k4⟩ := and_t hh
    have hX := C.calm hc
    have nd : X.N.Nodup := by rw [C.N]; exact C.nd
    have hfold : ∀ x, foldedSetIterable i X.env x = pure x := fun x => by cases i <;> first | rfl | cases h6
    have hfold1 : ∀ env x, foldedSetIterable i1 env x = pure x := fun env x => by cases i1 <;> first | rfl | cases k4
    have hown : (ownOf M.N own).map (·.2) = own := by unfold ownOf; rw [List.map_map]; exact List.map_id _
    have hin : ∀ j, j ∈ own1 → j ∈ own := fun j hj => List.contains_iff_mem.mp (List.all_eq_true.mp hsub j hj)
    have hblk : BlkOk X.N X.env.scope scope (ownOf M.N own) := by
      rw [C.N]
      have b := blkOk_by h1
      exact ⟨b.kind, b.uniq, b.ix, fun y hy hf => C.fre y.1 (b.free y hy hf), b.own⟩
    have p' : Post g cl xa n ω H σ ((E.lc2 el tg it c own tg1 it1 c1 own1).ev cx env) (fun o _ ω' H' => ∀ x, RO g cl xa ω' H' σ n o x → Q x H') W := p
    simp only [E.ev] at p'
    let te : TE := fun σ H Q => ∀ (s : Shared) (H0 : Hp) (a : Addr) (l : List (Str × Addr)) (fp : List Addr), SE (X.blk s H0 scope (compEnvC scope l a X.env) fp) elt σ H Q
    let tt : TT := fun σ H Q => ∀ (s : Shared) (H0 : Hp) (a : Addr) (l : List (Str × Addr)) (fp : List Addr), STs (X.blk s H0 scope (compEnvC scope l a X.env) fp) ifs σ H Q
    let tt1 : TT := fun σ H Q => ∀ (s : Shared) (H0 : Hp) (a : Addr) (l : List (Str × Addr)) (fp : List Addr), STs (X.blk s H0 scope (compEnvC scope l a X.env) fp) ifs1 σ H Q
    let wi1 : TI := fun σ H R => ∀ (s : Shared) (H0 : Hp) (a : Addr) (l : List (Str × Addr)) (fp : List Addr), SI (X.blk s H0 scope (compEnvC scope l a X.env) fp) t1 i1 σ H R
    have htt : ∀ (n : Nat) ω H env σ Q, Rel g cl xa.nf ω H env σ → Post g cl xa.nf (n + 1) ω H σ (c.cond cx env) (fun b _ _ H' => Q b H') (fun _ _ _ _ => False) → tt σ H Q := fun n ω H env σ Q r p s H0 a l fp =>
      ic xa.nf _ scope (C.blk (scope := scope) s H0 a l fp) hc ifs h4 (n + 1) ω H env σ Q _ r takes0 p
    have htt1 : ∀ (n : Nat) ω H env σ Q, Rel g cl xa.nf ω H env σ → Post g cl xa.nf (n + 1) ω H σ (c1.cond cx env) (fun b _ _ H' => Q b H') (fun _ _ _ _ => False) → tt1 σ H Q := fun n ω H env σ Q r p s H0 a l fp =>
      ic1 xa.nf _ scope (C.blk (scope := scope) s H0 a l fp) hc ifs1 k3 (n + 1) ω H env σ Q _ r takes0 p
    have hte : ∀ (n : Nat) ω H env σ Q, Rel g cl xa.nf ω H env σ → Post g cl xa.nf (n + 1) ω H σ (el.ev cx env) (fun o _ ω' H' => ∀ x, RO g cl xa.nf ω' H' σ (n + 1) o x → Q x H') (fun _ _ _ _ => False) → te σ H Q := fun n ω H env σ Q r p s H0 a l fp =>
      iel xa.nf _ scope (C.blk (scope := scope) s H0 a l fp) hc elt h5 (n + 1) ω H env σ Q _ r takes0 p
    refine se_of (pe_lc2 (wi := SI X t i) (g := gOf X.K tg) (tt := tt) (wi1 := wi1) (g1 := gOf X.K tg1) (tt1 := tt1) (te := te) (vs1 := own1) hX nd (pi_si X t i) hblk (by rw [hown]; exact hin) (fun s H0 a l fp => tg_ok (C.blk s H0 a l fp) hX h3)
      (fun s H0 a l fp => ⟨fun pins s' σ' H' Q' I q => q s H0 a l fp pins s' I⟩) (fun s H0 a l fp => ⟨fun pins s' σ' H' Q' I q => q s H0 a l fp pins s' I⟩) (fun s H0 a l fp => tg_ok (C.blk s H0 a l fp) hX k2)
      (fun s H0 a l fp => ⟨fun pins s' σ' H' Q' I q => q s H0 a l fp pins s' I⟩) (fun s H0 a l fp => ⟨fun pins s' σ' H' Q' I q => q s H0 a l fp pins s' I⟩) hfold hfold1) ?_
    rw [hown]
    refine iit t i h2 n ω H env σ _ W r tk ((Post.bind p').imp fun xs env1 ω1 H1 e1 r1 p1 J wk D hD => ?_)
    generalize hL : lc2L tg own (fun env => c.cond cx env) (fun env => it1.ev cx env) tg1 own1 (fun env => c1.cond cx env) (fun env => (el.ev cx env).bind fun o env => esc env o) = L at p1
    cases htot : L xs [] (wipe env1 own) with
    | ex _ _ => rw [← hL] at htot; exact (lc2L_noex htot).elim
    | no => rw [htot] at p1; exact p1.elim
    | ok ys env2 =>
      rw [htot] at p1
      have p2 : Post g cl xa n ω1 H1 σ (match fits ys.length with
        | true => Py.R.ok (.t (.vl ys)) (putBackOwn env1 env2 own)
        | false => .no) (fun o _ ω' H' => ∀ x, RO g cl xa ω' H' σ n o x → Q x H') W := p1
      cases hfit : fits ys.length with
      | false => rw [hfit] at p2; exact p2.elim
      | true =>
        rw [hfit] at p2
        have hsz := fits_ok hfit
        refine ⟨fun j m H' => m = xs.length - j ∧ j ≤ xs.length ∧ ∃ (env' : Env) (ω' : Om) (acc : List Val) (av : List V), Rel g cl xa.nf ω' H' env' (L2.wipe σ own) ∧ Ext n ω1 H1 ω' H' ∧ ω' D = some (.tmp n) ∧ H' D = some (.lst av) ∧ RVs g ω' H' acc av ∧
          L (xs.drop j) acc env' = .ok ys env2, ⟨xs.length, by simp, Nat.zero_le _, wipe env1 own, lab ω1 D (some (.tmp n)), [], [], (r1.new hD ow_lst).wipe own, new_ext r1.trk hD (fun q => nomatch q), lab_same, upd_same, rfl, htot⟩, ?_⟩
        rintro j m H' ⟨rfl, hj, env', ω', acc, av, r', x', hl, hD', hv, he⟩
        by_cases hlt : j < xs.length
        · refine .inr ⟨wk.go ω' H' j x'.kp hlt, _, fun H'' w => ⟨xs.length - (j + 1), by omega, w⟩, fun x H'' y => ?_⟩
          obtain ⟨v, hv1, hy⟩ := wk.yld ω' H' j x H'' x'.kp hlt y
          have st : ∃ ω'', Rel g cl xa.nf ω'' H'' env' (L2.wipe σ own) ∧ Ext n ω1 H1 ω'' H'' ∧ ω'' D = some (.tmp n) ∧ H'' D = some (.lst av) ∧ RVs g ω'' H'' acc av ∧ RV g ω'' H'' v x := by
            rcases hy with ⟨rfl, hy⟩ | ⟨pp, q, zs, w1, rfl, rfl, rfl, w2⟩
            · exact ⟨ω', r', x', hl, hD', hv, hy⟩
            · have kp : Kp ω' H' (lab ω' pp none) (upd H' pp (.tup zs)) := new_kp w1
              have ne : D ≠ pp := ne_of_none hD' w1
              exact ⟨lab ω' pp none, r'.new w1 ow_tup, x'.trans (new_ext r'.trk w1 (fun q => nomatch q)), by rw [lab_ne ne]; exact hl, by rw [upd_ne ne]; exact hD', hv.kp' kp, pp, zs, rfl, .inl ⟨lab_same, upd_same⟩, w2.kp' kp⟩
          obtain ⟨ω2, r2, x2, hl2, hD2, hv2, hx2⟩ := st
          rw [fetch_drop hv1, ← hL] at he
          unfold lc2L at he
          cases ha : asgV tg v env' with
          | none => simp only [ha] at he; cases he
          | some env3 =>
            simp only [ha] at he
            refine asgV_ok C.K r2 hx2 ha (fun _ _ z => by cases z) fun σ3 r3 hs hlen => ?_
            have hw : L2.wipe σ3 own = L2.wipe (L2.wipe σ own) own := lwipe_eq hlen fun z hz => hs z fun hz2 => hz (by
              cases tg with
              | n i0 =>
                have : z = i0 := by simpa [Tg.asg] using hz2
                rw [this]
                exact List.contains_iff_mem.mp (by simpa [tgIn] using h0)
              | t is =>
                have h0' : is.all own.contains = true := h0
                exact List.contains_iff_mem.mp (List.all_eq_true.mp h0' z hz2))
            have hww : L2.wipe (L2.wipe σ own) own = L2.wipe σ own := lwipe_eq (L2.wipe_length σ own) fun z hz => by rw [lwipe_get, if_neg hz]
            refine ⟨hw.trans hww, ?_⟩
            refine htt n ω2 H'' env3 σ3 _ r3 ?_
            cases hcond : c.cond cx env3 with
            | no => simp only [hcond] at he; cases he
            | ex _ _ => simp only [hcond] at he; cases he
            | ok b env4 =>
              intro ω4 H4 e4 r4
              have x4 : Ext n ω1 H1 ω4 H4 := x2.trans (e4.mono (Nat.le_succ n))
              obtain ⟨hl4, hD4'⟩ := e4.tmp n (Nat.lt_succ_self n) D hl2
              have hD4 : H4 D = some (.lst av) := hD4'.trans hD2
              cases b with
              | false =>
                simp only [hcond] at he
                rw [if_neg (fun q => nomatch q)]
                refine ⟨rfl, by omega, wipe env4 own, ω4, acc, av, ?_, x4, hl4, hD4, hv2.kp' e4.kp, by rw [← hL]; exact he⟩
                have := r4.wipe own
                rw [hw, hww] at this
                exact this
              | true =>
                simp only [hcond] at he
                rw [if_pos rfl]
                intro s H0 a l fp
                refine iit1 xa.nf _ scope (C.blk (scope := scope) s H0 a l fp) hc t1 i1 k1 (n + 1) ω4 H4 env4 σ3 _ (fun _ _ _ _ => False) r4 takes0 ?_
                show Post g cl xa.nf (n + 1) ω4 H4 σ3 (it1.ev cx env4) _ _
                cases hit : it1.ev cx env4 with
                | no => simp only [hit] at he; cases he
                | ex _ _ => simp only [hit] at he; cases he
                | ok zs env5 =>
                  simp only [hit] at he
                  intro ω5 H5 e5 r5 J1 wk1
                  obtain ⟨hl5, hD5'⟩ := e5.tmp n (Nat.lt_succ_self n) D hl4
                  have hD5 : H5 D = some (.lst av) := hD5'.trans hD4
                  cases hin2 : lcL tg1 own1 (fun env => c1.cond cx env) (fun env => (el.ev cx env).bind fun o env => esc env o) zs acc (wipe env5 own1) with
                  | no => simp only [hin2] at he; cases he
                  | ex _ _ => simp only [hin2] at he; cases he
                  | ok acc2 env6 =>
                    simp only [hin2] at he
                    refine lc_turns (xa := xa) C.K (n := n) (htt1 n) (hte n) h01 wk1 Ext.refl (r5.wipe own1) hl5 hD5 ((hv2.kp' e4.kp).kp' e5.kp) hin2 (Nat.le_trans (lc2L_len he) hsz) ?_
                    intro ω6 H6 av6 x6 r6 hl6 hD6 hv6
                    refine ⟨rfl, by omega, wipe env6 own, ω6, acc2, av6, ?_, (x4.trans (e5.mono (Nat.le_succ n))).trans x6, hl6, hD6, hv6, by rw [← hL]; exact he⟩
                    have := r6.wipe own
                    have e7 : L2.wipe (L2.wipe σ3 own1) own = L2.wipe σ3 own := lwipe_eq (L2.wipe_length σ3 own1) fun z hz => by rw [lwipe_get, if_neg fun q => hz (hin z q)]
                    rw [e7, hw, hww] at this
                    exact this
        · have hjl : j = xs.length := by omega
          subst hjl
          rw [List.drop_length, ← hL] at he
          unfold lc2L at he
          have he' : R.ok acc env' = R.ok ys env2 := he
          injection he' with q1 q2
          subst q1 q2
          exact .inl ⟨wk.stop ω' H' x'.kp, p2 ω' H' x' (Rel.back r1 x'.kp r') _ ⟨D, av, rfl, hl, hD', hv⟩⟩
  · cases h
end
end Py
set_option maxHeartbeats 1000000
namespace Py
open PySem PySem.Spec PyProof.Rows L2
/-! ### calls -/
/-- f(..), what is wanted of an exception told at the very state -/
theorem pe_callS {X : Cx} {W : WX} {k : Nat} {f : Addr} {fd : FuncData} {ps : List Str} {sp : Sp} {x : Str} {p pos : Pos} {e : Expr} {es : List Expr} {t : TA} (F : FnOk X.prog X.w X.K X.mg X.base (L2.CX X.prog X.w) k f fd ps sp) (hr : Room k X.A) (hg : Gl X x)
    (hm : X.mg x = some (.ref f)) (hk : PySem.W.keepIn X.K (.ref f) = true) (hb : Binds X.K fd ps []) (tk : Takes X W) (ha : PA X (e :: es) t) (hdb : (x == ("__debug__" : Str)) = false)
    (he : starEach (e :: es) X.env = (false, eval e X.env) :: starEach es X.env) (hpl : (backTo pos (starEach es X.env)).any (·.1) = false) :
    PE X (.Call (.Name x p) (e :: es) [] pos) (fun σ H Q => t σ H fun vs H1 => sp vs H1 Q fun cls d H' => W cls d σ H') := by
  refine ⟨fun pins s σ H Q I h => ?_⟩
  refine wpAny_Call_Name_kw (ld_glob I hg hm ?_ hdb)
  refine PySem.W.callWith_K (h₀ := X.base) I.ok.mod.kin hk (thn (ha.run pos pins s σ H _ I h) fun us s1 ⟨vs, H1, I1, r, q⟩ => ⟨I1.kIn, ?_⟩) he hpl
  have hl : us.length = ps.length := by rw [← r.length]; exact F.len _ _ _ _ q
  have hb' := hb s1 us I1.kIn (by rw [List.append_nil]; exact hl)
  rw [List.append_nil] at hb'
  refine wpAny_call (codeAny_mono (F.run X.A X.stack s1 H1 ⟨us, []⟩ us vs Q _ hr I1.env0 hb' r q) fun r s' hq => ?_)
  cases r with
  | error e => exact tk e s' (XE.of_call I1 (fun _ _ _ h => h) hq)
  | ok fl =>
    cases fl with
    | ret u => exact I1.after hq
    | next => exact False.elim hq
    | brk => exact False.elim hq
    | cont => exact False.elim hq
def idxPl (i : Nat) : List Opd → Option Nat
  | [] => none
  | .pl j :: r => if j = i then some 0 else (idxPl i r).map (· + 1)
  | .t _ :: r => (idxPl i r).map (· + 1)
/-- the callee's view -/
def omC (ω : Om) (n : Nat) (os : List Opd) : Om := fun a => match ω a with
  | none => none
  | some .tab => some .tab
  | some .rest => some .rest
  | some (.slot i) => match idxPl i os with
    | some j => some (.slot j)
    | none => some .rest
  | some (.tmp m) => if n ≤ m ∧ m < n + os.length then some (.slot (m - n)) else some .rest
/-- the caller's, behind it -/
def omR (ω ω' : Om) (n : Nat) (os : List Opd) : Om := fun a => match ω' a with
  | none => none
  | some .tab => some .tab
  | some .rest => ω a
  | some (.slot j) => match os[j]? with
    | some (.pl i) => some (.slot i)
    | _ => none
  | some (.tmp m) => if m = 0 then some (.tmp n) else none
theorem mem_pls {i : Nat} : ∀ {os : List Opd}, i ∈ plsOf os ↔ Opd.pl i ∈ os
  | [] => by simp [plsOf]
  | .pl j :: r => by
    have := mem_pls (i := i) (os := r)
    simp [plsOf, this]
  | .t _ :: r => by
    have := mem_pls (i := i) (os := r)
    simp [plsOf, this]
theorem idx_none {i : Nat} : ∀ {os : List Opd}, Opd.pl i ∉ os → idxPl i os = none
  | [], _ => rfl
  | .pl j :: r, h => by
    have h1 : j ≠ i := fun e => h (by rw [e]; exact List.mem_cons_self)
    have h2 := idx_none (i := i) (os := r) fun z => h (List.mem_cons_of_mem _ z)
    simp [idxPl, h1, h2]
  | .t _ :: r, h => by
    have h2 := idx_none (i := i) (os := r) fun z => h (List.mem_cons_of_mem _ z)
    simp [idxPl, h2]
theorem idx_at {i : Nat} : ∀ {os : List Opd} {j : Nat}, ndup (plsOf os) = true → os[j]? = some (.pl i) → idxPl i os = some j
  | [], _, _, h => by simp at h
  | .pl k :: r, 0, _, h => by
    have : k = i := by simpa using h
    simp [idxPl, this]
  | .pl k :: r, j + 1, hn, h => by
    have h' : r[j]? = some (.pl i) := by simpa using h
    obtain ⟨h1, h2⟩ := and_t (show (!(plsOf r).contains k && ndup (plsOf r)) = true from hn)
    have hk : k ≠ i := fun e => by
      have hm : i ∈ plsOf r := mem_pls.mpr (List.mem_of_getElem? h')
      rw [e] at h1
      simp [hm] at h1
    simp [idxPl, hk, idx_at h2 h']
  | .t _ :: r, 0, _, h => by simp at h
  | .t _ :: r, j + 1, hn, h => by
    have h' : r[j]? = some (.pl i) := by simpa using h
    simp [idxPl, idx_at (show ndup (plsOf r) = true from hn) h']
theorem put_back {i : Nat} {t : T} : ∀ {os : List Opd} {env : Env} {as : List T}, gt (putBack env os as) i = some t → (∃ j : Nat, os[j]? = some (Opd.pl i) ∧ as[j]? = some t) ∨ (Opd.pl i ∉ os ∧ gt env i = some t)
  | [], env, as, h => .inr ⟨by simp, h⟩
  | .pl k :: r, env, as, h => by
    rcases put_back (os := r) (env := st env k as.head?) (as := as.tail) h with ⟨j, h1, h2⟩ | ⟨h1, h2⟩
    · exact .inl ⟨j + 1, by simpa using h1, by rw [← List.getElem?_tail]; exact h2⟩
    · rw [gt_st] at h2
      by_cases e : i = k ∧ k < env.length
      · rw [if_pos e] at h2
        obtain ⟨rfl, _⟩ := e
        refine .inl ⟨0, by simp, ?_⟩
        cases as with
        | nil => simp at h2
        | cons a r => simpa using h2
      · rw [if_neg e] at h2
        have hk : i ≠ k := fun q => e ⟨q, by rw [← q]; exact gt_lt h2⟩
        exact .inr ⟨fun z => by
          rcases List.mem_cons.mp z with z | z
          · cases z; exact hk rfl
          · exact h1 z, h2⟩
  | .t _ :: r, env, as, h => by
    rcases put_back (os := r) (env := env) (as := as.tail) h with ⟨j, h1, h2⟩ | ⟨h1, h2⟩
    · exact .inl ⟨j + 1, by simpa using h1, by rw [← List.getElem?_tail]; exact h2⟩
    · exact .inr ⟨fun z => by
        rcases List.mem_cons.mp z with z | z
        · cases z
        · exact h1 z, h2⟩
theorem putBack_len : ∀ {os : List Opd} {env : Env} {as : List T}, (putBack env os as).length = env.length
  | [], _, _ => rfl
  | .pl k :: r, env, as => by show (putBack _ r _).length = _; rw [putBack_len, st_length]
  | .t _ :: r, env, as => by show (putBack _ r _).length = _; rw [putBack_len]
theorem rds_at : ∀ {os : List Opd} {env : Env} {ts : List T} {j : Nat} {t : T}, rds env os = some ts → ts[j]? = some t → ∃ o, os[j]? = some o ∧ rd env o = some t
  | [], _, _, _, _, h, h' => by cases h; simp at h'
  | o :: r, env, ts, j, t, h, h' => by
    have h : (match rd env o, rds env r with
      | some t, some ts => some (t :: ts)
      | _, _ => none) = some ts := h
    cases q1 : rd env o with
    | none => rw [q1] at h; cases h
    | some t0 =>
      cases q2 : rds env r with
      | none => rw [q1, q2] at h; cases h
      | some ts0 =>
        rw [q1, q2] at h
        cases h
        cases j with
        | zero =>
          have : t0 = t := by simpa using h'
          subst this
          exact ⟨o, by simp, q1⟩
        | succ j =>
          obtain ⟨o', w1, w2⟩ := rds_at (j := j) q2 (by simpa using h')
          exact ⟨o', by simpa using w1, w2⟩
theorem rds_len : ∀ {os : List Opd} {env : Env} {ts : List T}, rds env os = some ts → ts.length = os.length
  | [], _, _, h => by cases h; rfl
  | o :: r, env, ts, h => by
    have h : (match rd env o, rds env r with
      | some t, some ts => some (t :: ts)
      | _, _ => none) = some ts := h
    cases q1 : rd env o with
    | none => rw [q1] at h; cases h
    | some t0 =>
      cases q2 : rds env r with
      | none => rw [q1, q2] at h; cases h
      | some ts0 =>
        rw [q1, q2] at h
        cases h
        rw [List.length_cons, List.length_cons, rds_len q2]
section
variable {g : Gc} {cl : Clx} {xa : Fx} {M : Nm} {cx : EC} {sc : Scope} {k : Nat} {X : Cx} {n : Nat} {ω ω' : Om} {H H' : Hp} {σ : L2.St} {env : Env} {W : WX}
theorem ROs.len : ∀ {n : Nat} {os : List Opd} {xs : List V}, ROs g cl xa ω H σ n os xs → xs.length = os.length
  | _, [], _, h => by rw [show _ = ([] : List V) from h]; rfl
  | n, o :: os, _, ⟨x, r, e, _, h⟩ => by rw [e, List.length_cons, List.length_cons, ROs.len h]
theorem ROs.at : ∀ {n : Nat} {os : List Opd} {xs : List V} {j : Nat} {o : Opd}, ROs g cl xa ω H σ n os xs → os[j]? = some o → ∃ x, xs[j]? = some x ∧ RO g cl xa ω H σ (n + j) o x
  | _, [], _, _, _, _, h => by simp at h
  | n, o :: os, _, 0, o', ⟨x, r, e, h1, _⟩, h => by
    have : o = o' := by simpa using h
    subst this
    exact ⟨x, by rw [e]; simp, h1⟩
  | n, o :: os, _, j + 1, o', ⟨x, r, e, _, h1⟩, h => by
    obtain ⟨y, w1, w2⟩ := ROs.at (j := j) h1 (by simpa using h)
    exact ⟨y, by rw [e]; simpa using w1, by rw [show n + (j + 1) = n + 1 + j by omega]; exact w2⟩
theorem RT.arg {k : Lb} {t : T} {x : V} {cl' : Clx} {xa' : Fx} (h : RT g cl xa ω H k t x) (e : t.arg = true) : RT g cl' xa' ω H k t x := by
  cases t with
  | v v => exact h
  | vl l => exact h
  | vd _ _ => exact h
  | x _ => cases e
  | clo _ => cases e
  | cap _ => cases e
  | ob _ _ => exact h
theorem RT.none {k : Lb} {t : T} {x : V} (h : RT g none {} ω H k t x) : RT g cl xa ω H k t x := by
  cases t with
  | v v => exact h
  | vl l => exact h
  | vd _ _ => exact h
  | x _ => obtain ⟨_, h1, _⟩ := h; cases h1
  | clo _ => obtain ⟨_, _, _, q, _⟩ := h; cases q
  | cap _ => obtain ⟨_, _, _, _, q, _⟩ := h; cases q
  | ob _ _ => exact h
theorem ags_of {os : List Opd} {ts : List T} {vs : List V} (r : Rel g cl xa ω H env σ) (ro : ROs g cl xa ω H σ n os vs) (hn : ndup (plsOf os) = true) (ha : ts.all T.arg = true) (e : rds env os = some ts) :
    Ags g none (omC ω n os) H ts vs := by
  intro j t hj
  obtain ⟨o, h1, h2⟩ := rds_at e hj
  obtain ⟨x, w1, w2⟩ := ro.at h1
  have ta : t.arg = true := List.all_eq_true.mp ha t (List.mem_of_getElem? hj)
  refine ⟨x, w1, ?_⟩
  cases o with
  | t t' =>
    cases h2
    have w3 : RT g cl xa ω H (.tmp (n + j)) t x := w2
    refine RT.relabel (k := .tmp (n + j)) (fun a h => ?_) (fun a h => ?_) (w3.arg ta)
    · unfold omC; rw [h]
    · unfold omC; rw [h]
      have hl : j < os.length := (List.getElem?_eq_some_iff.mp h1).1
      simp only
      rw [if_pos ⟨Nat.le_add_right n j, by omega⟩, Nat.add_sub_cancel_left]
  | pl i =>
    have q2 := r.at' h2 w2
    refine RT.relabel (k := .slot i) (fun a h => ?_) (fun a h => ?_) (q2.arg ta)
    · unfold omC; rw [h]
    · unfold omC; rw [h]; simp only; rw [idx_at hn h1]
theorem kp_omC {os : List Opd} : Kp ω H (omC ω n os) H := fun a o h1 h2 _ => ⟨h1, by unfold omC; rw [h2]⟩
theorem kp_omR {ω' : Om} {H' : Hp} {os : List Opd} : Kp ω' H' (omR ω ω' n os) H' := fun a o h1 h2 _ => ⟨h1, by unfold omR; rw [h2]⟩
theorem omC_trk (t : Trk g ω H) {os : List Opd} : Trk g (omC ω n os) H where
  any := fun a h => t.any a fun z => h (by unfold omC; rw [z])
  tab := fun p hp => by
    obtain ⟨q1, ps, q2, q3, q4⟩ := t.tab p hp
    refine ⟨by unfold omC; rw [q1], ps, q2, q3, fun pos cv h => ?_⟩
    obtain ⟨c, c1, c2, c3⟩ := q4 pos cv h
    exact ⟨c, c1, c2, by unfold omC; rw [c3]⟩
theorem omR_trk (t : Trk g ω' H') {os : List Opd} : Trk g (omR ω ω' n os) H' where
  any := fun a h => t.any a fun z => h (by unfold omR; rw [z])
  tab := fun p hp => by
    obtain ⟨q1, ps, q2, q3, q4⟩ := t.tab p hp
    refine ⟨by unfold omR; rw [q1], ps, q2, q3, fun pos cv h => ?_⟩
    obtain ⟨c, c1, c2, c3⟩ := q4 pos cv h
    exact ⟨c, c1, c2, by unfold omR; rw [c3]⟩
theorem omR_rest {os : List Opd} (e : Ext 0 (omC ω n os) H ω' H') {a : Addr} (h : omC ω n os a = some .rest) : omR ω ω' n os a = ω a ∧ H' a = H a := by
  obtain ⟨h1, h2⟩ := e.rest a h
  exact ⟨by unfold omR; rw [h1], h2⟩
theorem omR_ext {os : List Opd} (e : Ext 0 (omC ω n os) H ω' H') : Ext n ω H (omR ω ω' n os) H' where
  kp := fun a o h1 h2 h3 => by
    obtain ⟨w1, w2⟩ := e.kp a o h1 (by unfold omC; rw [h2]) h3
    exact ⟨w1, by unfold omR; rw [w2]⟩
  rest := fun a h => by
    obtain ⟨w1, w2⟩ := omR_rest e (a := a) (by unfold omC; rw [h])
    exact ⟨by rw [w1, h], w2⟩
  tmp := fun m hm a h => by
    obtain ⟨w1, w2⟩ := omR_rest e (a := a) (by unfold omC; rw [h]; simp only; rw [if_neg (by omega)])
    exact ⟨by rw [w1, h], w2⟩
  back := fun a h => by
    unfold omR at h
    cases q : ω' a with
    | none => rw [q] at h; cases h
    | some l =>
      rw [q] at h
      cases l with
      | rest => exact h
      | slot j =>
        simp only at h
        split at h <;> cases h
      | tmp m =>
        simp only at h
        split at h <;> cases h
      | tab => cases h
theorem omR_rel {os : List Opd} {as : List T} {vs : List V} (r : Rel g cl xa ω H env σ) (ro : ROs g cl xa ω H σ n os vs) (e : Ext 0 (omC ω n os) H ω' H') (t : Trk g ω' H') (ag : Ags g none ω' H' as vs) :
    Rel g cl xa (omR ω ω' n os) H' (putBack env os as) σ where
  len := by rw [putBack_len, r.len]
  fix := r.fix
  at0 := fun i t h => by
    rcases put_back h with ⟨j, h1, h2⟩ | ⟨h1, h2⟩
    · obtain ⟨x, w1, w2⟩ := ag j t h2
      obtain ⟨y, w3, w4⟩ := ro.at h1
      rw [w1] at w3
      cases w3
      refine ⟨x, fun _ => w4, RT.relabel (k := .slot j) (fun a h => ?_) (fun a h => ?_) (w2.none)⟩
      · unfold omR; rw [h]
      · unfold omR; rw [h]; simp only; rw [h1]
    · obtain ⟨x, w1, w2⟩ := r.at0 i t h2
      refine ⟨x, w1, w2.keep (omR_ext (n := n) e).kp fun a h => ?_⟩
      obtain ⟨w1, w2⟩ := omR_rest e (a := a) (by unfold omC; rw [h]; simp only; rw [idx_none h1])
      exact ⟨by rw [w1, h], w2⟩
  trk := omR_trk t
theorem es_plain {es : Es} {l : List Expr} {env : PySem.Env} {pos : Pos} (h : es.chk M sc l = true) : (backTo pos (starEach l env)).any (·.1) = false := by
  induction l generalizing es with
  | nil => rfl
  | cons x xs ih =>
    cases es with
    | nil => cases h
    | cons e r =>
      simp only [Es.chk] at h
      obtain ⟨h1, h2⟩ := and_t h
      obtain ⟨h3, h4⟩ := and_t h1
      rw [star_eq h4]
      have := ih h2
      unfold backTo at this ⊢
      rw [List.map_cons, List.any_cons, this]
      rfl
theorem ok_call (C : Cok g M cx sc k X) {f : Nat} {es : Es} {e : Expr} (h : (E.call f es).chk M sc e = true)
    (ia : ∀ l, es.chk M sc l = true → OkA g cl xa X (fun env => es.ev cx env) l) : OkO g cl xa X (fun env => (E.call f es).ev cx env) e := by
  intro n ω H env σ Q W r tk p
  simp only [E.chk] at h
  split at h
  · next x px a as pos =>
    obtain ⟨h1, hh⟩ := and_t h
    obtain ⟨h1, hnm⟩ := and_t h1
    obtain ⟨h2, hh⟩ := and_t hh
    obtain ⟨h2, h3⟩ := and_t h2
    obtain ⟨h3, _⟩ := and_t h3
    obtain ⟨h4, hh⟩ := and_t hh
    obtain ⟨h5, h6⟩ := and_t hh
    simp only [E.ev] at p
    unfold fnAt at h1
    split at h1
    · next y hy =>
      have e1 := seq_ok h1
      subst e1
      obtain ⟨fd, ps, m1, m2, m3, m4⟩ := C.fns f y hy hnm
      have hst := star_eq h6 as X.env
      have hpl : (backTo pos (starEach as X.env)).any (·.1) = false := by
        have := es_plain (pos := pos) (env := X.env) h4
        rw [hst] at this
        unfold backTo at this ⊢
        rw [List.map_cons, List.any_cons] at this
        exact (Bool.or_eq_false_iff.mp this).2
      refine se_of (pe_callS m4 (C.room h5) (gl_ok C h2) m1 m2 m3 tk (pa_sa X (a :: as)) (by simpa using h3) hst hpl) ?_
      refine ia (a :: as) h4 n ω H env σ _ W r tk ((Post.bind p).imp fun os env1 ω1 H1 e1 r1 p1 vs ro => ?_)
      cases q1 : rds env1 os with
      | none => simp only [q1] at p1; exact p1.elim
      | some ts =>
        simp only [q1] at p1
        split at p1
        · next q2 =>
          obtain ⟨q3, q4⟩ := and_t q2
          refine ⟨ts, omC ω1 n os, by rw [ro.len, rds_len q1], ags_of r1 ro q3 q4 q1, omC_trk r1.trk, ?_⟩
          cases q5 : cx.call f ts none with
          | no => simp only [q5] at p1; exact p1.elim
          | ok t as' =>
            simp only [q5] at p1
            intro x ω' H' e' t' ag rt
            refine p1 (omR ω1 ω' n os) H' (omR_ext e') (omR_rel r1 ro e' t' ag) x ?_
            refine RT.relabel (k := .tmp 0) (fun a h => ?_) (fun a h => ?_) (rt.none)
            · unfold omR; rw [h]
            · unfold omR; rw [h]; rfl
          | ex c as' =>
            simp only [q5] at p1
            intro cls d ω' H' e' t' ag rx
            exact p1 cls d (omR ω1 ω' n os) H' σ (omR_ext e') (omR_rel r1 ro e' t' ag) (rx.kp kp_omR)
        · exact p1.elim
    · cases h1
  · cases h
end
end Py
set_option maxHeartbeats 1000000
namespace PySem
open Sem (wp)
open AutoSeq1 (wpAny_loadPart')
open PyProof.Rows
/-! ### enumerate(a tuple) -/
abbrev EnT (h : Heap) (tt : Addr) : Heap := (h.push { cls := .type "tuple_iterator", data := .fields #[.ref tt, .int 0 0] }).push { cls := .type "enumerate", data := .fields #[.none, .bool false, .ref h.objs.size, rawInt 0, .none, .none] }
theorem meets_enumT (tt : Addr) (itsT : Array Value) (nn : Nat) (od : Option Addr) (os : Array (Option Value)) :
    Meets (Builtin.«enumerate.__new__» ⟨[.type "enumerate", .ref tt], []⟩) (fun _ RR st => st.heap.get? tt = some { cls := .type "tuple", dict := od, data := .seq itsT nn, slots := os } ∧
      RR (.ok (.ret (.ref (st.heap.objs.size + 1)))) { st with heap := EnT st.heap tt }) :=
  .of_wp fun prog w A RR st hyp => by
    obtain ⟨h0, g0, d0, tk0, o0⟩ := st
    obtain ⟨hT0, hyp⟩ := hyp
    have hsubT := sub_enumerate
    have hTT : Heap.IsTuple (Shared.heap ⟨h0, g0, d0, tk0, o0⟩) tt itsT := ⟨_, hT0, rfl, nn, rfl⟩
    have hzT : (h0.push { cls := .type "tuple_iterator", data := .fields #[.ref tt, .int 0 0] }).objs.size = h0.objs.size + 1 := Heap.size_push ..
    have hyp2 : RR (.ok (.ret (.ref (h0.push { cls := .type "tuple_iterator", data := .fields #[.ref tt, .int 0 0] }).objs.size))) ⟨EnT h0 tt, g0, d0, tk0, o0⟩ := by rw [hzT]; exact hyp
    wp_walk using wpAny_loadPart' hT0
    refine wpAny_stack_any (fun _ => wpAny_pure ?_)
    split
    · rename_i cc _ _ _ _ _
      cases (cc == Value.type "enumerate")
      · wp_walk using wpAny_loadPart' hT0, wpAny_pyIter_tuple hTT
        exact ⟨_, rfl, hyp2⟩
      · wp_walk using wpAny_loadPart' hT0, wpAny_pyIter_tuple hTT
        exact ⟨_, rfl, hyp2⟩
    · wp_walk using wpAny_loadPart' hT0, wpAny_pyIter_tuple hTT
      exact ⟨_, rfl, hyp2⟩
section
variable {prog : Program} {w : World} {A : Around} {EE : Value → Shared → Prop} {s : Shared}
theorem call_enumT {tt : Addr} {itsT : Array Value} {QQ : Value → Shared → Prop} (hT0 : IsTup s.heap tt itsT)
    (fin : ∀ h2, IsEnum h2 (s.heap.objs.size + 1) s.heap.objs.size 0 .none → h2.IsTupleIter s.heap.objs.size tt 0 → (∀ b o, s.heap.get? b = some o → h2.get? b = some o) → QQ (.ref (s.heap.objs.size + 1)) { s with heap := h2 }) :
    wpAny (model prog w) A (call (.type "enumerate") [.ref tt]) QQ EE s := by
  obtain ⟨⟨c0, od, dt0, os0⟩, g0, hc0, nn, hd0⟩ := hT0
  replace hc0 : c0 = .type "tuple" := hc0
  replace hd0 : dt0 = .seq itsT nn := hd0
  subst hc0 hd0
  refine callType_new F.called_enumerate (by decide) (F.typeCall_enumerate_1 _) (F.newCall_enumerate_1 _) (fun ob => F.args_object_init_2 ob _) F.entry_enumerate_new (meets_enumT tt itsT nn od os0) ⟨g0, ?_⟩
  have hzT : (s.heap.push { cls := .type "tuple_iterator", data := .fields #[.ref tt, .int 0 0] }).objs.size = s.heap.objs.size + 1 := Heap.size_push ..
  have heT : IsEnum (EnT s.heap tt) (s.heap.objs.size + 1) s.heap.objs.size 0 .none := by
    have q := Heap.get?_push_size (s.heap.push { cls := .type "tuple_iterator", data := .fields #[.ref tt, .int 0 0] }) (o := { cls := .type "enumerate", data := .fields #[.none, .bool false, .ref s.heap.objs.size, rawInt 0, .none, .none] }) rfl
    rw [hzT] at q
    exact q
  exact ⟨⟨_, heT, rfl⟩, fin _ heT ⟨_, Heap.get?_push_of_some _ (Heap.get?_push_size _ rfl), rfl, rfl⟩ fun b o x => Heap.get?_push_of_some _ (Heap.get?_push_of_some _ x)⟩
end
end PySem
namespace Py
open PySem PySem.Spec PyProof.Rows L2
/-- the tuple at a, each item in a new pair -/
def IteT (K : PySem.W.Frag) (a : Addr) : L2.It :=
  ⟨fun i H => ∃ (xs : List V) (x : V), SqT K H a xs ∧ xs[i]? = some x, fun i H v H' => ∃ T x, v = .ref T ∧ H T = none ∧ H' = upd H T (.tup [.int (i : Nat), x]) ∧ ∀ xs, SqT K H a xs → xs[i]? = some x, fun i H => ∃ xs : List V, SqT K H a xs ∧ xs.length = i⟩
theorem two_mem {b e it : Addr} (h : b ∈ [e, it]) : b = e ∨ b = it := by simpa using h
theorem turn_enumT {P : Program} {w : World} {K : PySem.W.Frag} {elts : List Expr} {kk : Nat} {tpos : Pos} (a e it : Addr) :
    Turn P w K (.Tuple elts kk tpos) (IteT K a) [e, it] e (fun i h => (∃ old, IsEnum h e it ((i : Nat) : Int) old) ∧ h.IsTupleIter it a i ∧ e ≠ it) where
  mem := by simp
  obj := fun i h st b hb => by
    obtain ⟨⟨old, he⟩, ⟨o, ho, hc, hd⟩, _⟩ := st
    rcases two_mem hb with rfl | rfl
    · exact ⟨_, he, fun _ z => nomatch z⟩
    · exact ⟨o, ho, fun _ z => by rw [hd] at z; cases z⟩
  keep := fun i h h' st k => by
    obtain ⟨⟨old, he⟩, hi, hne⟩ := st
    exact ⟨⟨old, k e (by simp) _ he⟩, hi.at fun o z => k it (by simp) o z, hne⟩
  item := by
    intro X hP hw hK hc i pins s σ H E I hf st hg
    subst hP hw hK
    obtain ⟨⟨old, he⟩, hit, hne⟩ := st
    obtain ⟨xs, x, hq, hx⟩ := hg
    obtain ⟨its, rv, p, hz⟩ := I.tuple hq
    obtain ⟨u, hu, ru⟩ := rv.get hx
    have pT : s.heap.IsTuple a its.toArray := p
    have hel : e < s.heap.objs.size := Heap.lt_size he
    have hil : it < s.heap.objs.size := by obtain ⟨_, z, _⟩ := hit; exact Heap.lt_size z
    have nei : a ≠ it := fun z => by
      obtain ⟨o1, g1, c1, _⟩ := pT
      obtain ⟨o2, g2, c2, _⟩ := hit
      rw [z, g2] at g1; cases g1; exact absurd (Value.type.inj (c1.symm.trans c2)) (by decide)
    have nee : a ≠ e := fun z => by
      obtain ⟨o1, g1, c1, _⟩ := pT
      rw [z, he] at g1; cases g1; exact absurd (Value.type.inj c1) (by decide)
    have D := Draws.tuple (prog := X.prog) (w := X.w) (A := X.A.in1) (by exact I.ok.hd hc) it a nei its.toArray
    have hlt : i < its.toArray.size := by
      have := rv.length
      have : i < xs.length := (List.getElem?_eq_some_iff.mp hx).1
      simp; omega
    refine wpAny_pyNext_enum_itemD D he ⟨hit, pT⟩ hlt hne (by simp [hne, Ne.symm nee]) fun y h' tk hP ho hst' hT hsz hk => ?_
    have hy : y = u := by
      have : its.toArray[i]? = some y := hP
      have h2 : its[i]? = some y := by simpa using this
      rw [hu] at h2; cases h2; rfl
    subst hy
    refine ⟨_, rfl, wpAny_letOwnedTupleGo_enum (s := { s with heap := h', toks := tk + 1 }) ho fun h'' he' sb => ?_⟩
    have hT2 : h''.get? s.heap.objs.size = some { cls := .type "tuple", data := .seq #[.int i tk, y] } := (sb.2 _ (Nat.ne_of_gt hel)).trans hT
    have new : ObjOk X.prog X.w (upd H s.heap.objs.size (.tup [.int (i : Nat), x])) h'' s.heap.objs.size (.tup [.int (i : Nat), x]) := ⟨by show 2 ≤ sizeLine; decide, [.int i tk, y], .cons ⟨_, rfl⟩ (.cons ru .nil), ⟨_, hT2, rfl, _, rfl⟩⟩
    have I1 : Inv X pins σ (upd H s.heap.objs.size (.tup [.int (i : Nat), x])) { s with heap := h'', toks := tk + 1 } := I.turnedNew (ch := [e, it]) (fun b o hb q => (sb.2 b (fun z => hb (by simp [z]))).trans (hk b o (fun z => hb (by simp [z])) (fun z => hb (by simp [z])) q)) hf (Nat.le_refl _) new
    refine ⟨.ref s.heap.objs.size, _, I1, rfl, ⟨_, x, rfl, I.hok.fresh (Nat.le_refl _), rfl, fun ys hy => by rw [I.tuple_inj hy hq]; exact hx⟩, ⟨⟨y, ?_⟩, hst'.1.at fun o z => (sb.2 it (Ne.symm hne)).trans z, hne⟩, fun b hb => ?_⟩
    · rw [show ((i + 1 : Nat) : Int) = (i : Int) + 1 by omega]; exact he'
    · have hb' : b < s.heap.objs.size := by
        rcases two_mem hb with z | z
        · rw [z]; exact hel
        · rw [z]; exact hil
      rw [upd_ne (Nat.ne_of_lt hb')]
      exact (hf b hb).1
  done := by
    intro X hP hw hK hc i pins s σ H E I hf st hg
    subst hP hw hK
    obtain ⟨⟨old, he⟩, hit, hne⟩ := st
    obtain ⟨xs, hq, hx⟩ := hg
    obtain ⟨its, rv, p, hz⟩ := I.tuple hq
    have pT : s.heap.IsTuple a its.toArray := p
    have nei : a ≠ it := fun z => by
      obtain ⟨o1, g1, c1, _⟩ := pT
      obtain ⟨o2, g2, c2, _⟩ := hit
      rw [z, g2] at g1; cases g1; exact absurd (Value.type.inj (c1.symm.trans c2)) (by decide)
    have D := Draws.tuple (prog := X.prog) (w := X.w) (A := X.A.in1) (by exact I.ok.hd hc) it a nei its.toArray
    obtain ⟨f0, f1, f2, f3, f4, f5⟩ := hf it (by simp)
    have hl := rv.length
    have hi : i = its.toArray.size := by simp; omega
    subst hi
    exact wpAny_pyNext_enum_endD D he ⟨hit, pT⟩ fun h' eb => ⟨rfl, I.turned (t' := s.toks) (fun b o hb z => eb b o hb z) f0 f1 f3 f4 f5⟩
  self := fun A i s Q E st h => let ⟨⟨_, he⟩, _⟩ := st; wpAny_pyIter_enum he h
def iEnumA (K : PySem.W.Frag) (ta : TA) : TI := fun σ H R => ta σ H fun vs H1 => ∃ a xs, vs = [.ref a] ∧ ((SqL K H1 a xs ∧ R (Ite K a) H1) ∨ (SqT K H1 a xs ∧ R (IteT K a) H1))
theorem pi_enumA {X : Cx} {e : Expr} {ta : TA} {p pos tpos : Pos} {elts : List Expr} {kk : Nat} (hg : Gl X "enumerate") (hm : X.mg "enumerate" = none) (ha : PA X [e] ta) (hs : starEach [e] X.env = [(false, eval e X.env)]) :
    PI X (.Tuple elts kk tpos) (.Call (.Name "enumerate" p) [e] [] pos) (iEnumA X.K ta) := by
  refine ⟨fun pins s σ H R I h => ?_⟩
  refine Call_ (ld_blt I hg hm boot_enumerate (PyProof.Rows.callWith_type1 (thn (ha.run pos pins s σ H _ I h) fun us s1 ⟨vs, H1, I1, r1, q1⟩ => ?_) hs rfl))
  obtain ⟨a, xs, ex, q⟩ := q1
  subst ex
  cases r1 with
  | cons r rr =>
    cases rr
    cases r
    have fresh : ∀ b, b ∈ [s1.heap.objs.size + 1, s1.heap.objs.size] → FpOk X pins H1 b := fun b hb => by
      have hle : s1.heap.objs.size ≤ b := by
        rcases two_mem hb with z | z
        · rw [z]; exact Nat.le_add_right _ _
        · rw [z]; exact Nat.le_refl _
      exact I1.fpOk hle (I1.hok.fresh hle)
    rcases q with ⟨hq, q⟩ | ⟨hq, q⟩
    · obtain ⟨its, rv, p', hz⟩ := I1.list hq
      refine call_enumerate_list p'.isList fun h' he hit hsz hk => wpAny_pyIter_enum he ?_
      exact ⟨s1.heap.objs.size + 1, [s1.heap.objs.size + 1, s1.heap.objs.size], _, _, H1, rfl, I1.kept (t' := s1.toks) hk, turn_enum a (s1.heap.objs.size + 1) s1.heap.objs.size, ⟨⟨.none, he⟩, hit, Nat.succ_ne_self _⟩, fresh, q⟩
    · obtain ⟨its, rv, p', hz⟩ := I1.tuple hq
      refine call_enumT p' fun h' he hit hk => wpAny_pyIter_enum he ?_
      exact ⟨s1.heap.objs.size + 1, [s1.heap.objs.size + 1, s1.heap.objs.size], _, _, H1, rfl, I1.kept (t' := s1.toks) hk, turn_enumT a (s1.heap.objs.size + 1) s1.heap.objs.size, ⟨⟨.none, he⟩, hit, Nat.succ_ne_self _⟩, fresh, q⟩
section
variable {g : Gc} {cl : Clx} {xa : Fx} {M : Nm} {cx : EC} {sc : Scope} {k : Nat} {X : Cx} {n : Nat} {ω : Om} {H : Hp} {σ : L2.St} {env : Env} {W : WX}
theorem enum_length (n : Nat) (l : List Val) : (enum n l).length = l.length := by
  induction l generalizing n with
  | nil => rfl
  | cons x r ih => show (enum (n + 1) r).length + 1 = _; rw [ih]; rfl
theorem enum_get (l : List Val) : ∀ (n i : Nat) (v : Val), l[i]? = some v → (enum n l)[i]? = some (.tup [.int ((n + i : Nat) : Int), v]) := by
  induction l with
  | nil => intro n i v h; simp at h
  | cons x r ih =>
    intro n i v h
    cases i with
    | zero =>
      have : x = v := by simpa using h
      rw [this]; rfl
    | succ i =>
      have := ih (n + 1) i v (by simpa using h)
      rw [show n + (i + 1) = n + 1 + i by omega]
      simpa [enum] using this
theorem wk_enum {a : Addr} {xs : List V} {l : List Val} {J : L2.It} (hl : xs.length ≤ sizeLine) (hv : RVs g ω H l xs)
    (h1 : ∀ ω' H', Kp ω H ω' H' → (J = Ite g.K a ∧ SqL g.K H' a xs) ∨ (J = IteT g.K a ∧ SqT g.K H' a xs)) : Wk g ω H J (enum 0 l) where
  len := by rw [enum_length, ← hv.length]; exact hl
  go := fun ω' H' i kp hi => by
    rw [enum_length, ← hv.length] at hi
    rcases h1 ω' H' kp with ⟨e, q⟩ | ⟨e, q⟩
    · rw [e]; exact ⟨xs, xs[i]'hi, q, by simp [hi]⟩
    · rw [e]; exact ⟨xs, xs[i]'hi, q, by simp [hi]⟩
  stop := fun ω' H' kp => by
    rw [enum_length, ← hv.length]
    rcases h1 ω' H' kp with ⟨e, q⟩ | ⟨e, q⟩
    · rw [e]; exact ⟨xs, q, Nat.le_refl _⟩
    · rw [e]; exact ⟨xs, q, rfl⟩
  yld := fun ω' H' i x H'' kp hi y => by
    rw [enum_length] at hi
    obtain ⟨v, hv1⟩ : ∃ v, l[i]? = some v := ⟨l[i], by simp [hi]⟩
    obtain ⟨z, z1, z2⟩ := hv.get hv1
    have fin : ∀ (T : Addr) (y : V), H' T = none → xs[i]? = some y → x = .ref T → H'' = upd H' T (.tup [.int (i : Nat), y]) → ∃ v, (enum 0 l)[i]? = some v ∧ ((H'' = H' ∧ RV g ω' H' v x) ∨ ∃ (p : Addr) (q : List Val) (xs : List V), H' p = none ∧ H'' = upd H' p (.tup xs) ∧ x = .ref p ∧ v = .tup q ∧ RVs g ω' H' q xs) := fun T y e1 e2 e3 e4 => by
      rw [z1] at e2
      cases e2
      refine ⟨_, enum_get l 0 i v hv1, .inr ⟨T, _, _, e1, e4, e3, rfl, ?_⟩⟩
      exact ⟨_, _, rfl, by rw [Nat.zero_add]; rfl, _, _, rfl, z2.kp' kp, rfl⟩
    rcases h1 ω' H' kp with ⟨e, q⟩ | ⟨e, q⟩
    · rw [e] at y
      obtain ⟨T, w, e1, e2, e3, e4⟩ := y
      exact fin T w e2 (e4 xs q) e1 e3
    · rw [e] at y
      obtain ⟨T, w, e1, e2, e3, e4⟩ := y
      exact fin T w e2 (e4 xs q) e1 e3
/-- an operand's items, made frozen -/
theorem itemsE_ok {o : Opd} {x : V} {l : List Val} {env' : Env} (r : Rel g cl xa ω H env σ) (ro : RO g cl xa ω H σ n o x) (e : itemsE env o = .ok l env') :
    ∃ ω' a xs, Ext n ω H ω' H ∧ Above n ω H ω' H ∧ Rel g cl xa ω' H env' σ ∧ x = .ref a ∧ RVs g ω' H l xs ∧ ((∀ ω2 H2, Kp ω' H ω2 H2 → SqL g.K H2 a xs) ∨ (∀ ω2 H2, Kp ω' H ω2 H2 → SqT g.K H2 a xs)) := by
  unfold itemsE at e
  cases z : esc env o with
  | no => rw [z] at e; cases e
  | ex _ _ => exact (esc_noex z).elim
  | ok v env2 =>
    rw [z] at e
    obtain ⟨ω', x1, x2, r2, v2⟩ := esc_ok r ro z
    cases v with
    | tup q =>
      cases e
      obtain ⟨a, xs, w1, w2, w3⟩ := v2
      exact ⟨ω', a, xs, x1, x2, r2, w1, w3, .inr fun ω2 H2 kp => (w2.kp kp).sq⟩
    | lst q =>
      cases e
      obtain ⟨a, xs, w1, w2, w3, w4⟩ := v2
      exact ⟨ω', a, xs, x1, x2, r2, w1, w4, .inl fun ω2 H2 kp => .inl (.inl (kp a _ w3 w2 (fun _ z => nomatch z)).1)⟩
    | _ => cases e
theorem itemsE_noex {o : Opd} {x : Exc} {env' : Env} (e : itemsE env o = .ex x env') : False := by
  unfold itemsE at e
  cases z : esc env o with
  | no => rw [z] at e; cases e
  | ex _ _ => exact (esc_noex z).elim
  | ok v env2 =>
    rw [z] at e
    cases v <;> cases e
theorem pa_fit {X : Cx} {es : List Expr} {t : TA} (h : PA X es t) : PA X es (fun σ H Q => t σ H fun xs H1 => Fit X.K H1 → Q xs H1) :=
  ⟨fun pos pins s σ H Q I q => thn (h.run pos pins s σ H _ I q) fun v s1 ⟨x, H1, I1, r1, q1⟩ => ⟨x, H1, I1, r1, q1 ⟨fun a xs h => let ⟨_, _, _, z⟩ := I1.tuple h; z, fun a xs h => let ⟨_, _, _, z⟩ := I1.list h; z⟩⟩⟩
theorem ok_it_enu (C : Cok g M cx sc k X) {a : E} {tg e : Expr} (h : (It.enu a).chk M sc tg e = true) (ia : ∀ e, a.chk M sc e = true → OkO g cl xa X (fun env => a.ev cx env) e) :
    OkI g cl xa X (fun env => (It.enu a).ev cx env) tg e := by
  intro n ω H env σ R W r tk p
  simp only [It.chk] at h
  split at h
  · next x px y pos =>
    obtain ⟨h1, hh⟩ := and_t h
    obtain ⟨h0, h1⟩ := and_t h1
    obtain ⟨h2, h3⟩ := and_t hh
    obtain ⟨e1, e2, e3⟩ := blt_ok C h1
    subst e1
    have hst := star_eq h3 [] X.env
    have p' : Post g cl xa n ω H σ ((It.enu a).ev cx env) (fun l _ ω' H' => ∀ J, Wk g ω' H' J l → R J H') W := p
    simp only [It.ev] at p'
    cases tg with
    | Tuple elts kk tpos =>
      refine si_of (pi_enumA e2 e3 (pa_fit (pa_cons (pe_se X y) pa_nil hst)) hst) (ia y h2 n ω H env σ _ W r tk ((Post.bind p').imp fun o env1 ω1 H1 x1 r1 p1 z ro fit => ?_))
      cases q : itemsE env1 o with
      | no => rw [q] at p1; exact p1.elim
      | ex _ _ => exact (itemsE_noex q).elim
      | ok l env2 =>
        rw [q] at p1
        obtain ⟨ω2, b, xs, w1, _, w2, w3, w4, w5⟩ := itemsE_ok r1 ro q
        subst w3
        rcases w5 with w5 | w5
        · have sq := w5 ω2 H1 Kp.refl
          exact ⟨b, xs, rfl, .inl ⟨C.K ▸ sq, C.K ▸ p1 ω2 H1 w1 w2 _ (wk_enum (fit.2 b xs (C.K ▸ sq)) w4 fun ω' H' kp => .inl ⟨rfl, w5 ω' H' kp⟩)⟩⟩
        · have sq := w5 ω2 H1 Kp.refl
          exact ⟨b, xs, rfl, .inr ⟨C.K ▸ sq, C.K ▸ p1 ω2 H1 w1 w2 _ (wk_enum (fit.1 b xs (C.K ▸ sq)) w4 fun ω' H' kp => .inr ⟨rfl, w5 ω' H' kp⟩)⟩⟩
    | _ => cases h0
  · cases h
/-! ### zip -/
theorem zip_length : ∀ (l q : List Val), (zipV l q).length = min l.length q.length
  | [], _ => by simp [zipV]
  | _ :: _, [] => by simp [zipV]
  | x :: r, y :: q => by
    show (zipV r q).length + 1 = _
    rw [zip_length r q, List.length_cons, List.length_cons]; omega
theorem zip_get : ∀ (l q : List Val) (i : Nat) (v u : Val), l[i]? = some v → q[i]? = some u → (zipV l q)[i]? = some (.tup [v, u])
  | [], _, _, _, _, h, _ => by simp at h
  | _ :: _, [], _, _, _, _, h => by simp at h
  | x :: r, y :: q, 0, v, u, h, h' => by
    have e1 : x = v := by simpa using h
    have e2 : y = u := by simpa using h'
    rw [e1, e2]; rfl
  | x :: r, y :: q, i + 1, v, u, h, h' => by
    have := zip_get r q i v u (by simpa using h) (by simpa using h')
    simpa [zipV] using this
theorem wk_zip {a b : Addr} {xs ys : List V} {l q : List Val} {J : L2.It} (hl : xs.length ≤ sizeLine) (hv : RVs g ω H l xs) (hu : RVs g ω H q ys)
    (h1 : ∀ ω' H', Kp ω H ω' H' → (J = Itz g.K a b ∧ SqL g.K H' a xs ∧ SqL g.K H' b ys) ∨ (J = RZ.ItzT g.K a b ∧ SqT g.K H' a xs ∧ SqT g.K H' b ys)) : Wk g ω H J (zipV l q) := by
  have hn := hv.length
  have hm := hu.length
  refine ⟨by rw [zip_length]; omega, fun ω' H' i kp hi => ?_, fun ω' H' kp => ?_, fun ω' H' i x H'' kp hi y => ?_⟩
  · rw [zip_length] at hi
    have i1 : i < xs.length := by omega
    have i2 : i < ys.length := by omega
    rcases h1 ω' H' kp with ⟨e, q1, q2⟩ | ⟨e, q1, q2⟩
    · rw [e]; exact ⟨xs, ys, xs[i]'i1, ys[i]'i2, q1, q2, by simp [i1], by simp [i2]⟩
    · rw [e]; exact ⟨xs, ys, xs[i]'i1, ys[i]'i2, q1, q2, by simp [i1], by simp [i2]⟩
  · rw [zip_length]
    have fin : xs.length ≤ min l.length q.length ∨ ys.length ≤ min l.length q.length := by omega
    rcases h1 ω' H' kp with ⟨e, q1, q2⟩ | ⟨e, q1, q2⟩
    · rw [e]; exact ⟨xs, ys, q1, q2, fin⟩
    · rw [e]; exact ⟨xs, ys, q1, q2, fin⟩
  · rw [zip_length] at hi
    obtain ⟨v, hv1⟩ : ∃ v, l[i]? = some v := ⟨l[i]'(by omega), List.getElem?_eq_getElem (by omega)⟩
    obtain ⟨u, hu1⟩ : ∃ u, q[i]? = some u := ⟨q[i]'(by omega), List.getElem?_eq_getElem (by omega)⟩
    obtain ⟨z, z1, z2⟩ := hv.get hv1
    obtain ⟨y0, y1, y2⟩ := hu.get hu1
    have fin : ∀ (T : Addr) (c d : V), H' T = none → xs[i]? = some c → ys[i]? = some d → x = .ref T → H'' = upd H' T (.tup [c, d]) → ∃ v, (zipV l q)[i]? = some v ∧ ((H'' = H' ∧ RV g ω' H' v x) ∨ ∃ (p : Addr) (q : List Val) (xs : List V), H' p = none ∧ H'' = upd H' p (.tup xs) ∧ x = .ref p ∧ v = .tup q ∧ RVs g ω' H' q xs) := fun T c d e1 e2 e3 e4 e5 => by
      rw [z1] at e2; cases e2
      rw [y1] at e3; cases e3
      exact ⟨_, zip_get l q i v u hv1 hu1, .inr ⟨T, _, _, e1, e5, e4, rfl, _, _, rfl, z2.kp' kp, _, _, rfl, y2.kp' kp, rfl⟩⟩
    rcases h1 ω' H' kp with ⟨e, q1, q2⟩ | ⟨e, q1, q2⟩
    · rw [e] at y
      obtain ⟨T, c, d, e1, e2, e3, e4, e5⟩ := y
      exact fin T c d e2 (e4 xs q1) (e5 ys q2) e1 e3
    · rw [e] at y
      obtain ⟨T, c, d, e1, e2, e3, e4, e5⟩ := y
      exact fin T c d e2 (e4 xs q1) (e5 ys q2) e1 e3
theorem ok_it_zip (C : Cok g M cx sc k X) {a b : E} {tg e : Expr} (h : (It.zip a b).chk M sc tg e = true) (ia : ∀ e, a.chk M sc e = true → OkO g cl xa X (fun env => a.ev cx env) e) (ib : ∀ e, b.chk M sc e = true → OkO g cl xa X (fun env => b.ev cx env) e) :
    OkI g cl xa X (fun env => (It.zip a b).ev cx env) tg e := by
  intro n ω H env σ R W r tk p
  simp only [It.chk] at h
  split at h
  · next x px y z pos =>
    obtain ⟨h1, hh⟩ := and_t h
    obtain ⟨h0, h1⟩ := and_t h1
    obtain ⟨h2, h3⟩ := and_t hh
    obtain ⟨h2, h4⟩ := and_t h2
    obtain ⟨h3, h5⟩ := and_t h3
    obtain ⟨e1, e2, e3⟩ := blt_ok C h1
    subst e1
    have hst := star_eq h4 [z] X.env
    have hst2 := star_eq h5 [] X.env
    have p' : Post g cl xa n ω H σ ((It.zip a b).ev cx env) (fun l _ ω' H' => ∀ J, Wk g ω' H' J l → R J H') W := p
    simp only [It.ev] at p'
    cases tg with
    | Tuple elts kk tpos =>
      refine si_of (RZ.pi_zipA e2 e3 (pa_fit (pa_cons (pe_se X y) (pa_cons (pe_se X z) pa_nil hst2) hst)) hst (by rw [hst2]; rfl)) ?_
      refine ia y h2 n ω H env σ _ W r tk ((Post.bind p').imp fun o env1 ω1 H1 x1 r1 p1 u ro => ?_)
      refine ib z h3 (n + 1) ω1 H1 env1 σ _ W r1 tk (((Post.bind p1).up (Nat.le_succ n)).imp fun o2 env2 ω2 H2 x2 r2 p2 v ro2 => ?_)
      intro fit
      have ro1 := ro.ext x2 (Nat.lt_succ_self n)
      cases q : esc env2 o with
      | no => rw [q] at p2; exact p2.elim
      | ex _ _ => exact (esc_noex q).elim
      | ok s env3 =>
        rw [q] at p2
        obtain ⟨ω3, y1, y2, r3, v3⟩ := esc_ok r2 ro1 q
        have p3 : Post g cl xa n ω2 H2 σ ((esc env3 o2).bind fun y env => match zipF s y with
          | some l => Py.R.ok l env
          | none => .no) (fun l _ ω' H' => ∀ J, Wk g ω' H' J l → R J H') W := p2
        have ro3 : RO g cl xa ω3 H2 σ (n + 1) o2 v := by
          cases o2 with
          | t t => exact RT.keep y1.kp (y2 (n + 1) (Nat.lt_succ_self n)) ro2
          | pl i => exact ro2
        cases q2 : esc env3 o2 with
        | no => rw [q2] at p3; exact p3.elim
        | ex _ _ => exact (esc_noex q2).elim
        | ok s2 env4 =>
          rw [q2] at p3
          obtain ⟨ω4, z1, z2, r4, v4⟩ := esc_ok r3 ro3 q2
          have v3' := RV.kp' z1.kp v3
          have ex4 : Ext n ω2 H2 ω4 H2 := y1.trans (z1.mono (Nat.le_succ n))
          have p4 : Post g cl xa n ω2 H2 σ (match zipF s s2 with
            | some l => Py.R.ok l env4
            | none => .no) (fun l _ ω' H' => ∀ J, Wk g ω' H' J l → R J H') W := p3
          unfold zipF at p4
          split at p4
          · next l q5 =>
            split at q5
            · cases q5
              obtain ⟨c, xs, w1, w2, w3⟩ := v3'
              obtain ⟨d, ys, u1, u2, u3⟩ := v4
              subst w1 u1
              exact ⟨c, d, xs, ys, rfl, .inr ⟨C.K ▸ w2.sq, C.K ▸ u2.sq, C.K ▸ p4 ω4 H2 ex4 r4 _ (wk_zip (fit.1 c xs (C.K ▸ w2.sq)) w3 u3 fun ω' H' kp => .inr ⟨rfl, (w2.kp kp).sq, (u2.kp kp).sq⟩)⟩⟩
            · cases q5
              obtain ⟨c, xs, w1, w2, w3, w4⟩ := v3'
              obtain ⟨d, ys, u1, u2, u3, u4⟩ := v4
              subst w1 u1
              exact ⟨c, d, xs, ys, rfl, .inl ⟨.inl (.inl w3), .inl (.inl u3), C.K ▸ p4 ω4 H2 ex4 r4 _ (wk_zip (fit.2 c xs (.inl (.inl w3))) w4 u4 fun ω' H' kp => .inl ⟨rfl, .inl (.inl (kp c _ w3 w2 (fun _ z => nomatch z)).1), .inl (.inl (kp d _ u3 u2 (fun _ z => nomatch z)).1)⟩)⟩⟩
            · cases q5
          · exact p4.elim
    | _ => cases h0
  · cases h
end
end Py
set_option maxHeartbeats 1000000
namespace Py
open PySem PySem.Spec PyProof.Rows L2
section
variable {g : Gc} {cl : Clx} {xa : Fx} {M : Nm} {cx : EC} {sc : Scope} {k : Nat} {X : Cx} {n : Nat} {ω : Om} {H : Hp} {σ : L2.St} {env : Env} {W : WX}
/-! ### isinstance of the error that is held -/
def Xok (xa : Fx) (M : Nm) (cx : EC) (X : Cx) : Prop := M.calm = false → ∀ c y dd, xa.e = some (c, y, dd) → ∀ (d : Nat) (x : Str), M.exs[d]? = some x → ∃ v, (Gl X x → (x == ("__debug__" : Str)) = false → ∀ p, PE X (.Name x p) (tC v)) ∧
  ∀ H Q, (∀ dx, dd = some dx → ∃ fs, H dx = some (.xd fs)) → Q (.bl (cx.sub c d)) H → SCall X (.builtin "isinstance") [y, v] H Q
theorem Xok.calm (h : M.calm = true) : Xok xa M cx X := fun z => by rw [h] at z; cases z
theorem ok_isx (C : Cok g M cx sc k X) (O : Xok xa M cx X) {i c : Nat} {e : Expr} (h : (E.isx i c).chk M sc e = true) : OkO g cl xa X (fun env => (E.isx i c).ev cx env) e := by
  intro n ω H env σ Q W r tk p
  simp only [E.chk] at h
  split at h
  · next x px y py z pz pos =>
    obtain ⟨h1, h2⟩ := and_t h
    obtain ⟨h0, h1⟩ := and_t h1
    obtain ⟨h2, h3⟩ := and_t h2
    obtain ⟨h3, h4⟩ := and_t h3
    obtain ⟨h4, h5⟩ := and_t h4
    obtain ⟨h5, _⟩ := and_t h5
    obtain ⟨e1, e2, e3⟩ := blt_ok C h1
    subst e1
    obtain ⟨v1, v2, v3, v4⟩ := vis_ok C h2
    simp only [E.ev] at p
    split at p
    · next t hx =>
      obtain ⟨w, w1, dd, w2, w3⟩ := r.at_ i _ hx
      have w4 : ∀ dx, dd = some dx → ∃ fs, H dx = some (.xd fs) := fun dx e => by
        subst e
        obtain ⟨_, _, _, _, q, _⟩ := w3
        exact ⟨_, q⟩
      unfold exAt at h3
      split at h3
      · next u hu =>
        have e4 := seq_ok h3
        subst e4
        obtain ⟨v, q1, q2⟩ := O (by simpa using h0) _ _ dd w2 c _ hu
        refine se_of (pe_callB (id := "isinstance") (callr X _) e2 e3 (by decide +kernel) (pa_cons (pe_var v1 v2 v3 v4) (pa_cons (q1 (gl_ok C h4) (by simpa using h5) pz) pa_nil)) (by decide) (by decide)) ?_
        exact ⟨w, w1, q2 H Q w4 (Post.here (a := Opd.t (.v (.bool (cx.sub t.c c)))) r p _ rfl)⟩
      · cases h3
    · exact p.elim
  · cases h
/-! ### what was handed over is called -/
def CloOk (g : Gc) (cl : Clx) (xa : Fx) (M : Nm) (cx : EC) (X : Cx) : Prop := M.clo = true → ∀ c, cx.clo = some c → xa.F = [] ∧ ∀ x ca ω0 H0, cl = some (x, ca, ω0, H0) → ∃ a, M.N[0]? = some a ∧ ∀ p1 p2 (pn : List (Addr × Obj)) (xe : Value → Shared → Prop) (W : WX) σ ω H Q gs, Takes (X.tr pn xe) W → σ[0]? = some (some x) → Kp ω0 H0 ω H → Trk g ω H → CapOk g ω H (.slot 0) ca gs →
  CPost g none ω H (capV ca) (c gs) Q (fun cls d H' => W cls d (List.replicate σ.length none) H') → SE (X.tr pn xe) (.Call (.Name a p1) [] [] p2) σ H Q
theorem CloOk.off (h : M.clo = false) : CloOk g cl xa M cx X := fun z => by rw [h] at z; cases z
theorem gt_map_none (env : Env) (i : Nat) : gt (env.map fun _ => none) i = none := by
  induction env generalizing i with
  | nil => rfl
  | cons x r ih =>
    cases i with
    | zero => rfl
    | succ i => exact ih i
theorem omC_zero {a : Addr} (h : ω a = some (.slot 0)) : omC ω n [.pl 0] a = some (.slot 0) := by
  unfold omC; rw [h]; rfl
theorem omR_zero {ω' : Om} {a : Addr} (h : ω' a = some (.slot 0)) : omR ω ω' n [.pl 0] a = some (.slot 0) := by
  unfold omR; rw [h]; rfl
theorem nx_cap {ω' : Om} {H' : Hp} {ca : Option Addr} {gs gs' : Option (List Val)} {as : List T} {l : Lb} (h : nxG gs as = some gs') (c : CapOk g ω H l ca gs) (ag : Ags g none ω' H' as (capV ca)) : CapOk g ω' H' (.slot 0) ca gs' := by
  unfold nxG at h
  split at h
  · cases h
    cases ca with
    | none => trivial
    | some a => exact c.elim
  · next l0 l1 =>
    cases h
    cases ca with
    | none => exact c.elim
    | some a =>
      obtain ⟨x, h1, b, xs, h2, h3, h4, h5⟩ := ag 0 (.vl l1) rfl
      cases h1
      cases h2
      exact ⟨h3, xs, h4, h5⟩
  · cases h
/-- behind the call of what was handed over -/
theorem omR_clo {ω' : Om} {H' : Hp} {t : T} (r : Rel g cl xa ω H env σ) (e : Ext 0 (omC ω n [.pl 0]) H ω' H') (tr : Trk g ω' H') (ht : ∃ x, (t.isCap = false → σ[0]? = some (some x)) ∧ RT g cl xa (omR ω ω' n [.pl 0]) H' (.slot 0) t x) :
    Rel g cl xa (omR ω ω' n [.pl 0]) H' (st env 0 (some t)) σ where
  len := by rw [st_length, r.len]
  fix := r.fix
  at0 := fun i u h => by
    rw [gt_st] at h
    by_cases z : i = 0 ∧ 0 < env.length
    · rw [if_pos z] at h; cases h
      rw [z.1]; exact ht
    · rw [if_neg z] at h
      have hi : Opd.pl i ∉ [Opd.pl 0] := fun q => by
        rcases List.mem_cons.mp q with q | q
        · cases q; exact z ⟨rfl, gt_lt h⟩
        · cases q
      obtain ⟨x, w1, w2⟩ := r.at0 i u h
      refine ⟨x, w1, w2.keep (omR_ext (n := n) e).kp fun a h => ?_⟩
      obtain ⟨w1, w2⟩ := omR_rest e (a := a) (by unfold omC; rw [h]; simp only; rw [idx_none hi])
      exact ⟨by rw [w1, h], w2⟩
  trk := omR_trk tr
theorem ok_cloc (O : CloOk g cl xa M cx X) {i : Nat} {e : Expr} (h : (E.cloc i).chk M sc e = true) : OkO g cl xa X (fun env => (E.cloc i).ev cx env) e := by
  intro n ω H env σ Q W r tk p
  simp only [E.chk] at h
  split at h
  · next x px pos =>
    obtain ⟨h1, h2⟩ := and_t h
    obtain ⟨h0, h1⟩ := and_t h1
    have hi := of_decide_eq_true h1
    subst hi
    have O := O h0
    simp only [E.ev] at p
    split at p
    · next gs F hc hk =>
      obtain ⟨y, w1, ca, ω0, H0, w2, w3, w4⟩ := r.at_ 0 _ hc
      obtain ⟨a, a1, a2⟩ := (O F hk).2 y ca ω0 H0 w2
      unfold at? at h2
      rw [a1] at h2
      have := seq_ok h2
      subst this
      refine a2 px pos X.pn X.xe W σ (omC ω n [.pl 0]) H Q gs tk w1 (w3.trans kp_omC) (omC_trk r.trk) (w4.relabel (fun a h => by unfold omC; rw [h]) fun a h => omC_zero h) ?_
      have up : ∀ {ω' H' gs'}, CapOk g ω' H' (.slot 0) ca gs' → CapOk g (omR ω ω' n [.pl 0]) H' (.slot 0) ca gs' := fun h => h.relabel (fun a h => by unfold omR; rw [h]) fun a h => omR_zero h
      cases hF : F gs with
      | no => simp only [hF] at p; exact p.elim
      | ok t as =>
        simp only [hF] at p
        cases hn : nxG gs as with
        | none => simp only [hn] at p; exact p.elim
        | some gs' =>
          simp only [hn] at p
          intro v ω' H' e' t' ag rt
          have c' := up (nx_cap hn w4 ag)
          refine p (omR ω ω' n [.pl 0]) H' (omR_ext e') (omR_clo r e' t' ⟨y, fun _ => w1, ca, ω0, H0, w2, w3.trans (omR_ext (n := n) e').kp, c'⟩) v ?_
          refine RT.relabel (k := .tmp 0) (fun a h => ?_) (fun a h => ?_) (rt.none)
          · unfold omR; rw [h]
          · unfold omR; rw [h]; rfl
      | ex x as =>
        simp only [hF] at p
        cases hn : nxG gs as with
        | none => simp only [hn] at p; exact p.elim
        | some gs' =>
          simp only [hn] at p
          intro cls d ω' H' e' t' ag rx0
          have rx := rx0.kp (kp_omR (ω := ω) (n := n) (os := [.pl 0]))
          have c' := up (nx_cap hn w4 ag)
          refine p cls d (omR ω ω' n [.pl 0]) H' _ (omR_ext e') ⟨by rw [List.length_replicate, st_length, List.length_map, r.len], fun i t h => ?_, fun j hj => (by rw [(O _ hk).1] at hj; cases hj), omR_trk t'⟩ rx
          rw [gt_st] at h
          by_cases z : i = 0 ∧ 0 < (env.map fun _ => (none : Option T)).length
          · rw [if_pos z] at h; cases h
            rw [z.1]
            exact ⟨y, (fun q => by cases q), y, ca, ω0, H0, w2, w3.trans (omR_ext (n := n) e').kp, c'⟩
          · rw [if_neg z, gt_map_none] at h
            cases h
    · exact p.elim
  · cases h
/-! ### f(lambda: ..) -/
theorem shut_gt : ∀ (env : Env) (i : Nat) (t : T), gt (shut env) i = some t → ∃ v, t = .v v ∧ gt env i = some (.v v)
  | [], _, _, h => by cases h
  | some (.v x) :: r, 0, t, h => by
    have : some (T.v x) = some t := h
    cases this; exact ⟨x, rfl, rfl⟩
  | some (.v x) :: r, i + 1, t, h => shut_gt r i t h
  | none :: r, 0, t, h => by cases h
  | none :: r, i + 1, t, h => shut_gt r i t h
  | some (.vl _) :: r, 0, t, h => by cases h
  | some (.vl _) :: r, i + 1, t, h => shut_gt r i t h
  | some (.vd _ _) :: r, 0, t, h => by cases h
  | some (.vd _ _) :: r, i + 1, t, h => shut_gt r i t h
  | some (.x _) :: r, 0, t, h => by cases h
  | some (.x _) :: r, i + 1, t, h => shut_gt r i t h
  | some (.clo _) :: r, 0, t, h => by cases h
  | some (.clo _) :: r, i + 1, t, h => shut_gt r i t h
  | some (.cap _) :: r, 0, t, h => by cases h
  | some (.cap _) :: r, i + 1, t, h => shut_gt r i t h
  | some (.ob _ _) :: r, 0, t, h => by cases h
  | some (.ob _ _) :: r, i + 1, t, h => shut_gt r i t h
theorem shut_len : ∀ env : Env, (shut env).length = env.length
  | [] => rfl
  | some (.v x) :: r => by show (shut r).length + 1 = _; rw [shut_len r]; rfl
  | none :: r => by show (shut r).length + 1 = _; rw [shut_len r]; rfl
  | some (.vl _) :: r => by show (shut r).length + 1 = _; rw [shut_len r]; rfl
  | some (.vd _ _) :: r => by show (shut r).length + 1 = _; rw [shut_len r]; rfl
  | some (.x _) :: r => by show (shut r).length + 1 = _; rw [shut_len r]; rfl
  | some (.clo _) :: r => by show (shut r).length + 1 = _; rw [shut_len r]; rfl
  | some (.cap _) :: r => by show (shut r).length + 1 = _; rw [shut_len r]; rfl
  | some (.ob _ _) :: r => by show (shut r).length + 1 = _; rw [shut_len r]; rfl
theorem Cok.lamc (C : Cok g M cx sc k X) (hl : M.calm = true) {scope : Scope} (hs : LamX.lamSB sc scope = true) {A : Around} {outer : List PySem.Env} {s : Shared} {H0 : Hp} {E : XK} {f c' : Addr} (hr : Room k (A.deeper (LamX.lamEnv X scope s.heap.objs.size f c'))) :
    Cok g M.in cx scope k (LamX.lamCx X A outer s H0 E scope f c') where
  K := C.K
  N := C.N
  nd := C.nd
  vis := fun x h => by
    unfold visB at h
    split at h
    · next q => exact .inl q
    · next q => exact .inr (.inl q)
    · next q => exact .inr (.inr q)
    · cases h
  fre := fun x h => h
  loc := fun x h => by
    have L := LamX.lamS_by hs
    unfold locB at h
    split at h
    · next q => exact absurd rfl (L.own _ (PySem.mem_of_lookup q)).1
    · next q => exact absurd rfl (L.own _ (PySem.mem_of_lookup q)).2
    · cases h
  glo := fun x h => by
    unfold glB at h
    split at h
    · next q => exact q
    · cases h
  calm := fun _ => rfl
  hu := by
    have := hr.un
    show (A.deeper (LamX.lamEnv X scope s.heap.objs.size f c')).units + 70 < cLine
    omega
  room := fun _ => hr
  free := C.free
  gs := C.gs
  gd := C.gd
  fns := C.fns
  cls := C.cls
  clm := C.clm
  fnm := C.fnm
  mth := C.mth
  rm1 := fun h => (Bool.false_ne_true h).elim
  lam := fun h => (Bool.false_ne_true h).elim
def osO : Option Nat → List Opd
  | none => []
  | some j => [.pl j]
/-- what is captured, as an argument -/
theorem cap_of (r : Rel g cl xa ω H env σ) {o : Option Nat} {gs : Option (List Val)} (h : gsOf o env = some gs) : ∃ ca : Option Addr, ROs g cl xa ω H σ n (osO o) (capV ca) ∧ CapOk g (omC ω n (osO o)) H (.slot 0) ca gs ∧
    (∀ j, o = some j → ∃ p l, ca = some p ∧ σ[j]? = some (some (.ref p)) ∧ gt env j = some (.vl l)) ∧ (o = none → ca = none) := by
  cases o with
  | none =>
    cases h
    exact ⟨none, rfl, trivial, fun j q => (by cases q), fun _ => rfl⟩
  | some j =>
    unfold gsOf at h
    simp only at h
    split at h
    · next l hl =>
      cases h
      obtain ⟨x, q1, a, xs, q2, q3, q4, q5⟩ := r.at_ j (.vl l) hl
      subst q2
      refine ⟨some a, ⟨.ref a, [], rfl, q1, rfl⟩, ⟨?_, xs, q4, q5.kp' kp_omC⟩, fun j' e => ?_, fun q => by cases q⟩
      · unfold omC osO; rw [q3]; simp [idxPl]
      · cases e; exact ⟨a, l, rfl, q1, hl⟩
    · cases h
theorem ext_relab {ω2 : Om} {H2 : Hp} {p : Addr} {j : Nat} (h : ω p = some (.slot 0)) (e : Ext 0 (lab ω p (some (.slot j))) H ω2 H2) : Ext 0 ω H (lab ω2 p (some (.slot 0))) H2 where
  kp := fun a u h1 h2 h3 => by
    have ne : a ≠ p := fun q => by rw [q, h] at h2; cases h2
    obtain ⟨q1, q2⟩ := e.kp a u h1 (by rw [lab_ne ne]; exact h2) h3
    exact ⟨q1, by rw [lab_ne ne]; exact q2⟩
  rest := fun a h1 => by
    have ne : a ≠ p := fun q => by rw [q, h] at h1; cases h1
    obtain ⟨q1, q2⟩ := e.rest a (by rw [lab_ne ne]; exact h1)
    exact ⟨by rw [lab_ne ne]; exact q1, q2⟩
  tmp := fun m hm => absurd hm (Nat.not_lt_zero m)
  back := fun a h1 => by
    by_cases ne : a = p
    · rw [ne, lab_same] at h1; cases h1
    · rw [lab_ne ne] at h1
      have := e.back a h1
      rw [lab_ne ne] at this
      exact this
/-- the body of a lambda, where it is called -/
theorem lam_body {ω' : Om} {H' : Hp} {o : Option Nat} {f : Env → R Val} {ca : Option Addr} {gs1 : Option (List Val)} {Q : VK} {E : XK} (kp : Kp ω H ω' H') (r : Rel g cl xa ω H env σ) (t' : Trk g ω' H') (c : CapOk g ω' H' (.slot 0) ca gs1)
    (hj : ∀ j, o = some j → ∃ p l, ca = some p ∧ σ[j]? = some (some (.ref p)) ∧ gt env j = some (.vl l)) (cp : CPost g none ω' H' (capV ca) (cloE o env f gs1) Q E) :
    ∃ xa' ω1 env0, Rel g none xa' ω1 H' env0 σ ∧ Post g none xa' 0 ω1 H' σ (f env0) (fun v _ ω2 H2 => ∀ y, RV g ω2 H2 v y → Q y H2) (fun cls d _ H => E cls d H) := by
  have rs : ∀ (xa' : Fx), xa'.F = [] → ∀ ω1, Kp ω H ω1 H' → Trk g ω1 H' → Rel g none xa' ω1 H' (shut env) σ := fun xa' hF ω1 kp' tr => ⟨by rw [shut_len, r.len], fun i t hi => by
    obtain ⟨v, rfl, hv⟩ := shut_gt env i t hi
    obtain ⟨z, z1, z2⟩ := r.at_ i _ hv
    exact ⟨z, fun _ => z1, RV.kp' kp' z2⟩, fun j hj => (by rw [hF] at hj; cases hj), tr⟩
  cases o with
  | none =>
    cases gs1 with
    | some l => exact cp.elim
    | none =>
      refine ⟨{}, ω', shut env, rs {} rfl ω' kp t', ?_⟩
      have cp' : CPost g none ω' H' (capV ca) (cloR none (f (shut env))) Q E := cp
      have ag : ∀ ω2 H2, Ags g none ω2 H2 [] (capV ca) := fun _ _ i t h => by simp at h
      cases hf : f (shut env) with
      | no => rw [hf] at cp'; exact cp'.elim
      | ok v e1 =>
        rw [hf] at cp'
        exact fun ω2 H2 e2 r2 y hv => cp' y ω2 H2 e2 r2.trk (ag _ _) hv
      | ex x e1 =>
        rw [hf] at cp'
        exact fun cls d ω2 H2 σ2 e2 r2 rx => cp' cls d ω2 H2 e2 r2.trk (ag _ _) rx
  | some j =>
    cases gs1 with
    | none => exact cp.elim
    | some l1 =>
      obtain ⟨p, l0, rfl, hσ, hl0⟩ := hj j rfl
      obtain ⟨c1, xs, c2, c3⟩ := c
      have kl : Kp ω' H' (lab ω' p (some (.slot j))) H' := lab_kp c1
      have tl : Trk g (lab ω' p (some (.slot j))) H' := lab_trk t' c1
      have r0 := (rs {} rfl _ (kp.trans kl) tl).put hσ (t := .vl l1) ⟨p, xs, rfl, lab_same, c2, c3.kp' kl⟩
      refine ⟨{ F := [j], s0 := σ }, lab ω' p (some (.slot j)), st (shut env) j (some (.vl l1)), ⟨r0.len, fun i t h => (r0.at0 i t h).imp fun _ q => ⟨q.1, q.2.nf rfl⟩, fun _ _ => rfl, r0.trk⟩, ?_⟩
      have cp' : CPost g none ω' H' [.ref p] (cloR (some j) (f (st (shut env) j (some (.vl l1))))) Q E := cp
      have fin : ∀ {ω2 : Om} {H2 : Hp} {e1 : Env} {l2 : List Val} {σ2 : L2.St}, Rel g none { F := [j], s0 := σ } ω2 H2 e1 σ2 → Ext 0 (lab ω' p (some (.slot j))) H' ω2 H2 → gt e1 j = some (.vl l2) →
          Ext 0 ω' H' (lab ω2 p (some (.slot 0))) H2 ∧ Trk g (lab ω2 p (some (.slot 0))) H2 ∧ Ags g none (lab ω2 p (some (.slot 0))) H2 [.vl l2] [.ref p] ∧ Kp ω2 H2 (lab ω2 p (some (.slot 0))) H2 := fun {ω2 H2 e1 l2 σ2} r2 e2 hg => by
        obtain ⟨x, q1, b, ys, q2, q3, q4, q5⟩ := r2.at_ j (.vl l2) hg
        have hf : σ2[j]? = σ[j]? := r2.fix j (List.mem_singleton_self j)
        rw [q1, hσ] at hf
        cases hf
        cases q2
        have kz : Kp ω2 H2 (lab ω2 p (some (.slot 0))) H2 := lab_kp q3
        refine ⟨ext_relab c1 e2, lab_trk r2.trk q3, fun i t h => ?_, kz⟩
        cases i with
        | zero => cases h; exact ⟨.ref p, rfl, p, ys, rfl, lab_same, q4, q5.kp' kz⟩
        | succ i => simp at h
      cases hf : f (st (shut env) j (some (.vl l1))) with
      | no => rw [hf] at cp'; exact cp'.elim
      | ok v e1 =>
        rw [hf] at cp'
        unfold cloR outG at cp'
        simp only at cp'
        intro ω2 H2 e2 r2 y hv
        cases hg : gt e1 j with
        | none => rw [hg] at cp'; exact cp'.elim
        | some t =>
          cases t with
          | vl l2 =>
            rw [hg] at cp'
            obtain ⟨f1, f2, f3, f4⟩ := fin r2 e2 hg
            exact cp' y _ H2 f1 f2 f3 (RV.kp' f4 hv)
          | _ => rw [hg] at cp'; exact cp'.elim
      | ex x e1 =>
        rw [hf] at cp'
        unfold cloR outG at cp'
        simp only at cp'
        intro cls d ω2 H2 σ2 e2 r2 rx
        cases hg : gt e1 j with
        | none => rw [hg] at cp'; exact cp'.elim
        | some t =>
          cases t with
          | vl l2 =>
            rw [hg] at cp'
            obtain ⟨f1, f2, f3, f4⟩ := fin r2 e2 hg
            exact cp' cls d _ H2 f1 f2 f3 (rx.kp f4)
          | _ => rw [hg] at cp'; exact cp'.elim
theorem ok_lam (C : Cok g M cx sc k X) {f : Nat} {o : Option Nat} {b : E} {e : Expr} (h : (E.lam f o b).chk M sc e = true)
    (ib : ∀ cl xa X sc, Cok g M.in cx sc k X → Xok xa M.in cx X → CloOk g cl xa M.in cx X → ∀ e, b.chk M.in sc e = true → OkO g cl xa X (fun env => b.ev cx env) e) :
    OkO g cl xa X (fun env => (E.lam f o b).ev cx env) e := by
  intro n ω H env σ Q W r tk p
  simp only [E.chk] at h
  split at h
  · next x px body scope lpos pos =>
    obtain ⟨h1, h2⟩ := and_t h
    obtain ⟨h0, h1⟩ := and_t h1
    obtain ⟨hA, h3⟩ := and_t h1
    obtain ⟨h2, h4⟩ := and_t h2
    obtain ⟨h2, h5⟩ := and_t h2
    obtain ⟨h5, _⟩ := and_t h5
    obtain ⟨h4, h6⟩ := and_t h4
    obtain ⟨h0, hcal⟩ := and_t h0
    obtain ⟨room, ⟨c, P, TB, hcode, hmT, hu⟩, hL⟩ := C.lam h0
    unfold fnAt at h3
    split at h3
    · next y hy =>
      have := seq_ok h3
      subst this
      obtain ⟨a, pg, bg, sg, dV, kV, doc, pm, cdv, ct, oc, an, od, osl, Ng, l1, l2, l3, l4, l5, l6, l7, l8, l9, l10, l11⟩ := hL f y hy hA
      have LS : LamX.LamS X.env.scope scope := by
        have L := LamX.lamS_by h4
        exact ⟨L.kind, L.co, L.gen, L.own, fun y hy hf => C.fre y.1 (L.free y hy hf)⟩
      simp only [E.ev] at p
      cases hgs : gsOf o env with
      | none => rw [hgs] at p; exact p.elim
      | some gs =>
        simp only [hgs] at p
        generalize hF : (fun env => (b.ev cx env).bind fun o env => esc env o) = F at p
        generalize hcc : cloE o env F = cc at p
        let te : XK → TE := fun E σ H Q => ∀ (A : Around) (outer : List PySem.Env) (s : Shared) (H0 : Hp) (f c' : Addr), Room k (A.deeper (LamX.lamEnv X scope s.heap.objs.size f c')) → SE (LamX.lamCx X A outer s H0 E scope f c') body σ H Q
        refine se_of (LamX.pe_lamcall (T := g.T) (t := te) (gl_ok C h2) l1 l2 l3 l4 l5 l6 l7 l8 l11 TB hcode hmT hu room LS rfl (fun _ _ _ _ _ => rfl) (fun A outer s H0 E f c' hr => ⟨fun pins s' σ' H' Q' I q => q A outer s H0 f c' hr pins s' I⟩) (by simpa using h5) l9 l10) ?_
        refine ⟨fun p hp => ?_, fun H1 eN T1 => ?_⟩
        · obtain ⟨q1, ps, q2, q3, q4⟩ := r.trk.tab p hp
          exact ⟨ps, q2, q3, fun pos cv z => let ⟨c, c1, c2, _⟩ := q4 pos cv z; ⟨c, c1, c2⟩⟩
        · -- the state behind the making
          have kp1 : Kp ω H ω H1 := fun a o z1 z2 z3 => ⟨eN a o z1 z3, z2⟩
          have kk1 : ∀ l, l ≠ Lb.tab → Kk l ω H ω H1 := fun l hl a z => by
            rcases r.trk.any a (by rw [z]; exact fun q => nomatch q) with ⟨o, o1, o2⟩ | hm
            · exact ⟨z, (eN a o o1 o2.2).trans o1.symm⟩
            · obtain ⟨q, hq, rfl⟩ := List.mem_map.mp hm
              rw [(r.trk.tab q hq).1] at z
              cases z
              exact absurd rfl hl
          have any1 : ∀ a, ω a ≠ none → (∃ o, H1 a = some o ∧ Ow o) ∨ a ∈ g.T.map (·.1) := fun a z => by
            rcases r.trk.any a z with ⟨o, o1, o2⟩ | hm
            · exact .inl ⟨o, eN a o o1 o2.2, o2⟩
            · exact .inr hm
          have trk1 : Trk g ω H1 := ⟨any1, fun q hq => by
            obtain ⟨ps, t1, t2, t3⟩ := T1 q hq
            refine ⟨(r.trk.tab q hq).1, ps, t1, t2, fun pos cv z => ?_⟩
            obtain ⟨c, c1, c2⟩ := t3 pos cv z
            refine ⟨c, c1, c2, ?_⟩
            cases hw : ω c with
            | none => rfl
            | some l =>
              rcases any1 c (by rw [hw]; exact fun q => nomatch q) with ⟨o, o1, o2⟩ | hm
              · rw [c2] at o1
                cases o1
                exact absurd rfl (o2.1 _)
              · obtain ⟨q', hq', e'⟩ := List.mem_map.mp hm
                obtain ⟨ps', t1', _⟩ := T1 q' hq'
                rw [e', c2] at t1'
                cases t1'⟩
          have r1 : Rel g cl xa ω H1 env σ := r.keep kp1 (fun i => kk1 _ (fun q => nomatch q)) trk1
          have e1 : Ext n ω H ω H1 := ⟨kp1, kk1 _ (fun q => nomatch q), fun m _ => kk1 _ (fun q => nomatch q), fun a z => z⟩
          obtain ⟨ca, ro, cap, hj, hnone⟩ := cap_of (n := n) r1 hgs
          refine ⟨omC ω n (osO o), ca, gs, cc, omC_trk trk1, cap, fun gs1 ω' H' E Q' kp' t' ca' cp A outer s H0 f0 c' hr => ?_, ?_⟩
          · subst hcc
            obtain ⟨xa', ω1, env0, rs, P⟩ := lam_body (kp_omC.trans kp') r1 t' ca' hj cp
            subst hF
            refine ib none xa' _ scope (C.lamc hcal h4 hr) (Xok.calm hcal) (CloOk.off rfl) body h6 0 ω1 H' env0 σ Q' (fun cls d _ H => E cls d H) rs (takes_of rfl rfl rfl rfl) ?_
            refine (Post.bind P).imp fun o2 env1 ω2 H2 e2 r2 p2 y ro2 => ?_
            cases hes : esc env1 o2 with
            | no => rw [hes] at p2; exact p2.elim
            | ex _ _ => exact (esc_noex hes).elim
            | ok v env2 =>
              rw [hes] at p2
              obtain ⟨ω3, e3, _, r3, v3⟩ := esc_ok r2 ro2 hes
              exact p2 ω3 H2 e3 r3 y v3
          · cases hc : cx.call f [.clo gs] (some cc) with
            | no => simp only [hc] at p; exact p.elim
            | ex _ _ => simp only [hc] at p; exact p.elim
            | ok t as =>
              simp only [hc] at p
              intro z ω' H' e' t' ag rt
              have rz : RO g cl xa (omR ω ω' n (osO o)) H' σ n (.t t) z := by
                refine RT.relabel (k := .tmp 0) (fun a h => ?_) (fun a h => ?_) rt.none
                · unfold omR; rw [h]
                · unfold omR; rw [h]; rfl
              cases o with
              | none => exact p (omR ω ω' n (osO none)) H' (e1.trans (omR_ext e')) (omR_rel (os := []) (as := []) (vs := []) r1 rfl e' t' (fun i t h => by simp at h)) z rz
              | some j =>
                simp only at p
                cases hl : capL as with
                | none => rw [hl] at p; exact p.elim
                | some l =>
                  rw [hl] at p
                  have ag2 : Ags g none ω' H' [.vl l] (capV ca) := by
                    have : capT as = [.vl l] := by unfold capT; rw [hl]
                    rw [← this]; exact ag
                  exact p (omR ω ω' n (osO (some j))) H' (e1.trans (omR_ext e')) (omR_rel (os := [.pl j]) (as := [.vl l]) r1 ro e' t' ag2) z rz
    · cases h3
  · cases h
/-! ### max, min of two -/
theorem ok_mm (C : Cok g M cx sc k X) {w : Bool} {a b : E} {e : Expr} (h : (E.mm w a b).chk M sc e = true) (ia : ∀ e, a.chk M sc e = true → OkO g cl xa X (fun env => a.ev cx env) e) (ib : ∀ e, b.chk M sc e = true → OkO g cl xa X (fun env => b.ev cx env) e) :
    OkO g cl xa X (fun env => (E.mm w a b).ev cx env) e := by
  intro n ω H env σ Q W r tk p
  simp only [E.chk] at h
  split at h
  · next x px y z pos =>
    obtain ⟨h1, hh⟩ := and_t h
    obtain ⟨h1, hc⟩ := and_t h1
    obtain ⟨h2, h3⟩ := and_t hh
    obtain ⟨h2, h4⟩ := and_t h2
    obtain ⟨h3, h5⟩ := and_t h3
    obtain ⟨e1, e2, e3⟩ := blt_ok C h1
    subst e1
    have hX := C.calm hc
    have hst := star_eq h4 [z] X.env
    have hst2 := star_eq h5 [] X.env
    simp only [E.ev] at p
    have main : ∀ (R : V → V → Hp → Prop), (∀ i j H2 env2 ω2, Rel g cl xa ω2 H2 env2 σ → Post g cl xa n ω2 H2 σ (match mmF w (.v (.int i)) (.v (.int j)) with
        | some t => Py.R.ok (Opd.t t) env2
        | none => .no) (fun o _ ω' H' => ∀ x, RO g cl xa ω' H' σ n o x → Q x H') W → R (.int i) (.int j) H2) → SE X y σ H fun u H1 => SE X z σ H1 fun v H2 => R u v H2 := fun R hR =>
      two_ok C (ia y h2) (ib z h3) r tk p fun ta tb env2 ω2 H2 k1 k2 u v r2 ha hb p2 => by
        cases q : mmF w ta tb with
        | none => simp only [q] at p2; exact p2.elim
        | some t =>
          unfold mmF at q
          split at q
          · next i j =>
            rw [show u = .int i from ha, show v = .int j from hb]
            exact hR i j H2 env2 ω2 r2 p2
          · cases q
    cases w with
    | true => exact se_of (pe_callB (id := "max") (call_max2 hX) e2 e3 (by decide +kernel) (pa_cons (pe_se X y) (pa_cons (pe_se X z) pa_nil hst2) hst) (by decide) (by decide) hst (by rw [hst2]; rfl)) (main _ fun i j H2 env2 ω2 r2 p2 => ⟨i, j, rfl, Post.here (a := Opd.t (.v (.int (if j > i then j else i)))) r2 p2 _ rfl⟩)
    | false => exact se_of (pe_callB (id := "min") (call_min2 hX) e2 e3 (by decide +kernel) (pa_cons (pe_se X y) (pa_cons (pe_se X z) pa_nil hst2) hst) (by decide) (by decide) hst (by rw [hst2]; rfl)) (main _ fun i j H2 env2 ω2 r2 p2 => ⟨i, j, rfl, Post.here (a := Opd.t (.v (.int (if j < i then j else i)))) r2 p2 _ rfl⟩)
  · cases h
end
end Py
set_option maxHeartbeats 1000000
namespace Py
open PySem PySem.Spec PyProof.Rows L2
section
variable {g : Gc} {cl : Clx} {xa : Fx} {M : Nm} {cx : EC} {sc : Scope} {k : Nat} {X : Cx} {n : Nat} {ω : Om} {H : Hp} {σ : L2.St} {env : Env} {W : WX}
/-! ### {..}.get(k, d) -/
/-- the values of a display, each behind its key -/
def OkD (g : Gc) (cl : Clx) (xa : Fx) (X : Cx) (f : Env → R (List Opd)) (es : List Expr) : Prop := ∀ (ks : List (List Nat)) n ω H env σ (Q : List (V × V) → Hp → Prop) W, ks.length = es.length → Rel g cl xa ω H env σ → Takes X W →
  Post g cl xa n ω H σ (f env) (fun os _ ω' H' => ∀ xs, ROs g cl xa ω' H' σ n os xs → Q ((ks.map fun k => V.str ⟨k.toArray⟩).zip xs) H') W → tPairs ((ks.zip es).map fun p => (tC (.str ⟨p.1.toArray⟩), SE X p.2)) σ H Q
theorem okd_nil {l : List Expr} (h : Es.nil.chk M sc l = true) : OkD g cl xa X (fun env => Es.nil.ev cx env) l := by
  intro ks n ω H env σ Q W hl r tk p
  simp only [Es.chk] at h
  split at h
  · have : ks = [] := List.length_eq_zero_iff.mp hl
    subst this
    exact Post.here (a := ([] : List Opd)) r p [] rfl
  · cases h
theorem okd_cons {a : E} {rs : Es} {l : List Expr} (h : (Es.cons a rs).chk M sc l = true) (ia : ∀ e, a.chk M sc e = true → OkO g cl xa X (fun env => a.ev cx env) e)
    (ir : ∀ l, rs.chk M sc l = true → OkD g cl xa X (fun env => rs.ev cx env) l) : OkD g cl xa X (fun env => (Es.cons a rs).ev cx env) l := by
  intro ks n ω H env σ Q W hl r tk p
  simp only [Es.chk] at h
  split at h
  · next x xs =>
    obtain ⟨h1, h2⟩ := and_t h
    obtain ⟨h1, _⟩ := and_t h1
    cases ks with
    | nil => simp at hl
    | cons k ks =>
      simp only [Es.ev] at p
      refine ia x h1 n ω H env σ _ W r tk ((Post.bind p).imp fun o env1 ω1 H1 e1 r1 p1 y ro => ?_)
      refine ir xs h2 ks (n + 1) ω1 H1 env1 σ (fun ps H' => Q ((.str ⟨k.toArray⟩, y) :: ps) H') W (by simpa using hl) r1 tk (((Post.bind p1).up (Nat.le_succ n)).imp fun os env2 ω2 H2 e2 r2 p2 ys ros => ?_)
      exact Post.here (a := o :: os) r2 p2 (y :: ys) ⟨y, ys, rfl, ro.ext e2 (Nat.lt_succ_self n), ros⟩
  · cases h
theorem ow_dK {kvs : List (Key × V)} : Ow (.dK kvs) := And.intro (fun _ z => nomatch z) (fun _ z => nomatch z)
def OptR (g : Gc) (ω : Om) (H : Hp) : Option Val → Option V → Prop
  | some v, some x => RV g ω H v x
  | none, none => True
  | _, _ => False
theorem str_eq {a b : List Nat} : (⟨a.toArray⟩ : Str) = ⟨b.toArray⟩ ↔ a = b := by
  constructor
  · intro h
    have := congrArg (fun z : Str => z.cps.toList) h
    simpa using this
  · rintro rfl; rfl
theorem dg_val {g : Gc} {ω : Om} {H : Hp} (s : List Nat) : ∀ (ks : List (List Nat)) (us : List Val) (xs : List V) (acc : List (Key × V)) (o : Option Val), RVs g ω H us xs → OptR g ω H o (valV acc (.inr ⟨s.toArray⟩)) →
    OptR g ω H (dgF ks us s o) (valV (mergeK acc ((ks.map fun k => (Sum.inr ⟨k.toArray⟩ : Key)).zip xs)) (.inr ⟨s.toArray⟩))
  | [], us, xs, acc, o, _, h => by cases us <;> exact h
  | k :: ks, [], xs, acc, o, hv, h => by rw [show xs = [] from hv]; exact h
  | k :: ks, u :: us, xs, acc, o, ⟨x, r, e, hx, hr⟩, h => by
    rw [e]
    refine dg_val s ks us r (putK acc (.inr ⟨k.toArray⟩) x) _ hr ?_
    rw [valV_put]
    by_cases hk : k = s
    · rw [if_pos hk, if_pos (by rw [hk])]; exact hx
    · rw [if_neg hk, if_neg (fun q => hk (by have := Sum.inr.inj q; exact (str_eq.mp this).symm))]; exact h
theorem pps_of {pos : Pos} : ∀ {ks : List (List Nat)} {keys : List (Option Expr)} {vals : List Expr}, keysOk ks keys = true → keys.length = vals.length → PPs X pos keys vals ((ks.zip vals).map fun p => (tC (.str ⟨p.1.toArray⟩), SE X p.2)) ∧ ks.length = vals.length ∧ keys.all (·.isSome) = true
  | [], [], [], _, _ => ⟨pps_nil, rfl, rfl⟩
  | k :: ks, keys, vals, h, hl => by
    unfold keysOk at h
    split at h
    · next q => cases q
    · next k' ks' z j pz es q =>
      cases q
      obtain ⟨h1, h2⟩ := and_t h
      cases vals with
      | nil => simp at hl
      | cons v vals =>
        obtain ⟨q1, q2, q3⟩ := pps_of (pos := pos) h2 (by simpa using hl)
        have hz : z = ⟨k.toArray⟩ := by
          rw [← of_decide_eq_true h1]
        refine ⟨pps_cons (hz ▸ pe_str) (pe_se X v) q1, by rw [List.length_cons, List.length_cons, q2], by simpa using q3⟩
    · cases h
  | [], k :: keys, vals, h, hl => by cases h
  | [], [], v :: vals, h, hl => by cases hl
theorem ok_dget (C : Cok g M cx sc k X) {ks : List (List Nat)} {vs : Es} {q d : E} {e : Expr} (h : (E.dget ks vs q d).chk M sc e = true) (iv : ∀ l, vs.chk M sc l = true → OkD g cl xa X (fun env => vs.ev cx env) l)
    (iq : ∀ e, q.chk M sc e = true → OkO g cl xa X (fun env => q.ev cx env) e) (id_ : ∀ e, d.chk M sc e = true → OkO g cl xa X (fun env => d.ev cx env) e) : OkO g cl xa X (fun env => (E.dget ks vs q d).ev cx env) e := by
  intro n ω H env σ Q W r tk p
  simp only [E.chk] at h
  split at h
  · next keys vals dpos m apos y z pos =>
    obtain ⟨hA, hB⟩ := and_t h
    obtain ⟨hA, hC⟩ := and_t hA
    obtain ⟨h1, h2⟩ := and_t hA
    obtain ⟨h3, hC⟩ := and_t hC
    obtain ⟨h4, hC⟩ := and_t hC
    obtain ⟨h5, hC⟩ := and_t hC
    obtain ⟨h6, h7⟩ := and_t hC
    obtain ⟨h8, h9⟩ := and_t hB
    obtain ⟨h8, k8⟩ := and_t h8
    obtain ⟨h9, k9⟩ := and_t h9
    rw [seq_ok h1]
    have hlen : keys.length = vals.length := eq_of_beq h5
    obtain ⟨PP, hkl, hall⟩ := pps_of (X := X) (pos := dpos) h3 hlen
    have hst := star_eq k8 [z] X.env
    have hst2 := star_eq k9 [] X.env
    have hu := C.hu
    have m2 : M2 X (.Dict keys vals dpos) "get" apos y z pos := ⟨rfl, by rw [hst, hst2]; rfl, h2, by rw [hst, hst2]; rfl⟩
    refine se_of (pe_dget2 (by omega) (pe_disp PP hall hlen (fun z => by rw [z] at h6; cases h6) (Nat.le_of_ble_eq_true h7)) (pe_se X y) (pe_se X z) m2) ?_
    have p' : Post g cl xa n ω H σ ((E.dget ks vs q d).ev cx env) (fun o _ ω' H' => ∀ x, RO g cl xa ω' H' σ n o x → Q x H') W := p
    simp only [E.ev] at p'
    intro pp hp
    have x0 : Ext n ω H (lab ω pp (some (.tmp n))) (upd H pp (.dK [])) := new_ext r.trk hp (fun q => nomatch q)
    have r0 := r.new (k := some (.tmp n)) hp (ow_dK (kvs := []))
    refine iv vals h4 ks (n + 1) _ _ env σ _ W hkl r0 tk (((Post.trans (Post.bind p') x0).up (Nat.le_succ n)).imp fun os env1 ω1 H1 e1 r1 p1 xs ros => ?_)
    obtain ⟨l1, d1⟩ := e1.tmp n (Nat.lt_succ_self n) pp lab_same
    refine ⟨d1.trans upd_same, (ks.map fun k => (Sum.inr ⟨k.toArray⟩ : Key)).zip xs, ?_, ?_, pp, rfl, .inl ⟨_, .inl upd_same⟩, ?_⟩
    · rw [show (fun k : List Nat => V.str ⟨k.toArray⟩) = (fun c : Key => kV c) ∘ (fun k : List Nat => (Sum.inr ⟨k.toArray⟩ : Key)) from rfl, ← List.map_map, List.zip_map_left]
      rfl
    · rw [List.length_zip, List.length_map]
      have := Nat.le_of_ble_eq_true h7
      omega
    · cases hes : escs os env1 with
      | ex _ _ => exact (escs_noex hes).elim
      | no => rw [hes] at p1; exact p1.elim
      | ok us env2 =>
        rw [hes] at p1
        obtain ⟨ω2, x2, r2, v2⟩ := escs_ok r1 ros hes
        obtain ⟨l2, _⟩ := x2.tmp n (Nat.lt_succ_self n) pp l1
        have kp3 : Kp ω2 H1 ω2 (upd H1 pp (.dK (mergeK [] ((ks.map fun k => (Sum.inr ⟨k.toArray⟩ : Key)).zip xs)))) := wr_kp l2
        have r3 := r2.keep kp3 (fun i => wr_kk l2 (fun q => nomatch q)) (wr_trk r2.trk l2 ow_dK)
        have x3 : Ext n ω2 H1 ω2 (upd H1 pp (.dK (mergeK [] ((ks.map fun k => (Sum.inr ⟨k.toArray⟩ : Key)).zip xs)))) := wr_ext l2 (fun q => nomatch q) fun m hm q => by cases q; exact Nat.lt_irrefl _ hm
        have p2 : Post g cl xa n ω1 H1 σ ((q.ev cx env2).bind fun oq env => (d.ev cx env).bind fun od env => (esc env od).bind fun dv env => match rd env oq with
          | some (.v (.str s)) => Py.R.ok (.t (.v ((dgF ks us s none).getD dv))) env
          | _ => .no) (fun o _ ω' H' => ∀ x, RO g cl xa ω' H' σ n o x → Q x H') W := p1
        have p3 := Post.trans p2 ((x2.mono (Nat.le_succ n)).trans x3)
        refine iq y h8 (n + 1) ω2 _ env2 σ _ W r3 tk (((Post.bind p3).up (Nat.le_succ n)).imp fun oq env3 ω3 H3 e3 r4 p4 y1 ro1 => ?_)
        refine id_ z h9 (n + 2) ω3 H3 env3 σ _ W r4 tk (((Post.bind p4).up (by omega)).imp fun od env4 ω4 H4 e4 r5 p5 z1 ro2 => ?_)
        obtain ⟨l3, d3⟩ := e3.tmp n (by omega) pp l2
        obtain ⟨l4, d4⟩ := e4.tmp n (by omega) pp l3
        have dd : H4 pp = some (.dK (mergeK [] ((ks.map fun k => (Sum.inr ⟨k.toArray⟩ : Key)).zip xs))) := d4.trans (d3.trans upd_same)
        cases hed : esc env4 od with
        | ex _ _ => exact (esc_noex hed).elim
        | no => rw [hed] at p5; exact p5.elim
        | ok dv env5 =>
          rw [hed] at p5
          obtain ⟨ω5, x5, _, r6, v6⟩ := esc_ok r5 ro2 hed
          have p6 : Post g cl xa n ω4 H4 σ (match rd env5 oq with
            | some (.v (.str s)) => Py.R.ok (Opd.t (.v ((dgF ks us s none).getD dv))) env5
            | _ => .no) (fun o _ ω' H' => ∀ x, RO g cl xa ω' H' σ n o x → Q x H') W := p5
          have ro1' : RO g cl xa ω5 H4 σ (n + 1) oq y1 := (ro1.ext e4 (by omega)).ext x5 (by omega)
          split at p6
          · next s hs =>
            obtain ⟨kk, hy⟩ := ro1'.rd r6 hs
            have ey : y1 = .str ⟨s.toArray⟩ := hy
            subst ey
            refine ⟨_, .inl ⟨_, .inr ⟨s.toArray⟩, .inl dd, rfl, rfl⟩, ?_⟩
            have vv : RVs g ω5 H4 us xs := (((v2.kp' kp3).kp' e3.kp).kp' e4.kp).kp' x5.kp
            have dg := dg_val (g := g) s ks us xs [] none vv (show OptR g ω5 H4 none (valV [] _) from trivial)
            refine p6 ω5 H4 (x5.mono (by omega)) r6 _ ?_
            show RV g ω5 H4 ((dgF ks us s none).getD dv) _
            cases h1 : dgF ks us s none with
            | none =>
              cases h2 : valV (mergeK [] ((ks.map fun k => (Sum.inr ⟨k.toArray⟩ : Key)).zip xs)) (.inr ⟨s.toArray⟩) with
              | none => exact v6
              | some _ => rw [h1, h2] at dg; exact dg.elim
            | some v =>
              cases h2 : valV (mergeK [] ((ks.map fun k => (Sum.inr ⟨k.toArray⟩ : Key)).zip xs)) (.inr ⟨s.toArray⟩) with
              | none => rw [h1, h2] at dg; exact dg.elim
              | some x => rw [h1, h2] at dg; exact dg
          · exact p6.elim
  · cases h
end
end Py
set_option maxHeartbeats 1000000
/-! ### t[::-1] of a tuple -/
namespace HT
open PySem PySem.Spec PyProof.Rows
section
variable {prog : Program} {w : World} {A : Around} {E : Value → Shared → Prop} {s : Shared}
theorem rev_applied {sl : Addr} {vl vu : Value} {u : Tok} {n : Nat} {Q : Int × Int × Nat → Shared → Prop} (hs : s.heap.IsSliceOf sl vl vu (.int (-1) u)) (pl : IsPart vl none) (pu : IsPart vu none)
    (h : Q ((n : Int) - 1, -1, n) s) : wpAny (model prog w) A (Builtin.Slice.sliceApplied (.ref sl) (pure (n : Int))) Q E s := by
  obtain ⟨os, hos, hcs, hds⟩ := id hs
  unfold Builtin.Slice.sliceApplied Builtin.Slice.sliceFields
  refine wpAny_bind (wpAny_bind (wpAny_field hos hds (x := vl) rfl (wpAny_bind (wpAny_field hos hds (x := vu) rfl (wpAny_bind (wpAny_field hos hds (x := .int (-1) u) rfl (wpAny_pure ?_)))))))
  refine wpAny_bind (slicePart_int ?_)
  show wpAny _ _ (if ((-1 : Int) == 0) = true then _ else _) _ _ s
  rw [if_neg (by decide)]
  refine wpAny_bind (slicePart_ pl (wpAny_bind (slicePart_ pu (wpAny_bind (wpAny_pure ?_)))))
  have e : Builtin.Slice.sliceAdjust none none (-1) (n : Int) = ((n : Int) - 1, -1) := by
    unfold Builtin.Slice.sliceAdjust
    rfl
  show wpAny _ _ (match Builtin.Slice.sliceAdjust none none (-1) (n : Int) with | (lo, hi) => pure (lo, (-1 : Int), Builtin.Slice.slicePlaces lo hi (-1))) _ _ s
  rw [e]
  have e2 : Builtin.Slice.slicePlaces ((n : Int) - 1) (-1) (-1) = n := by
    unfold Builtin.Slice.slicePlaces
    simp
    omega
  show wpAny _ _ (pure ((n : Int) - 1, (-1 : Int), Builtin.Slice.slicePlaces ((n : Int) - 1) (-1) (-1))) _ _ s
  rw [e2]
  exact wpAny_pure h
theorem fm_congr {α β : Type} {f g : α → Option β} : ∀ {l : List α}, (∀ a ∈ l, f a = g a) → l.filterMap f = l.filterMap g
  | [], _ => rfl
  | a :: l, h => by
    rw [List.filterMap_cons, List.filterMap_cons, h a List.mem_cons_self, fm_congr fun b hb => h b (List.mem_cons_of_mem _ hb)]
theorem rev_pick (xs : Array Value) : ((List.range xs.size).filterMap fun (m : Nat) => xs[(((xs.size : Int) - 1) + (m : Int) * -1).toNat]?).toArray = xs.toList.reverse.toArray := by
  have hf : ∀ m ∈ List.range xs.size, xs[(((xs.size : Int) - 1) + (m : Int) * -1).toNat]? = some (xs.toList.reverse.getD m .none) := by
    intro m hm
    rw [List.mem_range] at hm
    have e : (((xs.size : Int) - 1) + (m : Int) * -1).toNat = xs.size - 1 - m := by omega
    rw [e, List.getD_eq_getElem?_getD, List.getElem?_reverse (by simpa using hm)]
    have hl : xs.size - 1 - m < xs.size := by omega
    rw [Array.length_toList, Array.getElem?_toList, Array.getElem?_eq_getElem hl]
    rfl
  have e : (List.range xs.size).filterMap (fun (m : Nat) => xs[(((xs.size : Int) - 1) + (m : Int) * -1).toNat]?) = (List.range xs.size).map fun m => xs.toList.reverse.getD m .none := by
    rw [← List.filterMap_eq_map]
    exact fm_congr hf
  rw [e]
  congr 1
  refine List.ext_getElem (by simp) fun i h1 h2 => ?_
  rw [List.getElem_map, List.getElem_range, List.getD_eq_getElem?_getD, List.getElem?_eq_getElem h2]
  rfl
theorem rev_at {t sl : Addr} {items : Array Value} {vl vu : Value} {u : Tok} {Q : Value → Shared → Prop} (ht : IsTup s.heap t items) (hs : s.heap.IsSliceOf sl vl vu (.int (-1) u)) (pl : IsPart vl none) (pu : IsPart vu none)
    (h : Q (.ref s.heap.objs.size) { s with heap := s.heap.push { cls := .type "tuple", data := .seq items.toList.reverse.toArray } })
    (hsz : items.size ≤ sizeLine) : wpAny (model prog w) A (getItem (.ref t) (.ref sl)) Q E s := by
  have hfit : sizeOk (.seq items.toList.reverse.toArray) := by
    show items.toList.reverse.toArray.size ≤ sizeLine
    rw [List.size_toArray, List.length_reverse, Array.length_toList]
    exact hsz
  obtain ⟨os, hos, hcs, hds⟩ := id hs
  have tySl : s.TypeIs (.ref sl) "slice" := ⟨os, hos, hcs⟩
  unfold getItem
  try with_reducible refine wpAny_holding ?_
  first | refine wpAny_bind (wpAny_pure ?_) | skip
  refine wpAny_bind (wpAny_sequenceKey ht.typeIs (by decide) ?_)
  refine wpAny_bind (wpAny_callSpecial?_slot (name := Str.ofString "__getitem__") ht.typeIs PyProof.Rows.slot_tuple_getitem (wpAny_call_entry PyProof.Rows.slot_tuple_getitem ht.typeIs entry_tuple_getitem ?_ (args_tuple_getitem _ _)))
  show wpAny _ _ (Builtin.Tuple.tupleItemsOf (.ref t) >>= _) _ _ s
  refine wpAny_bind (tupleItemsOf_ ht ?_)
  refine wpAny_bind (wpAny_typeOf tySl ?_)
  rw [if_pos (by decide)]
  refine wpAny_bind (rev_applied hs pl pu ?_)
  have hno : ¬ ((((items.size : Int) - 1) == 0 && (-1 : Int) == 1 && items.size == items.size) = true) := by simp
  show wpAny _ _ (if (((items.size : Int) - 1) == 0 && (-1 : Int) == 1 && items.size == items.size) = true then _ else _) _ _ s
  rw [if_neg hno, rev_pick]
  first
    | exact wpAny_bind (m := Builtin.Tuple.tupleExact _) (wpAny_newObj_type (wpAny_pure ⟨_, rfl, wpAny_pure h⟩) hfit)
    | exact wpAny_bind (m := Builtin.Tuple.tupleExact _) (wpAny_newObj_type (wpAny_bind (wpAny_pure (wpAny_pure ⟨_, rfl, wpAny_pure h⟩))) hfit)
    | exact wpAny_bind (wpAny_bind (m := Builtin.Tuple.tupleExact _) (wpAny_newObj_type (wpAny_pure (wpAny_pure ⟨_, rfl, wpAny_pure h⟩)) hfit))
    | exact wpAny_bind (wpAny_bind (m := Builtin.Tuple.tupleExact _) (wpAny_newObj_type (wpAny_pure ⟨_, rfl, wpAny_pure h⟩) hfit))
end
end HT
namespace Py
open PySem PySem.Spec PyProof.Rows L2
/-! ### rules -/
section
variable {X : Cx}
def tRevT (K : PySem.W.Frag) (te : TE) : TE := fun σ H Q => te σ H fun x H1 => ∃ a xs, x = .ref a ∧ SqT K H1 a xs ∧ ∀ p, H1 p = none → Q (.ref p) (upd H1 p (.tup xs.reverse))
theorem pe_revT {e : Expr} {te : TE} {k : Nat} {p1 p2 p3 pos : Pos} (he : PE X e te) : PE X (.Subscript e (.Slice none none (some (.UnaryOp .USub (.Constant (.int 1) k p1) p2)) p3) pos) (tRevT X.K te) := by
  refine ⟨fun pins s σ H Q I h => ?_⟩
  refine Subscript_ (thn (he.run pins s σ H _ I h) fun v s1 ⟨x, H1, I1, r1, a, xs, ex, hx, q⟩ => ?_)
  subst ex
  cases r1
  have hst : PO X (some (.UnaryOp .USub (.Constant (.int 1) k p1) p2)) (tPart (tUn (rU fun i => .int (-i)) (tC (.int 1)))) := po_some (pe_un un_neg pe_int)
  refine wpAny_Slice (thn (po_none.run pins s1 σ H1 (fun o H2 => o = none ∧ H2 = H1) I1 ⟨rfl, rfl⟩) fun vl s2 ⟨l, H2, I2, pl, el, e2⟩ => ?_)
  subst el e2
  refine thn (po_none.run pins s2 σ H2 (fun o H3 => o = none ∧ H3 = H2) I2 ⟨rfl, rfl⟩) fun vu s3 ⟨u, H3, I3, pu, eu, e3⟩ => ?_
  subst eu e3
  refine thn (hst.run pins s3 σ H3 (fun o H4 => o = some (-1) ∧ H4 = H3) I3 ⟨1, rfl, -1, rfl, rfl, rfl⟩) fun vs s4 ⟨o, H4, I4, ps, eo, e4⟩ => ?_
  subst eo e4
  cases ps with
  | int _ tk =>
  have I5 : Inv X pins σ H4 { s4 with heap := s4.heap.push { cls := .type "slice", data := .fields #[vl, vu, .int (-1) tk] } } := I4.kept (t' := s4.toks) fun b ob q => Heap.get?_push_of_some _ q
  obtain ⟨its, r, ht, hz⟩ := I5.tuple hx
  have hlen := r.length
  show wpAny (model X.prog X.w) X.A (subscriptTail e (.Slice none none (some (.UnaryOp .USub (.Constant (.int 1) k p1) p2)) p3) (.ref a) (.ref s4.heap.objs.size)) (EP X pins σ Q) X.xe { s4 with heap := s4.heap.push { cls := .type "slice", data := .fields #[vl, vu, .int (-1) tk] } }
  refine tail_any (ops := [.ref a, .ref s4.heap.objs.size]) ht.typeIs PyProof.Rows.slot_tuple_getitem.lookup ?_ (by with_unfolding_all rfl)
  refine HT.rev_at ht (Heap.IsSliceOf.new _ vl vu _) pl pu ?_ (by rw [List.size_toArray]; omega)
  refine ⟨.ref _, _, I5.laid (t' := s4.toks) (o := .tup xs.reverse) (fun b ob q => Heap.get?_push_of_some _ q) (Nat.le_refl _) ?_, rfl, q _ (I5.hok.fresh (Nat.le_refl _))⟩
  exact ⟨by rw [List.length_reverse]; exact hz, its.reverse, r.reverse, _, Heap.get?_push_size _ rfl, rfl, 0, rfl⟩
/-- d.get(y, z) of a dict that the module holds -/
def tKGet (K : PySem.W.Frag) (w : World) (td ty tx : TE) : TE := fun σ H Q => td σ H fun x H1 => ∃ (p : Addr) (es : Array DictEntry) (n : Nat), x = .ref p ∧ K.lookup p = some ⟨.type "dict", none, .dict es n, #[]⟩ ∧ PySem.W.KeysLit w.params es.toList ∧ (p == sysModules) = false ∧
  ty σ H1 fun y H2 => tx σ H2 fun z H3 => ∃ s : Str, y = .str s ∧ ∃ v, (match findBy Value.isStrOf es s with | some u => RelV v u | none => v = z) ∧ Q v H3
theorem pe_kget {o e f : Expr} {apos cpos : Pos} {td ty tx : TE} (ho : PE X o td) (he : PE X e ty) (hf : PE X f tx) (m : M2 X o "get" apos e f cpos) : PE X (.Call (.Attribute o "get" apos) [e, f] [] cpos) (tKGet X.K X.w td ty tx) := by
  refine ⟨fun pins s σ H Q I h => ?_⟩
  refine wpAny_Call_method m.base m.few m.line PySem.F.plainAttrs_dict PySem.F.slot_dict_get PySem.F.type_dict_get (thn (ho.run pins s σ H _ I h) fun u s1 ⟨x, H1, I1, rx, p, es, n, ex, hl, hk, hd, q1⟩ => ?_)
  subst ex
  obtain rfl : u = Value.ref p := rx
  refine ⟨⟨_, I1.kIn p _ hl, rfl⟩, fun a e2 => (by cases e2; exact ⟨_, I1.kIn p _ hl, rfl⟩), ?_⟩
  rw [m.trees]
  refine Calls.callWith_builtin rfl (Calls.evalArgs_plain (Calls.spliced_cons (thn (he.run pins s1 σ H1 _ I1 q1) fun iv s2 ⟨y, H2, I2, ry, q2⟩ =>
    Calls.spliced_cons (thn (hf.run pins s2 σ H2 _ I2 q2) fun fv s3 ⟨z, H3, I3, rz, sx, ey, v, hv, q3⟩ => Calls.spliced_nil ?_))))
  subst ey
  obtain ⟨t, rfl⟩ := (show ∃ t, iv = Value.str sx t from ry)
  have hm := PySem.W.mapOf_K (prog := X.prog) (w := X.w) I3.kIn hl hk
  refine call_meetsIn PySem.F.slot_dict_get hm.typeIs PySem.F.entry_dict_get (PySem.F.args_dict_get_3 _ _ _) (meets_dict_get_default (strKind X.prog X.w) p (strKind_is X.prog X.w sx t) hd fv) ⟨_, hm, v, H3, I3.tok _, ?_, q3⟩
  cases hfb : findBy Value.isStrOf es sx with
  | some u => rw [hfb] at hv; exact hv
  | none => rw [hfb] at hv; subst hv; exact rz
def rCnt (K : PySem.W.Frag) : V → List V → Hp → VK → Prop := fun x xs H Q => ∃ (a : Addr) (ys : List V) (y : V), x = V.ref a ∧ xs = [y] ∧ SqL K H a ys ∧ flatV y = true ∧ ys.all flatV = true ∧ Q (.int (ys.countP fun z => eqV z y : Nat)) H
theorem countU {x : V} : ∀ {xs : List V} {us : List Value}, Vals xs us → xs.all flatV = true → us.countP (eqU x) = xs.countP fun y => eqV y x
  | _, _, .nil, _ => rfl
  | y :: xs, u :: us, .cons r t, f => by
    rw [List.all_cons, Bool.and_eq_true] at f
    rw [List.countP_cons, List.countP_cons, countU t f.2, eqU_of r f.1]
theorem mt_count : MtR X "list.count" (rCnt X.K) := by
  intro pins s σ H x xs v us Q I rx rxs h
  obtain ⟨a, ys, y, rfl, rfl, hs, fy, fys, q⟩ := h
  cases rx
  obtain ⟨u, rfl, ru⟩ := rxs.one
  obtain ⟨its, rv, ⟨⟨cls, dd, data, sl⟩, n, ho, hc, hdn, hd⟩, hlen⟩ := I.list hs
  simp only at hc hd
  subst hc hd
  refine call_meets PySem.F.slot_list_count ⟨_, ho, rfl⟩ PySem.F.entry_list_count (PySem.F.args_list_count_2 _ _)
    (SeqAt.list_countAt a its.toArray n dd sl u (eqU y)) ⟨ho, fun u' hu' => mem_eqAt ru fy rv fys u' (by simpa using hu'), ?_⟩
  refine ⟨.int (ys.countP fun z => eqV z y : Nat), H, I.tok _, ⟨s.toks, ?_⟩, q⟩
  show Value.int ((its.toArray.toList.countP (eqU y) : Nat) : Int) s.toks = _
  rw [show its.toArray.toList = its by simp, countU rv fys]
/-- a o1 b o2 c o3 d -/
def tCh3 (r1 r2 r3 : R2) (ta tb tc td : TE) : TE := fun σ H Q => ta σ H fun x H1 => tb σ H1 fun y H2 => r1 x y H2 fun z H3 => ∃ k, z = .bl k ∧
  (if k = true then tc σ H3 fun u H4 => r2 y u H4 fun z2 H5 => ∃ k2, z2 = .bl k2 ∧ (if k2 = true then td σ H5 fun v H6 => r3 u v H6 Q else Q (.bl false) H5) else Q (.bl false) H3)
section
variable {o1 o2 o3 : CmpOp} {r1 r2 r3 : R2} {a b c d : Expr} {ta tb tc td : TE} {pos : Pos}
theorem pe_ch3 (h1 : OpR X (compareOp o1) r1) (h2 : OpR X (compareOp o2) r2) (h3 : OpR X (compareOp o3) r3) (ha : PE X a ta) (hb : PE X b tb) (hc : PE X c tc) (hd : PE X d td)
    (hm : lastMarks [o1, o2, o3] [b, c, d] = false) : PE X (.Compare a [o1, o2, o3] [b, c, d] pos) (tCh3 r1 r2 r3 ta tb tc td) := by
  refine ⟨fun pins s σ H Q I h => ?_⟩
  refine Compare_chain (thn (ha.run pins s σ H _ I h) fun v s1 ⟨x, H1, I1, e1, q1⟩ => chain_link (thn (hb.run pins s1 σ H1 _ I1 q1) fun u s2 ⟨y, H2, I2, e2, q2⟩ =>
    thn (h1 pins s2 σ H2 x y v u _ I2 e1 e2 q2) fun dv s3 ⟨z, H3, I3, e3, k, e, q3⟩ => ?_)) hm
  subst e
  cases e3
  refine wpAny_truthy_bool ?_
  cases k with
  | false => exact ite_ff ⟨.bl false, H3, I3, rfl, q3⟩
  | true =>
    refine ite_tt (chain_link (thn (hc.run pins s3 σ H3 _ I3 q3) fun w' s4 ⟨z', H4, I4, e4, q4⟩ => thn (h2 pins s4 σ H4 y z' u w' _ I4 e2 e4 q4) fun dv2 s5 ⟨z2, H5, I5, e5, k2, e', q5⟩ => ?_))
    subst e'
    cases e5
    refine wpAny_truthy_bool ?_
    cases k2 with
    | false => exact ite_ff ⟨.bl false, H5, I5, rfl, q5⟩
    | true => exact ite_tt (chain_last (thn (hd.run pins s5 σ H5 _ I5 q5) fun w2 s6 ⟨z3, H6, I6, e6, q6⟩ => h3 pins s6 σ H6 z' z3 w' w2 Q I6 e4 e6 q6))
theorem pt_ch3 (h1 : OpR X (compareOp o1) r1) (h2 : OpR X (compareOp o2) r2) (h3 : OpR X (compareOp o3) r3) (ha : PE X a ta) (hb : PE X b tb) (hc : PE X c tc) (hd : PE X d td)
    (hm : lastMarks [o1, o2, o3] [b, c, d] = false) : PT X (.Compare a [o1, o2, o3] [b, c, d] pos) (tTest (tCh3 r1 r2 r3 ta tb tc td)) := by
  refine ⟨fun pins s σ H Q I h => ?_⟩
  refine isTrue_chain (thn (ha.run pins s σ H _ I h) fun v s1 ⟨x, H1, I1, e1, q1⟩ => test_link (thn (hb.run pins s1 σ H1 _ I1 q1) fun u s2 ⟨y, H2, I2, e2, q2⟩ =>
    thn (h1 pins s2 σ H2 x y v u _ I2 e1 e2 q2) fun dv s3 ⟨z, H3, I3, e3, k, e, q3⟩ => ?_)) hm
  subst e
  cases e3
  refine wpAny_truthy_bool ?_
  cases k with
  | false =>
    obtain ⟨k', e', q'⟩ := q3
    cases e'
    exact ite_ff ⟨H3, I3, q'⟩
  | true =>
    refine ite_tt (test_link (thn (hc.run pins s3 σ H3 _ I3 q3) fun w' s4 ⟨z', H4, I4, e4, q4⟩ => thn (h2 pins s4 σ H4 y z' u w' _ I4 e2 e4 q4) fun dv2 s5 ⟨z2, H5, I5, e5, k2, e', q5⟩ => ?_))
    subst e'
    cases e5
    refine wpAny_truthy_bool ?_
    cases k2 with
    | false =>
      obtain ⟨k', e', q'⟩ := q5
      cases e'
      exact ite_ff ⟨H5, I5, q'⟩
    | true =>
      refine ite_tt (test_last (thn (hd.run pins s5 σ H5 _ I5 q5) fun w2 s6 ⟨z3, H6, I6, e6, q6⟩ => thn (h3 pins s6 σ H6 z' z3 w' w2 _ I6 e4 e6 q6) fun d' s7 ⟨z4, H7, I7, e7, k3, e', q7⟩ => ?_))
      subst e'
      cases e7
      exact wpAny_truthy_bool ⟨H7, I7, q7⟩
end
end
section
variable {g : Gc} {cl : Clx} {xa : Fx} {M : Nm} {cx : EC} {sc : Scope} {k : Nat} {X : Cx} {n : Nat} {ω : Om} {H : Hp} {σ : L2.St} {env : Env} {W : WX} {Q : VK}
theorem RVs.rev : ∀ {l : List Val} {xs : List V}, RVs g ω H l xs → RVs g ω H l.reverse xs.reverse
  | [], _, h => by rw [show _ = ([] : List V) from h]; rfl
  | v :: l, _, ⟨x, r, h1, h2, h3⟩ => by
    rw [h1, List.reverse_cons, List.reverse_cons]
    exact (RVs.rev h3).append ⟨x, [], rfl, h2, rfl⟩
theorem ok_bad {α : Type} {f : Env → R α} {P : α → Env → Om → Hp → Prop} (hf : ∀ env, f env = .no) (p : Post g cl xa n ω H σ (f env) P W) : False := by
  rw [hf] at p; exact p
theorem ok_edc {e : Expr} (h : E.edc.chk M sc e = true) : OkO g cl xa X (fun env => E.edc.ev cx env) e := by
  intro n ω H env σ Q W r tk p
  simp only [E.chk] at h
  split at h
  · next pos =>
    refine se_of pe_dnewK fun pp hp => ?_
    have x0 : Ext n ω H (lab ω pp none) (upd H pp (.dK [])) := new_ext r.trk hp (fun q => nomatch q)
    have r0 := r.new (k := none) hp (ow_dK (kvs := []))
    have p' : Post g cl xa n ω H σ (.ok (Opd.t (.v (.dct [] []))) env) (fun o _ ω' H' => ∀ x, RO g cl xa ω' H' σ n o x → Q x H') W := p
    exact p' _ _ x0 r0 _ ⟨⟨rfl, rfl⟩, pp, rfl, lab_same, upd_same⟩
  · cases h
theorem ok_rev (C : Cok g M cx sc k X) {a : E} {e : Expr} (h : (E.rev a).chk M sc e = true) (ia : ∀ e, a.chk M sc e = true → OkO g cl xa X (fun env => a.ev cx env) e) : OkO g cl xa X (fun env => (E.rev a).ev cx env) e := by
  intro n ω H env σ Q W r tk p
  simp only [E.chk] at h
  split at h
  · next v kk p1 p2 p3 pos =>
    simp only [E.ev] at p
    refine se_of (pe_revT (pe_se X v)) (ia v h n ω H env σ _ W r tk ((Post.bind p).imp fun o env1 ω1 H1 e1 r1 p1 x ro => ?_))
    split at p1
    · next l hl =>
      obtain ⟨k1, a, xs, ex, ht, hv⟩ := ro.rd r1 hl
      refine ⟨a, xs, ex, by rw [C.K]; exact ht.sq, ?_⟩
      exact (Fin.of p1).tup r1 hv.rev
    · exact p1.elim
  · cases h
theorem ok_mget (C : Cok g M cx sc k X) {m : Nat} {q d : E} {e : Expr} (h : (E.mget m q d).chk M sc e = true)
    (iq : ∀ e, q.chk M sc e = true → OkO g cl xa X (fun env => q.ev cx env) e) (id_ : ∀ e, d.chk M sc e = true → OkO g cl xa X (fun env => d.ev cx env) e) : OkO g cl xa X (fun env => (E.mget m q d).ev cx env) e := by
  intro n ω H env σ Q W r tk p
  simp only [E.chk] at h
  split at h
  · next x px nm apos y z pos =>
    obtain ⟨hA, hB⟩ := and_t h
    obtain ⟨h1, hC⟩ := and_t hA
    obtain ⟨h1, h2⟩ := and_t h1
    obtain ⟨h3, h4⟩ := and_t hC
    obtain ⟨h4, h5⟩ := and_t h4
    obtain ⟨h5, _⟩ := and_t h5
    obtain ⟨h8, h9⟩ := and_t hB
    obtain ⟨h8, k8⟩ := and_t h8
    obtain ⟨h9, k9⟩ := and_t h9
    rw [seq_ok h1]
    have hst := star_eq k8 [z] X.env
    have hst2 := star_eq k9 [] X.env
    have m2 : M2 X (.Name x px) "get" apos y z pos := ⟨rfl, by rw [hst, hst2]; rfl, h2, by rw [hst, hst2]; rfl⟩
    simp only [E.ev] at p
    split at p
    · next ks vs hg =>
      unfold gsAt at h3
      split at h3
      · next y' q2 =>
        obtain ⟨pp, e1, es, nn, hl, hk, hsm, hall⟩ := C.gd m y' ks vs q2 hg
        rw [seq_ok h3] at e1
        refine se_of (pe_kget (pe_glob (v := .ref pp) (gl_ok C h4) e1 rfl (by simpa using h5)) (pe_se X y) (pe_se X z) m2) ⟨pp, es, nn, rfl, by rw [C.K]; exact hl, hk, hsm, ?_⟩
        refine iq y h8 n ω H env σ _ W r tk ((Post.bind p).imp fun oq env1 ω1 H1 e1 r1 p1 y1 ro1 => ?_)
        refine id_ z h9 (n + 1) ω1 H1 env1 σ _ W r1 tk (((Post.bind p1).up (Nat.le_succ n)).imp fun od env2 ω2 H2 e2 r2 p2 z1 ro2 => ?_)
        split at p2
        · next s dv hs =>
          obtain ⟨k1, hy⟩ := (ro1.ext e2 (Nat.lt_succ_self n)).rd r2 hs
          refine ⟨⟨s.toArray⟩, hy, ?_⟩
          have hh := hall s
          cases hlk : lookK (.str s) ks vs with
          | some v =>
            rw [hlk] at hh
            obtain ⟨u, w, f1, f2, f3⟩ := hh
            refine ⟨w, by rw [f1]; exact f2, ?_⟩
            rw [hlk] at p2
            exact Post.here (a := Opd.t (.v v)) r2 p2 w (f3 ω2 H2)
          | none =>
            rw [hlk] at hh p2
            refine ⟨z1, by rw [hh], ?_⟩
            exact Post.here (a := Opd.t (.v dv)) r2 p2 z1 ro2
        · exact p2.elim
      · cases h3
    · exact p.elim
  · cases h
theorem lstF_ok {t : T} {x : V} {l : List Val} {kk : Lb} (h : RT g cl xa ω H kk t x) (e : lstF t = some l) : ∃ a xs, x = .ref a ∧ RVs g ω H l xs ∧ H a = some (.lst xs) := by
  cases t with
  | v v =>
    cases v with
    | lst l' => cases e; obtain ⟨a, xs, h1, h2, h3, h4⟩ := h; exact ⟨a, xs, h1, h4, h3⟩
    | _ => cases e
  | vl l' => cases e; obtain ⟨a, xs, h1, h2, h3, h4⟩ := h; exact ⟨a, xs, h1, h4, h3⟩
  | _ => cases e
theorem flat_count {v : Val} {x : V} (h : RV g ω H v x) (f : flat v = true) : ∀ {l : List Val} {xs : List V}, RVs g ω H l xs → l.all flat = true → (xs.countP fun z => eqV z x) = l.countP fun z => eqv z v
  | [], _, h, _ => by rw [show _ = ([] : List V) from h]; rfl
  | w :: l, _, ⟨y, r, h1, h2, h3⟩, f2 => by
    rw [List.all_cons] at f2
    obtain ⟨f3, f4⟩ := and_t f2
    rw [h1, List.countP_cons, List.countP_cons, flat_count h f h3 f4, flat_eq h2 h f3 f]
theorem flat_first {v : Val} {x : V} (h : RV g ω H v x) (f : flat v = true) : ∀ {l : List Val} {xs : List V} {j : Nat}, RVs g ω H l xs → l.all flat = true → firstV v l = some j →
    (∃ z, xs[j]? = some z ∧ eqV z x = true) ∧ ∀ (m : Nat) (z : V), m < j → xs[m]? = some z → eqV z x = false
  | [], _, _, _, _, e => by cases e
  | w :: l, _, j, ⟨y, r, h1, h2, h3⟩, f2, e => by
    rw [List.all_cons] at f2
    obtain ⟨f3, f4⟩ := and_t f2
    have q := flat_eq h2 h f3 f
    have e' : (match eqv w v with | true => some 0 | false => (firstV v l).map (· + 1)) = some j := e
    rw [h1]
    cases hz : eqv w v with
    | true =>
      rw [hz] at e' q
      cases e'
      exact ⟨⟨y, rfl, q⟩, fun m z hm => absurd hm (Nat.not_lt_zero m)⟩
    | false =>
      rw [hz] at e' q
      cases hr : firstV v l with
      | none => rw [hr] at e'; cases e'
      | some i =>
        rw [hr] at e'
        cases e'
        obtain ⟨q1, q2⟩ := flat_first h f h3 f4 hr
        refine ⟨by simpa using q1, fun m z hm hz' => ?_⟩
        cases m with
        | zero =>
          have : y = z := by simpa using hz'
          rw [← this]; exact q
        | succ m => exact q2 m z (Nat.lt_of_succ_lt_succ (show m + 1 < i + 1 from hm)) (by simpa using hz')
theorem const_pe {X : Cx} {c : Val} {q : Const} {kk : Nat} {pos : Pos} (h : constOk c q = true) (f : flat c = true) : ∃ x, (∀ ω H, RV g ω H c x) ∧ PE X (.Constant q kk pos) (tC x) := by
  cases c <;> cases q <;> first | (exact (Bool.false_ne_true h).elim) | (exact (Bool.false_ne_true f).elim) | skip
  · exact ⟨.non, fun _ _ => rfl, pe_non⟩
  · rename_i b c
    obtain rfl : b = c := eq_of_beq h
    exact ⟨.bl b, fun _ _ => rfl, pe_bl⟩
  · rename_i b c
    obtain rfl : b = c := of_decide_eq_true h
    exact ⟨.int b, fun _ _ => rfl, pe_int⟩
  · rename_i b c
    have : c.cps.toList = b := of_decide_eq_true h
    subst this
    exact ⟨.str c, fun _ _ => rfl, pe_str⟩
theorem ok_cnt (C : Cok g M cx sc k X) {i : Nat} {c : Val} {e : Expr} (h : (E.cnt i c).chk M sc e = true) : OkO g cl xa X (fun env => (E.cnt i c).ev cx env) e := by
  intro n ω H env σ Q W r tk p
  simp only [E.chk] at h
  split at h
  · next x px m apos q kk cp pos =>
    obtain ⟨h1, h2⟩ := and_t h
    obtain ⟨h2, h4⟩ := and_t h2
    obtain ⟨h2, h3⟩ := and_t h2
    rw [seq_ok h2]
    obtain ⟨g1, g2, g3, g4⟩ := vis_ok C h1
    simp only [E.ev] at p
    split at p
    · next t ht =>
      split at p
      · next m hm =>
        unfold cntF at hm
        split at hm
        · next l hl =>
          split at hm
          · next z =>
            cases hm
            obtain ⟨z1, z2⟩ := and_t z
            obtain ⟨y, q1, q2⟩ := r.at_ i t ht (by cases t <;> first | rfl | cases hl)
            obtain ⟨a, xs, ex, hv, ha⟩ := lstF_ok q2 hl
            subst ex
            obtain ⟨w, w1, w2⟩ := const_pe (g := g) (X := X) (kk := kk) (pos := cp) h4 z1
            refine se_of (pe_bm PySem.F.plainAttrs_list PySem.F.slot_list_count PySem.F.type_list_count mt_count (pe_var g1 g2 g3 g4) (pa_cons w2 pa_nil) rfl rfl h3 rfl rfl) ⟨_, q1, .inl ⟨rfl, xs, .inl (.inl ha)⟩, ?_⟩
            refine ⟨a, xs, w, rfl, rfl, .inl (.inl ha), flat_V (w1 ω H) z1, flat_all hv z2, ?_⟩
            rw [flat_count (w1 ω H) z1 hv z2]
            exact Post.here (a := Opd.t (.v (.int _))) r p _ rfl
          · cases hm
        · cases hm
      · exact p.elim
    · exact p.elim
  · cases h
theorem ok_idx (C : Cok g M cx sc k X) {i : Nat} {c : Val} {e : Expr} (h : (E.idx i c).chk M sc e = true) : OkO g cl xa X (fun env => (E.idx i c).ev cx env) e := by
  intro n ω H env σ Q W r tk p
  simp only [E.chk] at h
  split at h
  · next x px m apos q kk cp pos =>
    obtain ⟨h1, h2⟩ := and_t h
    obtain ⟨h2, h4⟩ := and_t h2
    obtain ⟨h2, h3⟩ := and_t h2
    rw [seq_ok h2]
    obtain ⟨g1, g2, g3, g4⟩ := vis_ok C h1
    simp only [E.ev] at p
    split at p
    · next t ht =>
      split at p
      · next m hm =>
        unfold idxF at hm
        split at hm
        · next l hl =>
          split at hm
          · next z =>
            obtain ⟨z1, z2⟩ := and_t z
            obtain ⟨y, q1, q2⟩ := r.at_ i t ht (by cases t <;> first | rfl | cases hl)
            obtain ⟨a, xs, ex, hv, ha⟩ := lstF_ok q2 hl
            subst ex
            obtain ⟨w, w1, w2⟩ := const_pe (g := g) (X := X) (kk := kk) (pos := cp) h4 z1
            refine se_of (pe_bm PySem.F.plainAttrs_list PySem.F.slot_list_index PySem.F.type_list_index mt_index (pe_var g1 g2 g3 g4) (pa_cons w2 pa_nil) rfl rfl h3 rfl rfl) ⟨_, q1, .inl ⟨rfl, xs, .inl (.inl ha)⟩, ?_⟩
            obtain ⟨⟨u, u1, u2⟩, u3⟩ := flat_first (w1 ω H) z1 hv z2 hm
            exact ⟨a, xs, w, m, u, rfl, rfl, .inl (.inl ha), flat_V (w1 ω H) z1, flat_all hv z2, u1, u2, u3, Post.here (a := Opd.t (.v (.int _))) r p _ rfl⟩
          · cases hm
        · cases hm
      · exact p.elim
    · exact p.elim
  · cases h
theorem ok_ch3 (C : Cok g M cx sc k X) {o1 o2 o3 : Cp} {a b c d : E} {e : Expr} (h : (E.ch3 o1 o2 o3 a b c d).chk M sc e = true)
    (ia : ∀ e, a.chk M sc e = true → OkO g cl xa X (fun env => a.ev cx env) e) (ib : ∀ e, b.chk M sc e = true → OkO g cl xa X (fun env => b.ev cx env) e) (ic : ∀ e, c.chk M sc e = true → OkO g cl xa X (fun env => c.ev cx env) e)
    (id_ : ∀ e, d.chk M sc e = true → OkO g cl xa X (fun env => d.ev cx env) e) :
    OkO g cl xa X (fun env => (E.ch3 o1 o2 o3 a b c d).ev cx env) e ∧ OkT g cl xa X (fun env => (E.ch3 o1 o2 o3 a b c d).ev cx env) e := by
  simp only [E.chk] at h
  split at h
  · next l op1 op2 op3 r1 r2 r3 pos =>
    obtain ⟨h1, h2⟩ := and_t h
    obtain ⟨g1, g2⟩ := and_t h1
    obtain ⟨g2, g3⟩ := and_t g2
    obtain ⟨h2, h3⟩ := and_t h2
    obtain ⟨h3, h4⟩ := and_t h3
    obtain ⟨h4, h5⟩ := and_t h4
    obtain ⟨h5, h6⟩ := and_t h5
    have main : ∀ (P : Opd → Env → Om → Hp → Prop) (Q : VK) (n : Nat) (ω : Om) (H : Hp) (env : Env) (σ : L2.St) (W : WX), Rel g cl xa ω H env σ → Takes X W →
        Post g cl xa n ω H σ ((E.ch3 o1 o2 o3 a b c d).ev cx env) P W → (∀ b env ω H, Rel g cl xa ω H env σ → P (.t (.v (.bool b))) env ω H → Q (.bl b) H) →
        tCh3 (SOp X (compareOp op1)) (SOp X (compareOp op2)) (SOp X (compareOp op3)) (SE X l) (SE X r1) (SE X r2) (SE X r3) σ H Q := by
      intro P Q n ω H env σ W r tk p hP
      simp only [E.ev] at p
      refine ia l h2 n ω H env σ _ W r tk ((Post.bind p).imp fun oa env1 ω1 H1 e1 q1 p1 x ro => ?_)
      refine ib r1 h3 (n + 1) ω1 H1 env1 σ _ W q1 tk (((Post.bind p1).up (Nat.le_succ n)).imp fun ob env2 ω2 H2 e2 q2 p2 y ro2 => ?_)
      cases z1 : rd env2 oa with
      | none => rw [z1] at p2; exact p2.elim
      | some ta =>
        rw [z1] at p2
        obtain ⟨k1, ha⟩ := (ro.ext e2 (Nat.lt_succ_self n)).rd q2 z1
        split at p2
        · next ta' vb zz =>
          cases zz
          have hb : RT g cl xa ω2 H2 (.tmp (n + 1)) (.v vb) y := ro2
          cases z2 : cmpF o1 ta (.v vb) with
          | none => simp only [z2] at p2; exact p2.elim
          | some t =>
            simp only [z2] at p2
            refine cmp_ok C.K C.hu g1 ha hb z2 ⟨t, rfl, ?_⟩
            cases t with
            | false => exact hP false env2 ω2 H2 q2 (Post.here (a := Opd.t (.v (.bool false))) q2 p2)
            | true =>
              rw [if_pos rfl]
              refine ic r2 h4 (n + 2) ω2 H2 env2 σ _ W q2 tk (((Post.bind p2).up (by omega)).imp fun oc env3 ω3 H3 e3 q3 p3 w' ro3 => ?_)
              split at p3
              · next vc =>
                have hc : RT g cl xa ω3 H3 (.tmp (n + 2)) (.v vc) w' := ro3
                have hb' : RT g cl xa ω3 H3 (.tmp (n + 1)) (.v vb) y := RT.keep e3.kp (e3.tmp _ (by omega)) hb
                cases z4 : cmpF o2 (.v vb) (.v vc) with
                | none => simp only [z4] at p3; exact p3.elim
                | some t =>
                  simp only [z4] at p3
                  refine cmp_ok C.K C.hu g2 hb' hc z4 ⟨t, rfl, ?_⟩
                  cases t with
                  | false => exact hP false env3 ω3 H3 q3 (Post.here (a := Opd.t (.v (.bool false))) q3 p3)
                  | true =>
                    rw [if_pos rfl]
                    refine id_ r3 h5 (n + 3) ω3 H3 env3 σ _ W q3 tk (((Post.bind p3).up (by omega)).imp fun od env4 ω4 H4 e4 q4 p4 w2 ro4 => ?_)
                    cases z5 : rd env4 od with
                    | none => rw [z5] at p4; exact p4.elim
                    | some td =>
                      rw [z5] at p4
                      obtain ⟨k4, hd⟩ := ro4.rd q4 z5
                      have hc' : RT g cl xa ω4 H4 (.tmp (n + 2)) (.v vc) w' := RT.keep e4.kp (e4.tmp _ (by omega)) hc
                      cases z6 : cmpF o3 (.v vc) td with
                      | none => simp only [z6] at p4; exact p4.elim
                      | some t =>
                        simp only [z6] at p4
                        exact cmp_ok C.K C.hu g3 hc' hd z6 (hP t env4 ω4 H4 q4 (Post.here (a := Opd.t (.v (.bool t))) q4 p4))
              · exact p3.elim
        · exact p2.elim
    have hm : lastMarks [op1, op2, op3] [r1, r2, r3] = false := by
      show behindInMarks op3 r3 = false
      exact marks_ok h6
    constructor
    · intro n ω H env σ Q W r tk p
      exact se_of (pe_ch3 (opr X _) (opr X _) (opr X _) (pe_se X l) (pe_se X r1) (pe_se X r2) (pe_se X r3) hm) (main _ _ n ω H env σ W r tk p fun b env ω H r h => h _ rfl)
    · intro n ω H env σ Q W r tk p
      refine st_of (pt_ch3 (opr X _) (opr X _) (opr X _) (pe_se X l) (pe_se X r1) (pe_se X r2) (pe_se X r3) hm) (main _ _ n ω H env σ W r tk (Post.bind p) fun b env ω H r h => ⟨b, rfl, Post.here r h⟩)
  · cases h
end
end Py
set_option maxHeartbeats 1000000
namespace Py
open PySem PySem.Spec PyProof.Rows L2
section
variable {g : Gc} {cl : Clx} {xa : Fx} {M : Nm} {cx : EC} {sc : Scope} {k : Nat} {X : Cx} {n : Nat} {ω : Om} {H : Hp} {σ : L2.St} {env : Env} {W : WX} {Q : VK}
/-! ### a dict's display -/
theorem keyV_of {v : Val} (h : keyB v = true) : ∃ q, keyV v = some q := by
  cases v <;> first | exact (Bool.false_ne_true h).elim | exact ⟨_, rfl⟩
theorem has_any {k : Val} {q : Key} (hk : keyV k = some q) : ∀ {ks vs : List Val} {kvs : List (Key × V)}, DK g ω H ks vs kvs → (kvs.any fun kv => decide (kv.1 = q)) = hasK k ks
  | [], [], _, h => by rw [show _ = ([] : List (Key × V)) from h]; rfl
  | [], _ :: _, _, h => h.elim
  | _ :: _, [], _, h => h.elim
  | x :: ks, w :: vs, _, ⟨p, y, r, h1, h2, h3, h4⟩ => by
    have ke := key_eq h2 hk
    rw [h1, List.any_cons, has_any hk h4]
    show (decide (p = q) || hasK k ks) = (eqv x k || hasK k ks)
    cases hq : eqv x k with
    | true => rw [decide_eq_true (ke.mp hq)]
    | false => rw [decide_eq_false fun z => (by rw [ke.mpr z] at hq; cases hq)]
theorem put_map {k v : Val} {q : Key} {y : V} (hk : keyV k = some q) (hv : RV g ω H v y) : ∀ {ks vs : List Val} {kvs : List (Key × V)}, DK g ω H ks vs kvs → DK g ω H ks (putV k v ks vs) (kvs.map fun kv => if kv.1 = q then (kv.1, y) else kv)
  | [], [], _, h => by rw [show _ = ([] : List (Key × V)) from h]; rfl
  | [], _ :: _, _, h => h.elim
  | _ :: _, [], _, h => h.elim
  | x :: ks, w :: vs, _, ⟨p, z, r, h1, h2, h3, h4⟩ => by
    have ke := key_eq h2 hk
    have ih := put_map hk hv h4
    rw [h1, List.map_cons]
    show DK g ω H (x :: ks) ((match eqv x k with | true => v | false => w) :: putV k v ks vs) _
    cases hq : eqv x k with
    | true => exact ⟨p, y, _, by rw [if_pos (ke.mp hq)], h2, hv, ih⟩
    | false => exact ⟨p, z, _, by rw [if_neg fun z => (by rw [ke.mpr z] at hq; cases hq)], h2, h3, ih⟩
theorem dk_app : ∀ {ks vs ks2 vs2 : List Val} {kvs kvs2 : List (Key × V)}, DK g ω H ks vs kvs → DK g ω H ks2 vs2 kvs2 → DK g ω H (ks ++ ks2) (vs ++ vs2) (kvs ++ kvs2)
  | [], [], _, _, _, _, h, h2 => by rw [show _ = ([] : List (Key × V)) from h]; exact h2
  | [], _ :: _, _, _, _, _, h, _ => h.elim
  | _ :: _, [], _, _, _, _, h, _ => h.elim
  | x :: ks, w :: vs, _, _, _, _, ⟨p, z, r, h1, h2, h3, h4⟩, h5 => by
    rw [h1]
    exact ⟨p, z, _, rfl, h2, h3, dk_app h4 h5⟩
/-- a store -/
theorem dk_put {k v : Val} {q : Key} {y : V} {ks vs : List Val} {kvs : List (Key × V)} (hk : keyV k = some q) (hv : RV g ω H v y) (h : DK g ω H ks vs kvs) : ∃ a b, putD k v ks vs = .vd a b ∧ DK g ω H a b (putK kvs q y) := by
  have ha := has_any hk h
  unfold putD putK
  rw [ha]
  cases hq : hasK k ks with
  | true => exact ⟨_, _, rfl, by rw [if_pos rfl]; exact put_map hk hv h⟩
  | false => exact ⟨_, _, rfl, by rw [if_neg Bool.false_ne_true]; exact dk_app h ⟨q, y, [], rfl, hk, hv, rfl⟩⟩
theorem dk_disp : ∀ {ks us : List Val} {qs : List Key} {xs : List V} {a b : List Val} {kvs : List (Key × V)}, ks.map keyV = qs.map some → RVs g ω H us xs → ks.length = us.length → DK g ω H a b kvs → ∃ a' b', dispD ks us a b = .vd a' b' ∧ DK g ω H a' b' (mergeK kvs (qs.zip xs))
  | [], [], qs, xs, a, b, kvs, h1, h2, _, h => by
    cases qs with
    | nil => exact ⟨a, b, rfl, h⟩
    | cons _ _ => cases h1
  | [], _ :: _, _, _, _, _, _, _, _, hl, _ => by cases hl
  | _ :: _, [], _, _, _, _, _, _, _, hl, _ => by cases hl
  | k :: ks, u :: us, qs, _, a, b, kvs, h1, ⟨x, r, e, hx, hr⟩, hl, h => by
    cases qs with
    | nil => cases h1
    | cons q qs =>
      have h1' : keyV k :: ks.map keyV = some q :: qs.map some := h1
      injection h1' with hq hqs
      obtain ⟨a1, b1, e1, d1⟩ := dk_put hq hx h
      obtain ⟨a2, b2, e2, d2⟩ := dk_disp (kvs := putK kvs q x) hqs hr (by simpa using hl) d1
      refine ⟨a2, b2, ?_, by rw [e]; exact d2⟩
      show (match putD k u a b with | .vd a b => dispD ks us a b | t => t) = _
      rw [e1]; exact e2
theorem ppv_of {pos : Pos} : ∀ {ks : List Val} {keys : List (Option Expr)} {vals : List Expr}, keysV ks keys = true → keys.length = vals.length →
    ∃ qs : List Key, ks.map keyV = qs.map some ∧ PPs X pos keys vals ((qs.zip vals).map fun p => (tC (kV p.1), SE X p.2)) ∧ qs.length = vals.length ∧ keys.all (·.isSome) = true
  | [], [], [], _, _ => ⟨[], rfl, pps_nil, rfl, rfl⟩
  | k :: ks, keys, vals, h, hl => by
    unfold keysV at h
    split at h
    · next q => cases q
    · next k' ks' c j pz es q =>
      cases q
      obtain ⟨h1, h2⟩ := and_t h
      obtain ⟨h1, h3⟩ := and_t h1
      cases vals with
      | nil => simp at hl
      | cons v vals =>
        obtain ⟨qs, q0, q1, q2, q3⟩ := ppv_of (pos := pos) h2 (by simpa using hl)
        have key : ∃ q, keyV k = some q ∧ PE X (.Constant c j pz) (tC (kV q)) := by
          cases k with
          | int a =>
            cases c with
            | int b =>
              obtain rfl : a = b := of_decide_eq_true h3
              exact ⟨.inl a, rfl, pe_int⟩
            | _ => exact (Bool.false_ne_true h3).elim
          | str a =>
            cases c with
            | str b =>
              have e : b.cps.toList = a := of_decide_eq_true h3
              subst e
              exact ⟨.inr b, rfl, pe_str⟩
            | _ => exact (Bool.false_ne_true h3).elim
          | _ => exact (Bool.false_ne_true h1).elim
        obtain ⟨q, e1, e2⟩ := key
        exact ⟨q :: qs, by rw [List.map_cons, List.map_cons, q0, e1], pps_cons e2 (pe_se X v) q1, by rw [List.length_cons, List.length_cons, q2], by simpa using q3⟩
    · cases h
  | [], k :: keys, vals, h, hl => by cases h
  | [], [], v :: vals, h, hl => by cases hl
def OkQ (g : Gc) (cl : Clx) (xa : Fx) (X : Cx) (f : Env → R (List Opd)) (es : List Expr) : Prop := ∀ (qs : List Key) n ω H env σ (Q : List (V × V) → Hp → Prop) W, qs.length = es.length → Rel g cl xa ω H env σ → Takes X W →
  Post g cl xa n ω H σ (f env) (fun os _ ω' H' => ∀ xs, ROs g cl xa ω' H' σ n os xs → Q ((qs.map kV).zip xs) H') W → tPairs ((qs.zip es).map fun p => (tC (kV p.1), SE X p.2)) σ H Q
theorem okq_nil {l : List Expr} (h : Es.nil.chk M sc l = true) : OkQ g cl xa X (fun env => Es.nil.ev cx env) l := by
  intro qs n ω H env σ Q W hl r tk p
  simp only [Es.chk] at h
  split at h
  · have : qs = [] := List.length_eq_zero_iff.mp hl
    subst this
    exact Post.here (a := ([] : List Opd)) r p [] rfl
  · cases h
theorem okq_cons {a : E} {rs : Es} {l : List Expr} (h : (Es.cons a rs).chk M sc l = true) (ia : ∀ e, a.chk M sc e = true → OkO g cl xa X (fun env => a.ev cx env) e)
    (ir : ∀ l, rs.chk M sc l = true → OkQ g cl xa X (fun env => rs.ev cx env) l) : OkQ g cl xa X (fun env => (Es.cons a rs).ev cx env) l := by
  intro qs n ω H env σ Q W hl r tk p
  simp only [Es.chk] at h
  split at h
  · next x xs =>
    obtain ⟨h1, h2⟩ := and_t h
    obtain ⟨h1, _⟩ := and_t h1
    cases qs with
    | nil => simp at hl
    | cons q qs =>
      simp only [Es.ev] at p
      refine ia x h1 n ω H env σ _ W r tk ((Post.bind p).imp fun o env1 ω1 H1 e1 r1 p1 y ro => ?_)
      refine ir xs h2 qs (n + 1) ω1 H1 env1 σ (fun ps H' => Q ((kV q, y) :: ps) H') W (by simpa using hl) r1 tk (((Post.bind p1).up (Nat.le_succ n)).imp fun os env2 ω2 H2 e2 r2 p2 ys ros => ?_)
      exact Post.here (a := o :: os) r2 p2 (y :: ys) ⟨y, ys, rfl, ro.ext e2 (Nat.lt_succ_self n), ros⟩
  · cases h
theorem zip_kV : ∀ (qs : List Key) (xs : List V), (qs.map kV).zip xs = (qs.zip xs).map fun kv => (kV kv.1, kv.2)
  | [], _ => rfl
  | _ :: _, [] => rfl
  | q :: qs, x :: xs => by
    show (kV q, x) :: (qs.map kV).zip xs = (kV q, x) :: (qs.zip xs).map fun kv => (kV kv.1, kv.2)
    rw [zip_kV qs xs]
theorem ok_dic (C : Cok g M cx sc k X) {ks : List Val} {vs : Es} {e : Expr} (h : (E.dic ks vs).chk M sc e = true) (iv : ∀ l, vs.chk M sc l = true → OkQ g cl xa X (fun env => vs.ev cx env) l) : OkO g cl xa X (fun env => (E.dic ks vs).ev cx env) e := by
  intro n ω H env σ Q W r tk p
  simp only [E.chk] at h
  split at h
  · next keys vals dpos =>
    obtain ⟨h3, hC⟩ := and_t h
    obtain ⟨h4, hC⟩ := and_t hC
    obtain ⟨h5, hC⟩ := and_t hC
    obtain ⟨h6, h7⟩ := and_t hC
    have hlen : keys.length = vals.length := eq_of_beq h5
    obtain ⟨qs, hqs, PP, hkl, hall⟩ := ppv_of (X := X) (pos := dpos) h3 hlen
    refine se_of (pe_disp PP hall hlen (fun z => by rw [z] at h6; cases h6) (Nat.le_of_ble_eq_true h7)) ?_
    have p' : Post g cl xa n ω H σ ((E.dic ks vs).ev cx env) (fun o _ ω' H' => ∀ x, RO g cl xa ω' H' σ n o x → Q x H') W := p
    simp only [E.ev] at p'
    intro pp hp
    have x0 : Ext n ω H (lab ω pp (some (.tmp n))) (upd H pp (.dK [])) := new_ext r.trk hp (fun q => nomatch q)
    have r0 := r.new (k := some (.tmp n)) hp (ow_dK (kvs := []))
    refine iv vals h4 qs (n + 1) _ _ env σ _ W hkl r0 tk (((Post.trans (Post.bind p') x0).up (Nat.le_succ n)).imp fun os env1 ω1 H1 e1 r1 p1 xs ros => ?_)
    obtain ⟨l1, d1⟩ := e1.tmp n (Nat.lt_succ_self n) pp lab_same
    refine ⟨d1.trans upd_same, qs.zip xs, zip_kV qs xs, ?_, ?_⟩
    · rw [List.length_zip]
      have := Nat.le_of_ble_eq_true h7
      omega
    · cases hes : escs os env1 with
      | ex _ _ => exact (escs_noex hes).elim
      | no => rw [hes] at p1; exact p1.elim
      | ok us env2 =>
        rw [hes] at p1
        obtain ⟨ω2, x2, r2, v2⟩ := escs_ok r1 ros hes
        obtain ⟨l2, _⟩ := x2.tmp n (Nat.lt_succ_self n) pp l1
        have kp3 : Kp ω2 H1 ω2 (upd H1 pp (.dK (mergeK [] (qs.zip xs)))) := wr_kp l2
        have r3 := r2.keep kp3 (fun i => wr_kk l2 (fun q => nomatch q)) (wr_trk r2.trk l2 ow_dK)
        have x3 : Ext n ω2 H1 ω2 (upd H1 pp (.dK (mergeK [] (qs.zip xs)))) := wr_ext l2 (fun q => nomatch q) fun m hm q => by cases q; exact Nat.lt_irrefl _ hm
        cases hul : Nat.beq ks.length us.length with
        | false =>
          have p2 : Post g cl xa n ω1 H1 σ (match Nat.beq ks.length us.length with
            | true => Py.R.ok (Opd.t (dispD ks us [] [])) env2
            | false => .no) (fun o _ ω' H' => ∀ x, RO g cl xa ω' H' σ n o x → Q x H') W := p1
          rw [hul] at p2
          exact p2.elim
        | true =>
          obtain ⟨a', b', e4, d4⟩ := dk_disp (a := []) (b := []) (kvs := []) hqs (v2.kp' kp3) (Nat.eq_of_beq_eq_true hul) (show DK g ω2 _ [] [] [] from rfl)
          have p2 : Post g cl xa n ω1 H1 σ (match Nat.beq ks.length us.length with
            | true => Py.R.ok (Opd.t (dispD ks us [] [])) env2
            | false => .no) (fun o _ ω' H' => ∀ x, RO g cl xa ω' H' σ n o x → Q x H') W := p1
          rw [hul, e4] at p2
          exact p2 ω2 _ ((x2.mono (Nat.le_succ n)).trans x3) r3 _ ⟨pp, _, rfl, l2, upd_same, d4⟩
  · cases h
end
end Py
set_option maxHeartbeats 1000000
namespace Py
open PySem PySem.Spec PyProof.Rows L2
section
variable {g : Gc} {cl : Clx} {xa : Fx} {M : Nm} {cx : EC} {sc : Scope} {k : Nat} {X : Cx} {n : Nat} {ω : Om} {H : Hp} {σ : L2.St} {env : Env} {W : WX} {Q : VK}
theorem seq0 (n : Nat) : seqIndex? 0 (n + 1) = some 0 := by
  unfold seqIndex?
  simp
/-- name.pop(0) -/
theorem ok_pop0 (C : Cok g M cx sc k X) {i : Nat} {e : Expr} (h : (E.pop0 i).chk M sc e = true) : OkO g cl xa X (fun env => (E.pop0 i).ev cx env) e := by
  intro n ω H env σ Q W r tk p
  simp only [E.chk] at h
  split at h
  · next x px m apos q kk cp pos =>
    obtain ⟨h1, h2⟩ := and_t h
    obtain ⟨h2, h4⟩ := and_t h2
    obtain ⟨h2, h3⟩ := and_t h2
    rw [seq_ok h2]
    obtain ⟨g1, g2, g3, g4⟩ := vis_ok C h1
    obtain ⟨w, w1, w2⟩ := const_pe (g := g) (X := X) (c := .int 0) (kk := kk) (pos := cp) h4 rfl
    obtain rfl : w = .int 0 := w1 ω H
    simp only [E.ev] at p
    split at p
    · next l hl =>
      cases l with
      | nil => exact p.elim
      | cons y l =>
        obtain ⟨z, q1, a, xs, q2, q3, q4, v, ys, q5, q6, q7⟩ := r.at_ i (.vl (y :: l)) hl
        subst q2 q5
        refine se_of (pe_bm PySem.F.plainAttrs_list PySem.F.slot_list_pop PySem.F.type_list_pop mt_popAt (pe_var g1 g2 g3 g4) (pa_cons w2 pa_nil) rfl rfl h3 rfl rfl) ⟨_, q1, .inl ⟨rfl, v :: ys, .inl (.inl q4)⟩, ?_⟩
        refine ⟨a, v :: ys, 0, 0, v, rfl, rfl, q4, by decide, by decide, by rw [List.length_cons]; exact seq0 _, rfl, ?_⟩
        have kp : Kp ω H ω (upd H a (.lst ys)) := wr_kp q3
        have r' : Rel g cl xa ω (upd H a (.lst ys)) (st env i (some (.vl l))) σ := by
          refine ⟨by rw [st_length, r.len], fun j u hj => ?_, r.fix, wr_trk r.trk q3 ow_lst⟩
          rw [gt_st] at hj
          by_cases zz : j = i ∧ i < env.length
          · rw [if_pos zz] at hj; cases hj
            exact ⟨.ref a, fun _ => by rw [zz.1]; exact q1, a, _, rfl, by rw [zz.1]; exact q3, upd_same, q7.kp' kp⟩
          · rw [if_neg zz] at hj
            obtain ⟨u', z1, z2⟩ := r.at0 j u hj
            have hlt := gt_lt hj
            have ne : i ≠ j := fun q => zz ⟨q.symm, by rw [q]; exact hlt⟩
            exact ⟨u', z1, z2.keep kp (wr_kk q3 (slot_ne (Ne.symm ne)))⟩
        exact p ω _ (wr_ext q3 (fun q => nomatch q) (fun m hm q => nomatch q)) r' v (q6.kp' kp)
    · exact p.elim
  · cases h
/-- [..].index(x) -/
theorem ok_idxl (C : Cok g M cx sc k X) {es : Es} {b : E} {e : Expr} (h : (E.idxl es b).chk M sc e = true) (ia : ∀ l, es.chk M sc l = true → OkA g cl xa X (fun env => es.ev cx env) l)
    (ib : ∀ e, b.chk M sc e = true → OkO g cl xa X (fun env => b.ev cx env) e) : OkO g cl xa X (fun env => (E.idxl es b).ev cx env) e := by
  intro n ω H env σ Q W r tk p
  simp only [E.chk] at h
  split at h
  · next xs lpos m apos y pos =>
    obtain ⟨h1, h2⟩ := and_t h
    obtain ⟨h1, h3⟩ := and_t h1
    obtain ⟨h4, h5⟩ := and_t h2
    obtain ⟨h5, h6⟩ := and_t h5
    rw [seq_ok h1]
    have hst := star_eq h6 [] X.env
    have p' : Post g cl xa n ω H σ ((E.idxl es b).ev cx env) (fun o _ ω' H' => ∀ x, RO g cl xa ω' H' σ n o x → Q x H') W := p
    simp only [E.ev] at p'
    refine se_of (pe_bm (X := X) PySem.F.plainAttrs_list PySem.F.slot_list_index PySem.F.type_list_index mt_index (pe_lst (pa_sa X xs)) (pa_cons (pe_se X y) pa_nil (star_eq h6 [] X.env)) rfl (by rw [hst]; rfl) h3 (by rw [hst]) rfl) ?_
    refine ia xs h4 n ω H env σ _ W r tk ((Post.bind p').imp fun os env1 ω1 H1 e1 r1 p1 ys ros => ?_)
    obtain ⟨vs, env2, ω2, x2, r2, v2, p2⟩ := Post.escs r1 ros p1
    have p3 : Post g cl xa n ω2 H1 σ (match fits vs.length && vs.all flat with
      | true => (b.ev cx env2).bind fun oq env => match rd env oq with
        | some (.v y) => match flat y with
          | true => match firstV y vs with
            | some m => Py.R.ok (Opd.t (.v (.int m))) env
            | none => .no
          | false => .no
        | _ => .no
      | false => .no) (fun o _ ω' H' => ∀ x, RO g cl xa ω' H' σ n o x → Q x H') W := p2
    cases hz : fits vs.length && vs.all flat with
    | false => rw [hz] at p3; exact p3.elim
    | true =>
      rw [hz] at p3
      obtain ⟨z1, z2⟩ := and_t hz
      refine ⟨by rw [v2.length]; exact fits_ok z1, fun pp hp => ?_⟩
      have x0 : Ext n ω2 H1 (lab ω2 pp (some (.tmp n))) (upd H1 pp (.lst ys)) := new_ext r2.trk hp (fun q => nomatch q)
      have r0 := r2.new (k := some (.tmp n)) hp (ow_lst (xs := ys))
      have kp0 : Kp ω2 H1 (lab ω2 pp (some (.tmp n))) (upd H1 pp (.lst ys)) := new_kp hp
      refine ⟨.inl ⟨rfl, ys, .inl (.inl upd_same)⟩, ?_⟩
      refine ib y h5 (n + 1) _ _ env2 σ _ W r0 tk (((Post.trans (Post.bind p3) x0).up (Nat.le_succ n)).imp fun oq env3 ω3 H3 e3 r3 p4 yq roq => ?_)
      obtain ⟨l3, d3⟩ := e3.tmp n (Nat.lt_succ_self n) pp lab_same
      split at p4
      · next yv hy =>
        obtain ⟨kk, hq⟩ := roq.rd r3 hy
        cases hf : flat yv with
        | false => simp only [hf] at p4; exact p4.elim
        | true =>
          simp only [hf] at p4
          cases hm : firstV yv vs with
          | none => simp only [hm] at p4; exact p4.elim
          | some m =>
            simp only [hm] at p4
            have vv : RVs g ω3 H3 vs ys := (v2.kp' kp0).kp' e3.kp
            obtain ⟨⟨u, u1, u2⟩, u3⟩ := flat_first (show RV g ω3 H3 yv yq from hq) hf vv z2 hm
            exact ⟨pp, ys, yq, m, u, rfl, rfl, .inl (.inl (d3.trans upd_same)), flat_V hq hf, flat_all vv z2, u1, u2, u3, Post.here (a := Opd.t (.v (.int _))) r3 p4 _ rfl⟩
      · exact p4.elim
  · cases h
end
end Py
set_option maxHeartbeats 1000000
namespace Py
open PySem PySem.Spec PyProof.Rows L2
/-! ### attributes, objects made, methods called -/
theorem strAt_ok {l : List Str} {f : Nat} {x : Str} (h : strAt l f x = true) : l[f]? = some x := by
  unfold strAt at h
  split at h
  · next y q => rw [seq_ok h] at q; exact q
  · cases h
theorem methAt_ok {M : Nm} {f c : Nat} {x : Str} (h : methAt M f c x = true) : M.meth[f]? = some (some (c, x)) := by
  unfold methAt at h
  split at h
  · next d y q =>
    obtain ⟨h1, h2⟩ := and_t h
    rw [seq_ok h2, Nat.eq_of_beq_eq_true h1] at q
    exact q
  · cases h
section
variable {g : Gc} {cl : Clx} {xa : Fx} {M : Nm} {cx : EC} {sc : Scope} {k : Nat} {X : Cx} {n : Nat} {ω ω' : Om} {H H' : Hp} {σ : L2.St} {env : Env} {W : WX} {l : Lb}
theorem nd_inj {L : List Str} (nd : L.Nodup) {i j : Nat} {x : Str} (hi : L[i]? = some x) (hj : L[j]? = some x) : i = j := by
  obtain ⟨a1, a2⟩ := List.getElem?_eq_some_iff.mp hi
  exact (List.getElem?_inj a1 nd).mp (hi.trans hj.symm)
/-- what stands under a name -/
theorem FR.look (nd : g.fnm.Nodup) {f : Nat} {nm : Str} (hf : g.fnm[f]? = some nm) : ∀ {u : List Addr} {fs : List (Nat × Fl)} {vs : List (Str × V)} {x : Fl}, FR g ω H l u fs vs → lookF f fs = some x →
    ∃ y, vs.lookup nm = some y ∧ FV g ω H l x y ∧ ∀ b ∈ FA x y, b ∉ u
  | _, [], _, _, _, h => by cases h
  | u, (f', x') :: fs, _, x, ⟨nm', y, r, h1, h2, h3, h4, h5⟩, h => by
    subst h1
    have h' : (match Nat.beq f' f with
      | true => some x'
      | false => lookF f fs) = some x := h
    cases hb : Nat.beq f' f with
    | true =>
      rw [hb] at h'
      cases h'
      have := Nat.eq_of_beq_eq_true hb
      subst this
      rw [hf] at h2
      cases h2
      exact ⟨y, by simp [List.lookup], h3, h4⟩
    | false =>
      rw [hb] at h'
      obtain ⟨z, q1, q2, q3⟩ := FR.look nd hf h5 h'
      have ne : nm ≠ nm' := fun e => by
        subst e
        have := nd_inj nd hf h2
        subst this
        rw [Nat.beq_refl] at hb
        cases hb
      refine ⟨z, ?_, q2, fun b hb z => q3 b hb (List.mem_append.mpr (.inr z))⟩
      have e2 : (nm == nm') = false := by simpa using ne
      simp only [List.lookup, e2]
      exact q1
theorem FR.noneL {nm : Str} (hn : ∀ f : Nat, g.fnm[f]? ≠ some nm) : ∀ {u : List Addr} {fs : List (Nat × Fl)} {vs : List (Str × V)}, FR g ω H l u fs vs → vs.lookup nm = none
  | _, [], _, h => by rw [show _ = ([] : List (Str × V)) from h]; rfl
  | u, (f', x') :: fs, _, ⟨nm', y, r, h1, h2, h3, h4, h5⟩ => by
    subst h1
    have ne : nm ≠ nm' := fun e => hn f' (by rw [e]; exact h2)
    have e2 : (nm == nm') = false := by simpa using ne
    simp only [List.lookup, e2]
    exact FR.noneL hn h5
/-- a list among the attributes is frozen: nobody else's -/
theorem FR.labO (nd : g.fnm.Nodup) {b : Addr} (hw : ω b = some l) : ∀ {u : List Addr} {fs : List (Nat × Fl)} {vs : List (Str × V)}, b ∈ u → FR g ω H l u fs vs → FR g (lab ω b none) H l u fs vs
  | _, [], _, _, h => h
  | u, (f', x') :: fs, _, hb, ⟨nm', y, r, h1, h2, h3, h4, h5⟩ => by
    refine ⟨nm', y, r, h1, h2, h3.kp (lab_kp hw) fun c hc => ?_, h4, FR.labO nd hw (List.mem_append.mpr (.inr hb)) h5⟩
    have ne : c ≠ b := fun e => h4 c hc (by rw [e]; exact hb)
    exact ⟨by rw [lab_ne ne]; exact h3.lb c hc, rfl⟩
theorem FR.frzO (nd : g.fnm.Nodup) {f : Nat} {nm : Str} (hf : g.fnm[f]? = some nm) {b : Addr} (hw : ω b = some l) {xs : List Val} : ∀ {u : List Addr} {fs : List (Nat × Fl)} {vs : List (Str × V)}, FR g ω H l u fs vs → lookF f fs = some (.l xs) → vs.lookup nm = some (.ref b) →
    FR g (lab ω b none) H l u (stF f (.v (.lst xs)) fs) vs ∧ b ∉ u
  | _, [], _, _, h, _ => by cases h
  | u, (f', x') :: fs, _, ⟨nm', y, r, h1, h2, h3, h4, h5⟩, h, hl => by
    subst h1
    have h' : (match Nat.beq f' f with
      | true => some x'
      | false => lookF f fs) = some (.l xs) := h
    have e0 : stF f (.v (.lst xs)) ((f', x') :: fs) = (match Nat.beq f' f with
      | true => (f', .v (.lst xs)) :: fs
      | false => (f', x') :: stF f (.v (.lst xs)) fs) := rfl
    rw [e0]
    cases hb : Nat.beq f' f with
    | true =>
      rw [hb] at h'
      cases h'
      have := Nat.eq_of_beq_eq_true hb
      subst this
      rw [hf] at h2
      cases h2
      have hy : y = .ref b := by simpa [List.lookup] using hl
      subst hy
      obtain ⟨b', ys, q1, q2, q3, q4⟩ := h3
      cases q1
      have kp : Kp ω H (Py.lab ω b Option.none) H := lab_kp hw
      refine ⟨⟨nm, .ref b, r, rfl, hf, ⟨b, ys, rfl, lab_same, q3, q4.kp' kp⟩, (fun c hc => by cases hc), ?_⟩, h4 b List.mem_cons_self⟩
      have := FR.labO nd hw (b := b) (List.mem_append.mpr (.inl List.mem_cons_self)) h5
      exact this.mono fun c hc => List.mem_append.mpr (.inr (by simpa [FA] using hc))
    | false =>
      rw [hb] at h'
      have ne : nm ≠ nm' := fun e => by
        subst e
        have := nd_inj nd hf h2
        subst this
        rw [Nat.beq_refl] at hb
        cases hb
      have e2 : (nm == nm') = false := by simpa using ne
      have hl' : r.lookup nm = some (.ref b) := by simpa only [List.lookup, e2] using hl
      obtain ⟨q1, q2⟩ := FR.frzO nd hf hw h5 h' hl'
      refine ⟨⟨nm', y, r, rfl, h2, h3.kp (lab_kp hw) fun c hc => ?_, h4, q1⟩, fun z => q2 (List.mem_append.mpr (.inr z))⟩
      have ne2 : c ≠ b := fun e => q2 (List.mem_append.mpr (.inl (by rw [← e]; exact hc)))
      exact ⟨by rw [lab_ne ne2]; exact h3.lb c hc, rfl⟩
theorem ok_att (C : Cok g M cx sc k X) {i f : Nat} {e : Expr} (h : (E.att i f).chk M sc e = true) : OkO g cl xa X (fun env => (E.att i f).ev cx env) e := by
  intro n ω H env σ Q W r tk p
  simp only [E.chk] at h
  split at h
  · next x px nm pos =>
    obtain ⟨h1, h2⟩ := and_t h
    obtain ⟨g1, g2, g3, g4⟩ := vis_ok C h1
    have hf := strAt_ok h2
    obtain ⟨m1, nd⟩ := C.fnm
    rw [m1] at hf
    simp only [E.ev] at p
    split at p
    · next c fs hg =>
      obtain ⟨z, q1, a, dx, vs, q2, q3, q4, q5, q6⟩ := r.at_ i (.ob c fs) hg
      subst q2
      obtain ⟨c1, c2⟩ := C.cls c q5
      split at p
      · next w hw =>
        obtain ⟨y, w1, w2, _⟩ := q6.look nd hf hw
        exact se_of (pe_fld (pe_var g1 g2 g3 g4) rfl) ⟨_, q1, a, g.cls c, dx, vs, y, rfl, q4, c1, c2 f nm hf, w1, Post.here (a := Opd.t (.v w)) r p y w2⟩
      · next w hw =>
        obtain ⟨y, w1, ⟨b, ys, w2, w3, w4, w5⟩, _⟩ := q6.look nd hf hw
        subst w2
        refine se_of (pe_fld (pe_var g1 g2 g3 g4) rfl) ⟨_, q1, a, g.cls c, dx, vs, _, rfl, q4, c1, c2 f nm hf, w1, ?_⟩
        have kp : Kp ω H (lab ω b Option.none) H := lab_kp w3
        have nab : a ≠ b := fun e => by rw [e, w4] at q4; cases q4
        refine p (lab ω b none) H (lab_ext w3 (fun q => nomatch q) (fun m hm q => nomatch q) (fun q => nomatch q)) ?_ (.ref b) ⟨b, ys, rfl, lab_same, w4, w5.kp' kp⟩
        refine ⟨by rw [st_length, r.len], fun j u hj => ?_, r.fix, lab_trk r.trk w3⟩
        rw [gt_st] at hj
        by_cases zz : j = i ∧ i < env.length
        · rw [if_pos zz] at hj; cases hj
          rw [zz.1]
          exact ⟨.ref a, fun _ => q1, a, dx, vs, rfl, by rw [lab_ne nab]; exact q3, q4, q5, (q6.frzO nd hf w3 hw w1).1⟩
        · rw [if_neg zz] at hj
          obtain ⟨y, u1, u2⟩ := r.at0 j u hj
          have hlt := gt_lt hj
          have ne : i ≠ j := fun q => zz ⟨q.symm, by rw [q]; exact hlt⟩
          exact ⟨y, u1, u2.keep kp (lab_kk w3 (slot_ne (Ne.symm ne)))⟩
      · exact p.elim
    · exact p.elim
  · cases h
theorem noSup_ok {e : Expr} {f : Str} {env : PySem.Env} {w : Sem Value} (h : noSup e = true) : attributeBase e f env w = w := by
  unfold attributeBase
  split
  · cases h
  · rfl
theorem ok_atx (C : Cok g M cx sc k X) {a : E} {f : Nat} {e : Expr} (h : (E.atx a f).chk M sc e = true) (ia : ∀ e, a.chk M sc e = true → OkO g cl xa X (fun env => a.ev cx env) e) : OkO g cl xa X (fun env => (E.atx a f).ev cx env) e := by
  intro n ω H env σ Q W r tk p
  simp only [E.chk] at h
  split at h
  · next v nm pos =>
    obtain ⟨h1, h2⟩ := and_t h
    obtain ⟨h1, h3⟩ := and_t h1
    have hf := strAt_ok h2
    obtain ⟨m1, nd⟩ := C.fnm
    rw [m1] at hf
    simp only [E.ev] at p
    refine se_of (pe_fld (pe_se X v) (noSup_ok h3)) (ia v h1 n ω H env σ _ W r tk ((Post.bind p).imp fun o env1 ω1 H1 e1 r1 p1 x ro => ?_))
    split at p1
    · next c fs =>
      obtain ⟨a0, dx, vs, q2, q3, q4, q5, q6⟩ := (show RT g cl xa ω1 H1 (.tmp n) (.ob c fs) x from ro)
      subst q2
      obtain ⟨c1, c2⟩ := C.cls c q5
      split at p1
      · next w hw =>
        obtain ⟨y, w1, w2, _⟩ := q6.look nd hf hw
        exact ⟨a0, g.cls c, dx, vs, y, rfl, q4, c1, c2 f nm hf, w1, Post.here (a := Opd.t (.v w)) r1 p1 y w2⟩
      · next w hw =>
        obtain ⟨y, w1, ⟨b, ys, w2, w3, w4, w5⟩, _⟩ := q6.look nd hf hw
        exact ⟨a0, g.cls c, dx, vs, y, rfl, q4, c1, c2 f nm hf, w1, Post.here (a := Opd.t (.vl w)) r1 p1 y ⟨b, ys, w2, w3, w4, w5⟩⟩
      · exact p1.elim
    · exact p1.elim
  · cases h
theorem pass0S {X : Cx} : Passes (L2.CX X.prog X.w) X (fun _ _ _ => False) := fun _ _ _ _ _ _ _ z => by
  obtain ⟨_, _, _, _, _, _, _, _, _, _, _, _, z⟩ := z
  exact z.elim
theorem ow_ins {C dx : Addr} {fs : List (Str × V)} : Ow (.ins C dx fs) := And.intro (fun _ z => nomatch z) (fun _ z => nomatch z)
theorem ow_own {a : Addr} : Ow (.own a) := And.intro (fun _ z => nomatch z) (fun _ z => nomatch z)
/-- behind a making: what was the first argument is the caller's, as a temporary thing -/
def omN (ω ω' : Om) (n : Nat) (os : List Opd) : Om := fun a => match ω' a with
  | some (.slot 0) => some (.tmp n)
  | _ => omR ω ω' n os a
theorem omN_ne {os : List Opd} {a : Addr} (h : ω' a ≠ some (.slot 0)) : omN ω ω' n os a = omR ω ω' n os a := by
  unfold omN
  split
  · next q => exact absurd q h
  · rfl
theorem omN_ext {t : T} {os : List Opd} (e : Ext 0 (omC ω n (.t t :: os)) H ω' H') : Ext n ω H (omN ω ω' n (.t t :: os)) H' where
  kp := fun a o h1 h2 h3 => by
    obtain ⟨w1, w2⟩ := e.kp a o h1 (by unfold omC; rw [h2]) h3
    exact ⟨w1, by rw [omN_ne (by rw [w2]; exact fun q => nomatch q)]; unfold omR; rw [w2]⟩
  rest := fun a h => by
    have hc : omC ω n (.t t :: os) a = some .rest := by unfold omC; rw [h]
    obtain ⟨w1, w2⟩ := omR_rest e hc
    obtain ⟨w3, _⟩ := e.rest a hc
    exact ⟨by rw [omN_ne (by rw [w3]; exact fun q => nomatch q), w1, h], w2⟩
  tmp := fun m hm a h => by
    have hc : omC ω n (.t t :: os) a = some .rest := by unfold omC; rw [h]; simp only; rw [if_neg (by omega)]
    obtain ⟨w1, w2⟩ := omR_rest e hc
    obtain ⟨w3, _⟩ := e.rest a hc
    exact ⟨by rw [omN_ne (by rw [w3]; exact fun q => nomatch q), w1, h], w2⟩
  back := fun a h => by
    by_cases q : ω' a = some (.slot 0)
    · unfold omN at h; rw [q] at h; cases h
    · rw [omN_ne q] at h; exact (omR_ext e).back a h
theorem omN_trk (t : Trk g ω' H') {os : List Opd} : Trk g (omN ω ω' n os) H' where
  any := fun a h => t.any a fun z => h (by rw [omN_ne (by rw [z]; exact fun q => nomatch q)]; unfold omR; rw [z])
  tab := fun p hp => by
    obtain ⟨q1, ps, q2, q3, q4⟩ := t.tab p hp
    refine ⟨by rw [omN_ne (by rw [q1]; exact fun q => nomatch q)]; unfold omR; rw [q1], ps, q2, q3, fun pos cv h => ?_⟩
    obtain ⟨c, c1, c2, c3⟩ := q4 pos cv h
    exact ⟨c, c1, c2, by rw [omN_ne (by rw [c3]; exact fun q => nomatch q)]; unfold omR; rw [c3]⟩
theorem omN_rel {t0 t1 : T} {os : List Opd} {as : List T} {x : V} {vs : List V} (r : Rel g cl xa ω H env σ) (ro : ROs g cl xa ω H σ (n + 1) os vs) (e : Ext 0 (omC ω n (.t t0 :: os)) H ω' H') (t : Trk g ω' H') (ag : Ags g none ω' H' (t1 :: as) (x :: vs)) :
    Rel g cl xa (omN ω ω' n (.t t0 :: os)) H' (putBack env os as) σ where
  len := by rw [putBack_len, r.len]
  fix := r.fix
  at0 := fun i t h => by
    rcases put_back h with ⟨j, h1, h2⟩ | ⟨h1, h2⟩
    · obtain ⟨y, w1, w2⟩ := ag (j + 1) t (by simpa using h2)
      obtain ⟨y', w3, w4⟩ := ro.at h1
      have w1' : vs[j]? = some y := by simpa using w1
      rw [w1'] at w3
      cases w3
      refine ⟨y, fun _ => w4, RT.relabel (k := .slot (j + 1)) (fun a h => ?_) (fun a h => ?_) (w2.none)⟩
      · rw [omN_ne (by rw [h]; exact fun q => nomatch q)]; unfold omR; rw [h]
      · rw [omN_ne (by rw [h]; exact fun q => nomatch q)]; unfold omR; rw [h]
        show (match os[j]? with | some (.pl i) => some (Lb.slot i) | _ => Option.none) = _
        rw [h1]
    · obtain ⟨y, w1, w2⟩ := r.at0 i t h2
      refine ⟨y, w1, w2.keep (omN_ext (n := n) e).kp fun a h => ?_⟩
      have hni : Opd.pl i ∉ (Opd.t t0 :: os) := fun z => by
        rcases List.mem_cons.mp z with z | z
        · cases z
        · exact h1 z
      have hc : omC ω n (.t t0 :: os) a = some .rest := by unfold omC; rw [h]; simp only; rw [idx_none hni]
      obtain ⟨w1, w2⟩ := omR_rest e hc
      obtain ⟨w3, _⟩ := e.rest a hc
      exact ⟨by rw [omN_ne (by rw [w3]; exact fun q => nomatch q), w1, h], w2⟩
  trk := omN_trk t
theorem ok_new (C : Cok g M cx sc k X) {c f : Nat} {es : Es} {e : Expr} (h : (E.new c f es).chk M sc e = true)
    (ia : ∀ l, es.chk M sc l = true → OkA g cl xa X (fun env => es.ev cx env) l) : OkO g cl xa X (fun env => (E.new c f es).ev cx env) e := by
  intro n ω H env σ Q W r tk p
  simp only [E.chk] at h
  split at h
  · next x px a as pos =>
    obtain ⟨h1, h2⟩ := and_t h
    obtain ⟨h1, h3⟩ := and_t h1
    obtain ⟨h3, h4⟩ := and_t h3
    obtain ⟨h5, h6⟩ := and_t h3
    obtain ⟨h2, h7⟩ := and_t h2
    obtain ⟨h2, h8⟩ := and_t h2
    obtain ⟨h8, h9⟩ := and_t h8
    obtain ⟨h6, _⟩ := and_t h6
    obtain ⟨mg, hc⟩ := C.clm c x (strAt_ok h1)
    obtain ⟨_, fd, ps, _, mk, bd, fo⟩ := C.mth f c _ (methAt_ok h4)
    have hst := star_eq h9 as X.env
    have hpl : (backTo pos (starEach as X.env)).any (·.1) = false := by
      have := es_plain (pos := pos) (env := X.env) h2
      rw [hst] at this
      unfold backTo at this ⊢
      rw [List.map_cons, List.any_cons] at this
      exact (Bool.or_eq_false_iff.mp this).2
    refine se_of (pe_make (ds := []) (dvs := []) (mk rfl) fo (C.rm1 h7 h8) (gl_ok C h5) mg bd .nil pass0S (pa_sa X (a :: as)) (by simpa using h6) hst hpl) ?_
    simp only [E.ev] at p
    refine ia (a :: as) h2 (n + 1) ω H env σ _ W r tk ((Post.bind p |>.up (Nat.le_succ n)).imp fun os env1 ω1 H1 e1 r1 p1 vs ro => ?_)
    intro y dx hy hdx ndx
    rw [List.append_nil]
    cases q1 : rds env1 os with
    | none => simp only [q1] at p1; exact p1.elim
    | some ts =>
      simp only [q1] at p1
      split at p1
      · next q2 =>
        obtain ⟨q3, q4⟩ := and_t q2
        -- the object stands
        have hdx2 : upd H1 dx (.own y) y = Option.none := by rw [upd_ne (Ne.symm ndx)]; exact hy
        have rA := r1.new (k := Option.none) hdx (o := .own y) ow_own
        have rB := rA.new (k := some (.tmp n)) hdx2 (o := .ins (g.cls c) dx []) ow_ins
        have roA : ROs g cl xa (lab ω1 dx Option.none) (upd H1 dx (.own y)) σ (n + 1) os vs := ROs.kk (new_kp hdx) (fun m _ => new_kk r1.trk hdx) ro
        have roB : ROs g cl xa (lab (lab ω1 dx Option.none) y (some (.tmp n))) (upd (upd H1 dx (.own y)) y (.ins (g.cls c) dx [])) σ (n + 1) os vs := ROs.kk (new_kp hdx2) (fun m _ => new_kk rA.trk hdx2) roA
        have eB : Ext n ω1 H1 (lab (lab ω1 dx Option.none) y (some (.tmp n))) (upd (upd H1 dx (.own y)) y (.ins (g.cls c) dx [])) := (new_ext (k := Option.none) r1.trk hdx (fun q => nomatch q)).trans (new_ext (k := some (.tmp n)) rA.trk hdx2 (fun q => nomatch q))
        generalize hωB : lab (lab ω1 dx Option.none) y (some (.tmp n)) = ωB at rB roB eB
        generalize hHB : upd (upd H1 dx (.own y)) y (.ins (g.cls c) dx []) = HB at rB roB eB
        have wy : ωB y = some (.tmp n) := by rw [← hωB]; exact lab_same
        have hHy : HB y = some (.ins (g.cls c) dx []) := by rw [← hHB]; exact upd_same
        have ob : RT g cl xa ωB HB (.tmp n) (.ob c []) (.ref y) := ⟨y, dx, [], rfl, wy, hHy, hc, rfl⟩
        have roC : ROs g cl xa ωB HB σ n (.t (.ob c []) :: os) (.ref y :: vs) := ⟨.ref y, vs, rfl, ob, roB⟩
        refine ⟨.ob c [] :: ts, omC ωB n (.t (.ob c []) :: os), by simp [roB.len, rds_len q1], ags_of rB roC q3 (by simpa [T.arg] using q4) (by simp [rds, rd, q1]), omC_trk rB.trk, ?_⟩
        cases q5 : cx.call f (.ob c [] :: ts) none with
        | no => simp only [q5] at p1; exact p1.elim
        | ex _ _ => simp only [q5] at p1; exact p1.elim
        | ok t as' =>
          simp only [q5] at p1
          split at p1
          · next c' fs as2 he1 =>
            split at p1
            · next hcc =>
              have hcc := Nat.eq_of_beq_eq_true hcc
              subst hcc
              cases he1
              intro z ω' H' e' t' ag rt
              refine ⟨rt, ?_⟩
              obtain ⟨y', w1, w2⟩ := ag 0 (.ob c' fs) rfl
              cases w1
              refine p1 (omN ωB ω' n (.t (.ob c' []) :: os)) H' ?_ (omN_rel rB roB e' t' ag) (.ref y) ?_
              · exact eB.trans (omN_ext e')
              · refine RT.relabel (cl := cl) (xa := xa) (k := .slot 0) (fun a h => ?_) (fun a h => ?_) w2.none
                · rw [omN_ne (by rw [h]; exact fun q => nomatch q)]; unfold omR; rw [h]
                · unfold omN; rw [h]; rfl
            · exact p1.elim
          · exact p1.elim
      · exact p1.elim
  · cases h
theorem mcall_eq {x m : Str} {px apos pos : Pos} {a : Expr} {as : List Expr} {env : PySem.Env} (hp : (backTo pos (starEach (a :: as) env)).any (·.1) = false) (hl : (apos.endLine == pos.line) = true) (hn : Nat.blt as.length 20 = true) :
    eval (.Call (.Attribute (.Name x px) m apos) (a :: as) [] pos) env = (do
      let ov ← eval (.Name x px) env
      standAt apos.atName
      let (f, first) ← holding [ov] (getMethod ov m (plainOf (.Name x px) env))
      callWith pos f first (backTo pos (starEach (a :: as) env)) (backToKw pos (keywordEach [] env))) := by
  have few : methodCallForm ((a :: as).length + ([] : List Keyword).length) (backTo pos (starEach (a :: as) env)) (backToKw pos (keywordEach [] env)) = true := by
    unfold methodCallForm
    have e1 : (backTo pos (starEach (a :: as) env)).all (fun x => !x.1) = true := by
      rw [List.all_eq_not_any_not]
      simpa using hp
    have hlt : as.length < 20 := Nat.le_of_ble_eq_true hn
    rw [e1, Bool.true_and]
    show (true && decide ((a :: as).length + 0 + 0 < 30)) = true
    rw [Bool.true_and, decide_eq_true_eq, List.length_cons]
    omega
  have e := fun ov => mcall_line (o := .Name x px) (m := m) (env := env) (ov := ov) few hl
  show (do
      let ov ← eval (.Name x px) env
      standAt apos.atName
      methodCall (.Name x px) m apos pos env ov ((a :: as).length + ([] : List Keyword).length) (backTo pos (starEach (a :: as) env)) (backToKw pos (keywordEach [] env))) = _
  simp only [e]
theorem ok_mcall (C : Cok g M cx sc k X) {c f i : Nat} {es : Es} {e : Expr} (h : (E.mcall c f i es).chk M sc e = true)
    (ia : ∀ l, es.chk M sc l = true → OkA g cl xa X (fun env => es.ev cx env) l) : OkO g cl xa X (fun env => (E.mcall c f i es).ev cx env) e := by
  intro n ω H env σ Q W r tk p
  simp only [E.chk] at h
  split at h
  · next x px m apos a as pos =>
    obtain ⟨h1, h2⟩ := and_t h
    obtain ⟨h1, h3⟩ := and_t h1
    obtain ⟨h3, h6⟩ := and_t h3
    obtain ⟨h6, h7⟩ := and_t h6
    obtain ⟨h4, h5⟩ := and_t h3
    obtain ⟨h2, h8⟩ := and_t h2
    obtain ⟨h8, h9⟩ := and_t h8
    obtain ⟨g1, g2, g3, g4⟩ := vis_ok C h1
    obtain ⟨hc, fd, ps, mt, _, bd, fo⟩ := C.mth f c _ (methAt_ok h4)
    obtain ⟨c1, _⟩ := C.cls c hc
    have hnm : ∀ j : Nat, g.fnm[j]? ≠ some m := fun j q => by
      have : m ∈ M.fnm := by rw [C.fnm.1]; exact List.mem_of_getElem? q
      simp [this] at h5
    have hst := star_eq h9 as X.env
    have hpl : (backTo pos (starEach as X.env)).any (·.1) = false := by
      have := es_plain (pos := pos) (env := X.env) h2
      rw [hst] at this
      unfold backTo at this ⊢
      rw [List.map_cons, List.any_cons] at this
      exact (Bool.or_eq_false_iff.mp this).2
    simp only [E.ev] at p
    split at p
    · next c0 fs hg =>
      split at p
      · next hcc =>
        have hcc := Nat.eq_of_beq_eq_true hcc
        subst hcc
        obtain ⟨z, q1, a0, dx, vs, q2, q3, q4, q5, q6⟩ := r.at_ i (.ob c0 fs) hg
        subst q2
        refine se_of (pe_meth (ds := []) (dvs := []) (pe_var g1 g2 g3 g4) c1 mt fo (C.room h8) bd .nil pass0S (pa_sa X (a :: as)) hst hpl (mcall_eq (es_plain h2) h6 h7)) ⟨_, q1, a0, dx, vs, rfl, q4, q6.noneL hnm, ?_⟩
        refine ia (a :: as) h2 (n + 1) ω H env σ _ W r tk ((Post.bind p |>.up (Nat.le_succ n)).imp fun os env1 ω1 H1 e1 r1 p1 us ro => ?_)
        rw [List.append_nil]
        cases z1 : rds env1 (.pl i :: os) with
        | none => simp only [z1] at p1; exact p1.elim
        | some ts =>
          simp only [z1] at p1
          split at p1
          · next z2 =>
            obtain ⟨z3, z4⟩ := and_t z2
            have roC : ROs g cl xa ω1 H1 σ n (.pl i :: os) (.ref a0 :: us) := ⟨.ref a0, us, rfl, q1, ro⟩
            refine ⟨ts, omC ω1 n (.pl i :: os), by rw [roC.len, rds_len z1], ags_of r1 roC z3 z4 z1, omC_trk r1.trk, ?_⟩
            cases z5 : cx.call f ts none with
            | no => simp only [z5] at p1; exact p1.elim
            | ex _ _ => simp only [z5] at p1; exact p1.elim
            | ok t as' =>
              simp only [z5] at p1
              intro y ω' H' e' t' ag rt
              refine p1 (omR ω1 ω' n (.pl i :: os)) H' (omR_ext e') (omR_rel r1 roC e' t' ag) y ?_
              refine RT.relabel (k := .tmp 0) (fun a h => ?_) (fun a h => ?_) (rt.none)
              · unfold omR; rw [h]
              · unfold omR; rw [h]; rfl
          · exact p1.elim
      · exact p.elim
    · exact p.elim
  · cases h
end
end Py
set_option maxHeartbeats 1000000
namespace Py
open PySem PySem.Spec PyProof.Rows L2
/-- a test of it is the truth of its value -/
def simpE : Expr → Bool
  | .Constant .. => true
  | .Name .. => true
  | .BinOp .. => true
  | .Tuple .. => true
  | .List .. => true
  | .Dict .. => true
  | .Subscript .. => true
  | .Call .. => true
  | .ListComp .. => true
  | .Attribute .. => true
  | .UnaryOp .USub _ _ => true
  | _ => false
theorem simp_true {e : Expr} {env : PySem.Env} (h : simpE e = true) : ∀ whole, isTrue e env whole = (do let v ← whole; standAt e.pos; holding [v] (truthy v)) := by
  intro whole
  cases e with
  | UnaryOp op x pos => cases op <;> first | rfl | cases h
  | _ => first | rfl | cases h
def E.simp : E → Bool
  | .cmp .. => false
  | .chn .. => false
  | .ch3 .. => false
  | .bad => false
  | .bo .. => false
  | .not .. => false
  | .ite .. => false
  | _ => true
theorem simp_of {M : Nm} {sc : Scope} {a : E} {e : Expr} (hs : a.simp = true) (h : a.chk M sc e = true) : simpE e = true := by
  cases a <;> first
    | exact (Bool.false_ne_true hs).elim
    | (simp only [E.chk] at h; split at h <;> first | rfl | cases h)
    | (simp only [E.chk] at h; cases h)
section
variable {g : Gc} {cx : EC}
theorem both {cl : Clx} {xa : Fx} {M : Nm} {sc : Scope} {k : Nat} {X : Cx} {a : E} {e : Expr} (C : Cok g M cx sc k X) (hs : a.simp = true) (h : a.chk M sc e = true) (o : OkO g cl xa X (fun env => a.ev cx env) e) :
    OkO g cl xa X (fun env => a.ev cx env) e ∧ OkT g cl xa X (fun env => a.ev cx env) e := ⟨o, okT_of C (simp_true (simp_of hs h)) o⟩
abbrev Ctx (g : Gc) (cx : EC) (cl : Clx) (xa : Fx) (M : Nm) (sc : Scope) (k : Nat) (X : Cx) : Prop := Cok g M cx sc k X ∧ Xok xa M cx X ∧ CloOk g cl xa M cx X
theorem post_no {cl : Clx} {xa : Fx} {α : Type} {n : Nat} {ω : Om} {H : Hp} {σ : L2.St} {Q : α → Env → Om → Hp → Prop} {W : WX} (h : Post g cl xa n ω H σ (.no : R α) Q W) : False := h
mutual
theorem e_ok : (a : E) → ∀ {cl : Clx} {xa : Fx} {M : Nm} {sc : Scope} {k : Nat} {X : Cx}, Ctx g cx cl xa M sc k X → ∀ e, a.chk M sc e = true → OkO g cl xa X (fun env => a.ev cx env) e ∧ OkT g cl xa X (fun env => a.ev cx env) e
  | .k c, cl, xa, M, sc, k, X, C, e, h => both C.1 rfl h (ok_k h)
  | .var i, cl, xa, M, sc, k, X, C, e, h => both C.1 rfl h (ok_var C.1 h)
  | .gl i, cl, xa, M, sc, k, X, C, e, h => both C.1 rfl h (ok_gl C.1 h)
  | .bin o a b, cl, xa, M, sc, k, X, C, e, h => both C.1 rfl h (ok_bin C.1 h (fun e h => (e_ok a C e h).1) (fun e h => (e_ok b C e h).1))
  | .neg a, cl, xa, M, sc, k, X, C, e, h => both C.1 rfl h (ok_neg C.1 h (fun e h => (e_ok a C e h).1))
  | .cmp o a b, cl, xa, M, sc, k, X, C, e, h => ok_cmp C.1 h (fun e h => (e_ok a C e h).1) (fun e h => (e_ok b C e h).1)
  | .chn o1 o2 a b c, cl, xa, M, sc, k, X, C, e, h => ok_chn C.1 h (fun e h => (e_ok a C e h).1) (fun e h => (e_ok b C e h).1) (fun e h => (e_ok c C e h).1)
  | .bo w es, cl, xa, M, sc, k, X, C, e, h => by
    simp only [E.chk] at h
    split at h
    · next op xs pos =>
      obtain ⟨h1, h2⟩ := and_t h
      obtain ⟨q1, q2⟩ := bo_ok es C w op h1 pos xs h2
      exact ⟨fun n ω H env σ Q W r tk p => q1 n ω H env σ Q W r tk (by simpa only [E.ev] using p), fun n ω H env σ Q W r tk p => st_of (pw_sw X _).pt (q2 n ω H env σ Q W r tk (by simpa only [E.ev] using p))⟩
    · cases h
  | .not a, cl, xa, M, sc, k, X, C, e, h => ok_not C.1 h (fun e h => e_ok a C e h)
  | .ite c a b, cl, xa, M, sc, k, X, C, e, h => ok_ite C.1 h (fun e h => e_ok c C e h) (fun e h => e_ok a C e h) (fun e h => e_ok b C e h)
  | .tup es, cl, xa, M, sc, k, X, C, e, h => both C.1 rfl h (ok_tup h (fun l h => es_ok es C l h))
  | .lis es, cl, xa, M, sc, k, X, C, e, h => both C.1 rfl h (ok_lis h (fun l h => es_ok es C l h))
  | .dic ks vs, cl, xa, M, sc, k, X, C, e, h => both C.1 rfl h (ok_dic C.1 h (fun l h => pq_ok vs C l h))
  | .sub a i, cl, xa, M, sc, k, X, C, e, h => both C.1 rfl h (ok_sub C.1 h (fun e h => (e_ok a C e h).1) (fun e h => (e_ok i C e h).1))
  | .slc a lo hi, cl, xa, M, sc, k, X, C, e, h => both C.1 rfl h (ok_slc C.1 h (fun e h => (e_ok a C e h).1) (fun e h => ok_pt h fun b hb e h => (oe_ok lo C b hb e h).1) (fun e h => ok_pt h fun b hb e h => (oe_ok hi C b hb e h).1))
  | .call f es, cl, xa, M, sc, k, X, C, e, h => both C.1 rfl h (ok_call C.1 h (fun l h => es_ok es C l h))
  | .bi b a, cl, xa, M, sc, k, X, C, e, h => both C.1 rfl h (ok_bi C.1 h (fun e h => (e_ok a C e h).1))
  | .isi t a, cl, xa, M, sc, k, X, C, e, h => both C.1 rfl h (ok_isi C.1 h (fun e h => (e_ok a C e h).1))
  | .mget m q d, cl, xa, M, sc, k, X, C, e, h => both C.1 rfl h (ok_mget C.1 h (fun e h => (e_ok q C e h).1) (fun e h => (e_ok d C e h).1))
  | .bad, cl, xa, M, sc, k, X, C, e, h => ⟨fun n ω H env σ Q W r tk p => (post_no (by simpa only [E.ev] using p)).elim, fun n ω H env σ Q W r tk p => (post_no (α := Bool) (by simpa only [E.ev] using p : Post g cl xa n ω H σ (truthR .no) _ W)).elim⟩
  | .edc, cl, xa, M, sc, k, X, C, e, h => both C.1 rfl h (ok_edc h)
  | .rev a, cl, xa, M, sc, k, X, C, e, h => both C.1 rfl h (ok_rev C.1 h (fun e h => (e_ok a C e h).1))
  | .cnt i c, cl, xa, M, sc, k, X, C, e, h => both C.1 rfl h (ok_cnt C.1 h)
  | .idx i c, cl, xa, M, sc, k, X, C, e, h => both C.1 rfl h (ok_idx C.1 h)
  | .idxl es q, cl, xa, M, sc, k, X, C, e, h => both C.1 rfl h (ok_idxl C.1 h (fun l h => es_ok es C l h) (fun e h => (e_ok q C e h).1))
  | .pop0 i, cl, xa, M, sc, k, X, C, e, h => both C.1 rfl h (ok_pop0 C.1 h)
  | .ch3 o1 o2 o3 a b c d, cl, xa, M, sc, k, X, C, e, h => ok_ch3 C.1 h (fun e h => (e_ok a C e h).1) (fun e h => (e_ok b C e h).1) (fun e h => (e_ok c C e h).1) (fun e h => (e_ok d C e h).1)
  | .pop i, cl, xa, M, sc, k, X, C, e, h => both C.1 rfl h (ok_pop C.1 h)
  | .lc el tg it c own, cl, xa, M, sc, k, X, C, e, h => both C.1 rfl h (ok_lc C.1 h (fun t e h => it_ok it C t e h)
      (fun xa X sc C' hc l h => ok_cond h fun b hb e h => (oe_ok c (⟨C', Xok.calm hc, CloOk.off rfl⟩ : Ctx g cx cl xa M.in sc k X) b hb e h).2)
      (fun xa X sc C' hc e h => (e_ok el (⟨C', Xok.calm hc, CloOk.off rfl⟩ : Ctx g cx cl xa M.in sc k X) e h).1))
  | .lc2 el tg it c own tg1 it1 c1 own1, cl, xa, M, sc, k, X, C, e, h => both C.1 rfl h (ok_lc2 C.1 h (fun t e h => it_ok it C t e h)
      (fun xa X sc C' hc l h => ok_cond h fun b hb e h => (oe_ok c (⟨C', Xok.calm hc, CloOk.off rfl⟩ : Ctx g cx cl xa M.in sc k X) b hb e h).2)
      (fun xa X sc C' hc t e h => it_ok it1 (⟨C', Xok.calm hc, CloOk.off rfl⟩ : Ctx g cx cl xa M.in sc k X) t e h)
      (fun xa X sc C' hc l h => ok_cond h fun b hb e h => (oe_ok c1 (⟨C', Xok.calm hc, CloOk.off rfl⟩ : Ctx g cx cl xa M.in sc k X) b hb e h).2)
      (fun xa X sc C' hc e h => (e_ok el (⟨C', Xok.calm hc, CloOk.off rfl⟩ : Ctx g cx cl xa M.in sc k X) e h).1))
  | .dget ks vs q d, cl, xa, M, sc, k, X, C, e, h => both C.1 rfl h (ok_dget C.1 h (fun l h => pr_ok vs C l h) (fun e h => (e_ok q C e h).1) (fun e h => (e_ok d C e h).1))
  | .mm w a b, cl, xa, M, sc, k, X, C, e, h => both C.1 rfl h (ok_mm C.1 h (fun e h => (e_ok a C e h).1) (fun e h => (e_ok b C e h).1))
  | .att i f, cl, xa, M, sc, k, X, C, e, h => both C.1 rfl h (ok_att C.1 h)
  | .atx a f, cl, xa, M, sc, k, X, C, e, h => both C.1 rfl h (ok_atx C.1 h (fun e h => (e_ok a C e h).1))
  | .new c f es, cl, xa, M, sc, k, X, C, e, h => both C.1 rfl h (ok_new C.1 h (fun l h => es_ok es C l h))
  | .mcall c f i es, cl, xa, M, sc, k, X, C, e, h => both C.1 rfl h (ok_mcall C.1 h (fun l h => es_ok es C l h))
  | .lam f o b, cl, xa, M, sc, k, X, C, e, h => both C.1 rfl h (ok_lam C.1 h (fun cl xa X sc C' O1 O2 e h => (e_ok b (⟨C', O1, O2⟩ : Ctx g cx cl xa M.in sc k X) e h).1))
  | .cloc i, cl, xa, M, sc, k, X, C, e, h => both C.1 rfl h (ok_cloc C.2.2 h)
  | .isx i c, cl, xa, M, sc, k, X, C, e, h => both C.1 rfl h (ok_isx C.1 C.2.1 h)
theorem es_ok : (es : Es) → ∀ {cl : Clx} {xa : Fx} {M : Nm} {sc : Scope} {k : Nat} {X : Cx}, Ctx g cx cl xa M sc k X → ∀ l, es.chk M sc l = true → OkA g cl xa X (fun env => es.ev cx env) l
  | .nil, cl, xa, M, sc, k, X, C, l, h => ok_nil h
  | .cons a r, cl, xa, M, sc, k, X, C, l, h => ok_cons h (fun e h => (e_ok a C e h).1) (fun l h => es_ok r C l h)
theorem pq_ok : (es : Es) → ∀ {cl : Clx} {xa : Fx} {M : Nm} {sc : Scope} {k : Nat} {X : Cx}, Ctx g cx cl xa M sc k X → ∀ l, es.chk M sc l = true → OkQ g cl xa X (fun env => es.ev cx env) l
  | .nil, cl, xa, M, sc, k, X, C, l, h => okq_nil h
  | .cons a r, cl, xa, M, sc, k, X, C, l, h => okq_cons h (fun e h => (e_ok a C e h).1) (fun l h => pq_ok r C l h)
theorem pr_ok : (es : Es) → ∀ {cl : Clx} {xa : Fx} {M : Nm} {sc : Scope} {k : Nat} {X : Cx}, Ctx g cx cl xa M sc k X → ∀ l, es.chk M sc l = true → OkD g cl xa X (fun env => es.ev cx env) l
  | .nil, cl, xa, M, sc, k, X, C, l, h => okd_nil h
  | .cons a r, cl, xa, M, sc, k, X, C, l, h => okd_cons h (fun e h => (e_ok a C e h).1) (fun l h => pr_ok r C l h)
theorem bo_ok : (es : Es) → ∀ {cl : Clx} {xa : Fx} {M : Nm} {sc : Scope} {k : Nat} {X : Cx}, Ctx g cx cl xa M sc k X → ∀ w op, boOk w op = true → ∀ pos l, es.chkB M sc l = true → OkO g cl xa X (fun env => es.bo cx w env) (.BoolOp op l pos) ∧ OkW g cl xa X (fun env => es.bo cx w env) (.BoolOp op l pos)
  | .nil, cl, xa, M, sc, k, X, C, w, op, hw, pos, l, h => ⟨fun n ω H env σ Q W r tk p => (post_no (by simpa only [Es.bo] using p)).elim, fun n ω H env σ Q W r tk p => (post_no (α := Bool) (by simpa only [Es.bo] using p : Post g cl xa n ω H σ (truthR .no) _ W)).elim⟩
  | .cons a .nil, cl, xa, M, sc, k, X, C, w, op, hw, pos, l, h => by
    simp only [Es.chkB] at h
    split at h
    · next x xs =>
      obtain ⟨h1, h2⟩ := and_t h
      split at h2
      · exact ok_bo1 hw (e_ok a C x h1) pos
      · cases h2
    · cases h
  | .cons a (.cons b r), cl, xa, M, sc, k, X, C, w, op, hw, pos, l, h => by
    cases l with
    | nil => simp only [Es.chkB] at h; cases h
    | cons x xs =>
      rw [Es.chkB] at h
      obtain ⟨h1, h2⟩ := and_t h
      cases xs with
      | nil => exact (Bool.false_ne_true (by simpa only [Es.chkB] using h2)).elim
      | cons y rest => exact ok_bo2 C.1 hw (e_ok a C x h1) pos (bo_ok (.cons b r) C w op hw pos (y :: rest) h2)
theorem oe_ok : (o : Oe) → ∀ {cl : Clx} {xa : Fx} {M : Nm} {sc : Scope} {k : Nat} {X : Cx}, Ctx g cx cl xa M sc k X → ∀ b, o = .so b → ∀ e, b.chk M sc e = true → OkO g cl xa X (fun env => b.ev cx env) e ∧ OkT g cl xa X (fun env => b.ev cx env) e
  | .no, cl, xa, M, sc, k, X, C, b, hb, e, h => by cases hb
  | .so a, cl, xa, M, sc, k, X, C, b, hb, e, h => by
    have e1 : a = b := by cases hb; rfl
    rw [← e1] at h ⊢
    exact e_ok a C e h
theorem it_ok : (it : Py.It) → ∀ {cl : Clx} {xa : Fx} {M : Nm} {sc : Scope} {k : Nat} {X : Cx}, Ctx g cx cl xa M sc k X → ∀ t e, it.chk M sc t e = true → OkI g cl xa X (fun env => it.ev cx env) t e
  | .e a, cl, xa, M, sc, k, X, C, t, e, h => ok_it_e C.1 h (fun e h => (e_ok a C e h).1)
  | .rng a, cl, xa, M, sc, k, X, C, t, e, h => ok_it_rng C.1 h (fun e h => (e_ok a C e h).1)
  | .rng2 a b, cl, xa, M, sc, k, X, C, t, e, h => ok_it_rng2 C.1 h (fun e h => (e_ok a C e h).1) (fun e h => (e_ok b C e h).1)
  | .enu a, cl, xa, M, sc, k, X, C, t, e, h => ok_it_enu C.1 h (fun e h => (e_ok a C e h).1)
  | .zip a b, cl, xa, M, sc, k, X, C, t, e, h => ok_it_zip C.1 h (fun e h => (e_ok a C e h).1) (fun e h => (e_ok b C e h).1)
end
end
end Py
set_option maxHeartbeats 1000000
namespace Py
open PySem PySem.Spec PyProof.Rows L2
/-! ### the checker of statements -/
def linesEq (a b : Pos) : Bool := a.endLine == b.line
/-- the statement's name changes places with the comprehension's list -/
def swpL (sc : Scope) (x : Str) (px vpos : Pos) (scope : Scope) : Bool := (if sc.kind.isAnnotationScope then ScopeKind.function else sc.kind) == .function && sc.names.lookup x == some .local && px.line == vpos.line
  && !(scope.names.any fun (n, k) => n == x && (k == .local || k == .cell))
def parOk (is : List Nat) (ts vs : List Expr) (sc : Scope) : Bool := match swpF ts vs sc with
  | none => false
  | some none => Nat.ble is.length 1000
  | some (some _) => match is, ts, vs with
    | [i, j], [.Name x _, .Name y _], [_, _] => !(i == j) && (sc.names.lookup x == some .local && (sc.names.lookup y == some .local && swN ts sc == [x, y]))
    | [i, j, l], [.Name x _, .Name y _, .Name z _], [_, _, _] => (!(i == j) && (!(i == l) && !(j == l))) && (sc.names.lookup x == some .local && (sc.names.lookup y == some .local && (sc.names.lookup z == some .local && swN ts sc == [x, y, z])))
    | _, _, _ => false
def augO : Op → Bool
  | .add => true
  | .sub => true
  | _ => false
def notLc2 : E → Bool
  | .lc2 .. => false
  | _ => true
def hdOk : List Stmt → Bool
  | [] => false
  | _ => true
mutual
def S.chk (M : Nm) (sc : Scope) : S → Stmt → Bool
  | .asg tg e, st => match st with
    | .Assign [t] v _ => (tg.chk M.N sc t && e.chk M sc v) && (match tg with | .n _ => notLc2 e | .t _ => M.calm && noTup v)
    | _ => false
  | .par is es, st => match st with
    | .Assign [.Tuple ts _ _] (.Tuple vs _ _) _ => (Tg.chk.chkNs M.N sc is ts && es.chk M sc vs) && (M.calm && parOk is ts vs sc)
    | _ => false
  | .sti i ix e, st => match st with
    | .Assign [.Subscript (.Name x _) s _] v _ => (varOk M.N sc i x && (ix.chk M sc s && plainE s)) && (e.chk M sc v && noComp v)
    | _ => false
  | .aug o i e, st => match st with
    | .AugAssign (.Name x _) op v _ => (stoOk M.N sc i x && opOk o op) && (e.chk M sc v && augO o)
    | _ => false
  | .ex e, st => match st with
    | .Expr v _ => e.chk M sc v && noComp v
    | _ => false
  | .app i e, st => match st with
    | .Expr (.Call (.Attribute (.Name x _) m apos) [v] [] cpos) _ => (varOk M.N sc i x && (seq m "append" && linesEq apos cpos)) && (e.chk M sc v && plainE v)
    | _ => false
  | .ext i e, st => match st with
    | .Expr (.Call (.Attribute (.Name x _) m apos) [v] [] cpos) _ => (varOk M.N sc i x && (seq m "extend" && linesEq apos cpos)) && (e.chk M sc v && plainE v)
    | _ => false
  | .ifs c a b, st => match st with
    | .If t x y _ => c.chk M sc t && (a.chk M sc x && b.chk M sc y)
    | _ => false
  | .whl c b, st => match st with
    | .While t x [] _ => M.calm && (c.chk M sc t && b.chk M sc x)
    | _ => false
  | .for_ tg it b, st => match st with
    | .For t i x [] _ => (M.calm && plainE i) && (it.chk M sc t i && (tg.chk M.N sc t && b.chk M sc x))
    | _ => false
  | .ret e, st => match st with
    | .Return (some v) _ => e.chk M sc v
    | _ => false
  | .retN, st => match st with
    | .Return none _ => true
    | _ => false
  | .sta i f e, st => match st with
    | .Assign [.Attribute (.Name x _) a _] v _ => varOk M.N sc i x && (strAt M.fnm f a && (e.chk M sc v && noComp v))
    | _ => false
  | .apa i f e, st => match st with
    | .Expr (.Call (.Attribute (.Attribute (.Name x _) a _) m apos) [v] [] cpos) _ => (varOk M.N sc i x && strAt M.fnm f a) && ((seq m "append" && linesEq apos cpos) && (e.chk M sc v && plainE v))
    | _ => false
  | .rai c es, st => match st with
    | .Raise (some (.Call (.Name x _) [] [] _)) none _ => (exAt M c x && (glB sc x && plainNm x)) && ((match es with | .nil => true | _ => false) && (M.calm && M.raz.contains c))
    | .Raise (some (.Call (.Name x _) [a] [] _)) none _ => (exAt M c x && (glB sc x && plainNm x)) && (((match es with | .cons _ .nil => true | _ => false) && es.chk M sc [a]) && (M.calm && M.raia.contains c))
    | _ => false
  | .try_ b c n h, st => match st with
    | .Try body [.ExceptHandler (some (.Name x _)) (some nm) suite _] [] [] _ => ((exAt M c x && (glB sc x && plainNm x)) && (at? M.N n nm && sc.names.lookup nm == some .local)) && ((M.calm && M.rais.contains c) && (b.chk M sc body && (h.chk M.hot sc suite && hdOk suite)))
    | _ => false
  | .pass, st => match st with
    | .Pass _ => true
    | _ => false
  | .brk, st => match st with
    | .Break _ => true
    | _ => false
  | .cnt, st => match st with
    | .Continue _ => true
    | _ => false
  | .bad, _ => true
  | .sti2 i k1 k2 es, st => match st with
    | .Assign [.Tuple [.Subscript (.Name x _) (.Constant c1 _ _) _, .Subscript (.Name y _) (.Constant c2 _ _) _] _ _] (.Tuple [v1, v2] _ _) _ => ((varOk M.N sc i x && varOk M.N sc i y) && (constOk k1 c1 && constOk k2 c2)) &&
      (es.chk M sc [v1, v2] && (M.calm && ((keyB k1 && keyB k2) && (flat k1 && flat k2))))
    | _ => false
def Ss.chk (M : Nm) (sc : Scope) : Ss → List Stmt → Bool
  | .nil, l => match l with | [] => true | _ => false
  | .cons s r, l => match l with | x :: xs => s.chk M sc x && r.chk M sc xs | _ => false
end
/-! ### readings of statements -/
def SS (X : Cx) (st : Stmt) : TS := fun D σ H => ∀ (pins : List (Addr × Obj)) (s : Shared), Inv X pins σ H s → wpAny (model X.prog X.w) X.A (exec st X.env) (SP X pins D) X.xe s
def SSs (X : Cx) (st : List Stmt) : TS := fun D σ H => ∀ (pins : List (Addr × Obj)) (s : Shared), Inv X pins σ H s → wpAny (model X.prog X.w) X.A (execs st X.env) (SP X pins D) X.xe s
theorem ps_ss (X : Cx) (e : Stmt) : PS X e (SS X e) := ⟨fun pins s _ _ _ I h => h pins s I⟩
theorem ss_of {X : Cx} {e : Stmt} {t : TS} (h : PS X e t) {D : Ends} {σ : L2.St} {H : Hp} (q : t D σ H) : SS X e D σ H := fun pins s I => h.run pins s σ H D I q
theorem pss_sss (X : Cx) (e : List Stmt) : PSs X e (SSs X e) := ⟨fun pins s _ _ _ I h => h pins s I⟩
theorem sss_of {X : Cx} {e : List Stmt} {t : TS} (h : PSs X e t) {D : Ends} {σ : L2.St} {H : Hp} (q : t D σ H) : SSs X e D σ H := fun pins s I => h.run pins s σ H D I q
section
variable {g : Gc} {cl : Clx} {xa : Fx} {M : Nm} {cx : EC} {sc : Scope} {k : Nat} {X : Cx} {n : Nat} {ω ω' : Om} {H H' : Hp} {σ : L2.St} {env : Env} {W : WX} {D : Ends}
def SPost (g : Gc) (cl : Clx) (xa : Fx) (ω : Om) (H : Hp) (r : SR) (D : Ends) (W : WX) : Prop := match r with
  | .nx e => ∀ σ' ω' H', Ext 0 ω H ω' H' → Rel g cl xa ω' H' e σ' → D.nx σ' H'
  | .bk e => ∀ σ' ω' H', Ext 0 ω H ω' H' → Rel g cl xa ω' H' e σ' → D.bk σ' H'
  | .ct e => ∀ σ' ω' H', Ext 0 ω H ω' H' → Rel g cl xa ω' H' e σ' → D.ct σ' H'
  | .rt t e => ∀ x σ' ω' H', Ext 0 ω H ω' H' → Rel g cl xa ω' H' e σ' → RT g cl xa ω' H' (.tmp 0) t x → D.rt x H'
  | .ex c e => ∀ cls d ω' H' σ', Ext 0 ω H ω' H' → Rel g cl xa ω' H' e σ' → RX g ω' H' c cls d → W cls d σ' H'
  | .no => False
theorem SPost.trans {r : SR} (p : SPost g cl xa ω H r D W) (e : Ext 0 ω H ω' H') : SPost g cl xa ω' H' r D W := by
  cases r with
  | nx _ => exact fun σ2 ω2 H2 e2 r2 => p σ2 ω2 H2 (e.trans e2) r2
  | bk _ => exact fun σ2 ω2 H2 e2 r2 => p σ2 ω2 H2 (e.trans e2) r2
  | ct _ => exact fun σ2 ω2 H2 e2 r2 => p σ2 ω2 H2 (e.trans e2) r2
  | rt _ _ => exact fun x σ2 ω2 H2 e2 r2 => p x σ2 ω2 H2 (e.trans e2) r2
  | ex _ _ => exact fun c d ω2 H2 σ2 e2 r2 rx => p c d ω2 H2 σ2 (e.trans e2) r2 rx
  | no => exact p
theorem SPost.bind {r : SR} {f : Env → SR} (p : SPost g cl xa ω H (r.bind f) D W) :
    SPost g cl xa ω H r { D with nx := fun σ1 H1 => ∃ (env1 : Env) (ω1 : Om), Rel g cl xa ω1 H1 env1 σ1 ∧ SPost g cl xa ω1 H1 (f env1) D W } W := by
  cases r with
  | nx e => exact fun σ1 ω1 H1 e1 r1 => ⟨e, ω1, r1, SPost.trans p e1⟩
  | bk _ => exact p
  | ct _ => exact p
  | rt _ _ => exact p
  | ex _ _ => exact p
  | no => exact p
theorem SPost.sr {α : Type} {r : R α} {f : α → Env → SR} {σ : L2.St} (p : SPost g cl xa ω H (r.sr f) D W) : Post g cl xa 0 ω H σ r (fun a e ω1 H1 => SPost g cl xa ω1 H1 (f a e) D W) W := by
  cases r with
  | ok a e => exact fun ω1 H1 e1 r1 => SPost.trans p e1
  | ex c e => exact p
  | no => exact p
def OkS (g : Gc) (cl : Clx) (xa : Fx) (X : Cx) (f : Env → SR) (st : Stmt) : Prop := ∀ ω H env σ D W, Rel g cl xa ω H env σ → Takes X W → SPost g cl xa ω H (f env) D W → SS X st D σ H
def OkSs (g : Gc) (cl : Clx) (xa : Fx) (X : Cx) (f : Env → SR) (st : List Stmt) : Prop := ∀ ω H env σ D W, Rel g cl xa ω H env σ → Takes X W → SPost g cl xa ω H (f env) D W → SSs X st D σ H
/-! ### what nobody owns stays owned -/
theorem own_ok {o : Opd} {x : V} {t : T} {env' : Env} (r : Rel g cl xa ω H env σ) (ro : RO g cl xa ω H σ n o x) (e : own env o = .ok t env') :
    ∃ ω', Ext n ω H ω' H ∧ Above n ω H ω' H ∧ Rel g cl xa ω' H env' σ ∧ RT g cl xa ω' H (.tmp n) t x := by
  cases o with
  | t u => cases e; exact ⟨ω, Ext.refl, fun _ _ => Kk.refl, r, ro⟩
  | pl i =>
    have e' : ((esc env (.pl i)).map Py.T.v) = .ok t env' := e
    cases z : esc env (.pl i) with
    | ex _ _ => exact (esc_noex z).elim
    | no => rw [z] at e'; cases e'
    | ok v env1 =>
      rw [z] at e'
      cases e'
      obtain ⟨ω1, x1, a1, r1, v1⟩ := esc_ok r ro z
      exact ⟨ω1, x1, a1, r1, v1⟩
theorem own_noex {o : Opd} {x : Exc} {env' : Env} (e : own env o = .ex x env') : False := by
  cases o with
  | t u => cases e
  | pl i =>
    have e' : ((esc env (.pl i)).map Py.T.v) = .ex x env' := e
    cases z : esc env (.pl i) with
    | ex _ _ => exact (esc_noex z).elim
    | no => rw [z] at e'; cases e'
    | ok v env1 => rw [z] at e'; cases e'
theorem Post.own {α : Type} {o : Opd} {x : V} {f : T → Env → R α} {Q : α → Env → Om → Hp → Prop} (r : Rel g cl xa ω H env σ) (ro : RO g cl xa ω H σ n o x) (p : Post g cl xa n ω H σ ((Py.own env o).bind f) Q W) :
    ∃ v env' ω', Ext n ω H ω' H ∧ Above n ω H ω' H ∧ Rel g cl xa ω' H env' σ ∧ RT g cl xa ω' H (.tmp n) v x ∧ Post g cl xa n ω' H σ (f v env') Q W := by
  cases z : Py.own env o with
  | ex _ _ => exact (own_noex z).elim
  | no => rw [z] at p; exact p.elim
  | ok v env1 =>
    rw [z] at p
    obtain ⟨ω1, x1, a1, r1, v1⟩ := own_ok r ro z
    exact ⟨v, env1, ω1, x1, a1, r1, v1, Post.trans p x1⟩
/-- all of the label k get the label k' -/
def mvL (ω : Om) (k k' : Lb) : Om := fun b => if ω b = some k then some k' else ω b
theorem mv_same {k k' : Lb} {b : Addr} (h : ω b = some k) : mvL ω k k' b = some k' := if_pos h
theorem mv_ne {k k' : Lb} {b : Addr} (h : ω b ≠ some k) : mvL ω k k' b = ω b := if_neg h
theorem mv_kp {k k' : Lb} : Kp ω H (mvL ω k k') H := fun b u h1 h2 _ => ⟨h1, by rw [mv_ne (by rw [h2]; exact fun q => nomatch q)]; exact h2⟩
theorem mv_kk {k k' l : Lb} (h : l ≠ k) : Kk l ω H (mvL ω k k') H := fun b h1 => ⟨by rw [mv_ne (by rw [h1]; exact fun q => h (by cases q; rfl))]; exact h1, rfl⟩
theorem mv_ext {k k' : Lb} (h : k ≠ .rest) (hm : ∀ m, m < n → k ≠ .tmp m) (h' : k' ≠ .rest) : Ext n ω H (mvL ω k k') H :=
  ⟨mv_kp, mv_kk (Ne.symm h), fun m q => mv_kk (Ne.symm (hm m q)), fun b hb => by
    by_cases e : ω b = some k
    · rw [mv_same e] at hb; cases hb; exact absurd rfl h'
    · rwa [mv_ne e] at hb⟩
theorem mv_trk {k k' : Lb} (t : Trk g ω H) (hk : k ≠ .tab) : Trk g (mvL ω k k') H := t.step (fun b hb => t.any b fun z => hb (by rw [mv_ne (by rw [z]; exact fun q => nomatch q)]; exact z)) mv_kp (mv_kk (Ne.symm hk))
/-- a temporary thing becomes a slot's -/
theorem tmp_slot {t : T} {x : V} (i : Nat) (r : Rel g cl xa ω H env σ) (h : RT g cl xa ω H (.tmp n) t x) : ∃ ω', Ext n ω H ω' H ∧ Above n ω H ω' H ∧ Rel g cl xa ω' H env σ ∧ RT g cl xa ω' H (.slot i) t x :=
  ⟨mvL ω (.tmp n) (.slot i), mv_ext (fun q => nomatch q) (fun m hm q => by cases q; exact Nat.lt_irrefl _ hm) (fun q => nomatch q), fun m hm => mv_kk (fun q => by cases q; exact Nat.lt_irrefl _ hm),
    r.keep mv_kp (fun j => mv_kk (fun q => nomatch q)) (mv_trk r.trk (fun q => nomatch q)), h.relabel (fun a z => by rw [mv_ne (by rw [z]; exact fun q => nomatch q)]; exact z) fun a z => mv_same z⟩
/-! ### statements, one by one -/
structure Stx (g : Gc) (cx : EC) (cl : Clx) (xa : Fx) (M : Nm) (sc : Scope) (k : Nat) (X : Cx) : Prop where
  ctx : Ctx g cx cl xa M sc k X
  sc : X.env.scope = sc
  st : X.stack = X.env :: X.outer
  fr : X.env.frame = some X.env.locals
  po : M.calm = true → PassesOwn (model X.prog X.w) X.A X.env X.xe
  xe : M.calm = true → xa.e = none
  rm : M.calm = true → Room 2 X.A
theorem name_at (C : Stx g cx cl xa M sc k X) {i : Nat} {x : Str} (h : stoOk M.N sc i x = true) : X.N[i]? = some x ∧ Loc X.env.scope x ∧ (X.fn x = true ∨ X.env.scope.names.lookup x = some .local) := by
  obtain ⟨h1, h2⟩ := and_t h
  obtain ⟨h3, h4⟩ := C.ctx.1.loc x h2
  unfold at? at h1
  split at h1
  · next y q => rw [seq_ok h1] at q; exact ⟨by rw [C.ctx.1.N]; exact q, h3, h4⟩
  · cases h1
theorem swl_eq {e : Expr} {x : Str} {px : Pos} {line : Nat} {envX : PySem.Env} (h : noComp e = true) : swapsWith e (some (.Name x px)) line envX = pure false := by
  cases e <;> first | rfl | cases h
theorem swl_none {e : Expr} {line : Nat} {envX : PySem.Env} (h : noComp e = true) : swapsWith e none line envX = pure false := by
  cases e <;> first | rfl | cases h
/-- name = value -/
theorem ok_asgn (C : Stx g cx cl xa M sc k X) {i : Nat} {e : E} {x : Str} {px pos : Pos} {v : Expr} (h1 : stoOk M.N sc i x = true) (h2 : e.chk M sc v = true) (hn : notLc2 e = true) (hF : i ∉ xa.F) : OkS g cl xa X (fun env => (S.asg (.n i) e).ev cx env) (.Assign [.Name x px] v pos) := by
  intro ω H env σ D W r tk p
  obtain ⟨n1, n2, n3⟩ := name_at C h1
  have nd : X.N.Nodup := by rw [C.ctx.1.N]; exact C.ctx.1.nd
  have p' : SPost g cl xa ω H ((S.asg (.n i) e).ev cx env) D W := p
  simp only [S.ev] at p'
  have key : Post g cl xa 0 ω H σ (e.ev cx env) (fun o _ ω' H' => ∀ y, RO g cl xa ω' H' σ 0 o y → gName i y σ H' D.nx) W := by
    refine (Post.bind (SPost.sr p')).imp fun o env1 ω1 H1 e1 r1 p1 y ro => ?_
    have p2 : Post g cl xa 0 ω1 H1 σ ((own env1 o).bind fun t env => Py.R.ok t env) (fun t e ω1 H1 => SPost g cl xa ω1 H1 (.nx (st e i (some t))) D W) W := by
      cases z : own env1 o with
      | ex _ _ => exact (own_noex z).elim
      | no => rw [z] at p1; exact p1.elim
      | ok t e2 => rw [z] at p1; exact p1
    obtain ⟨t, env2, ω2, x2, _, r2, t2, p3⟩ := Post.own r1 ro p2
    obtain ⟨ω3, x3, _, r3, t3⟩ := tmp_slot i r2 t2
    exact (Post.here r2 p3) _ ω3 H1 x3 (r3.set t3 hF)
  have gen : noComp v = true → SS X (.Assign [.Name x px] v pos) D σ H := fun hv => ss_of (ps_set nd n1 n2 (pe_se X v) (swl_eq hv) n3) ((e_ok e C.ctx v h2).1 0 ω H env σ _ W r tk key)
  cases v with
  | ListComp elt gens scope vpos =>
    cases e with
    | lc el tg it c own =>
      have h2' := h2
      simp only [E.chk] at h2'
      split at h2'
      · next elt t it' ifs scope vpos q =>
        cases q
        obtain ⟨tt, te, ow, q1, q2, q3, q4, q5, q6, q7⟩ := lc_both C.ctx.1 h2 (fun t e h => it_ok it C.ctx t e h)
          (fun xa X sc C' hc l h => ok_cond h fun b hb e h => (oe_ok c (⟨C', Xok.calm hc, CloOk.off rfl⟩ : Ctx g cx cl xa M.in sc k X) b hb e h).2)
          (fun xa X sc C' hc e h => (e_ok el (⟨C', Xok.calm hc, CloOk.off rfl⟩ : Ctx g cx cl xa M.in sc k X) e h).1)
        have rd := q7 0 ω H env σ (fun y H' => gName i y σ H' D.nx) W r tk key
        cases hb : swpL X.env.scope x px vpos scope with
        | false => exact ss_of (ps_set nd n1 n2 (pe_lc q1 nd (pi_si X t it') q2 q3 q4 q5 q6) (by show pure (swpL X.env.scope x px vpos scope) = _; rw [hb]) n3) rd
        | true =>
          have hl : X.env.scope.names.lookup x = some .local := by
            unfold swpL at hb
            obtain ⟨hb, _⟩ := and_t hb
            obtain ⟨hb, _⟩ := and_t hb
            obtain ⟨_, hb⟩ := and_t hb
            exact eq_of_beq hb
          exact ss_of (ps_setLc q1 nd n1 hl (by show pure (swpL X.env.scope x px vpos scope) = _; rw [hb]) (pi_si X t it') q2 q3 q4 q5 q6) rd
      · cases h2'
    | lc2 _ _ _ _ _ _ _ _ _ => exact (Bool.false_ne_true hn).elim
    | bad => exact (post_no (by simpa only [E.ev] using key)).elim
    | _ => first | exact (Bool.false_ne_true (by simpa only [E.chk] using h2)).elim
  | SetComp _ _ _ _ =>
    cases e with
    | bad => exact (post_no (by simpa only [E.ev] using key)).elim
    | _ => exact (Bool.false_ne_true (by simpa only [E.chk] using h2)).elim
  | DictComp _ _ _ _ _ =>
    cases e with
    | bad => exact (post_no (by simpa only [E.ev] using key)).elim
    | _ => exact (Bool.false_ne_true (by simpa only [E.chk] using h2)).elim
  | _ => exact gen rfl
end
end Py
set_option maxHeartbeats 1000000
namespace Py
open PySem PySem.Spec PyProof.Rows L2
section
variable {g : Gc} {cl : Clx} {xa : Fx} {M : Nm} {cx : EC} {sc : Scope} {k : Nat} {X : Cx} {n : Nat} {ω ω' : Om} {H H' : Hp} {σ : L2.St} {env : Env} {W : WX} {D : Ends}
theorem sr_bind {α β : Type} {r : R α} {f : α → Env → R β} {h : β → Env → SR} : (r.bind f).sr h = r.sr fun a e => (f a e).sr h := by
  cases r <;> rfl
/-- (a, b, ..) = value -/
theorem ok_asgt (C : Stx g cx cl xa M sc k X) {is : List Nat} {e : E} {t v : Expr} {pos : Pos} (h1 : (Tg.t is).chk M.N sc t = true) (h2 : e.chk M sc v = true) (hc : M.calm = true) (hv : noTup v = true) (hF : ∀ j ∈ is, j ∉ xa.F) :
    OkS g cl xa X (fun env => (S.asg (.t is) e).ev cx env) (.Assign [t] v pos) := by
  intro ω H env σ D W r tk p
  have hX := C.ctx.1.calm hc
  have p' : SPost g cl xa ω H ((S.asg (.t is) e).ev cx env) D W := p
  simp only [S.ev] at p'
  have hg := tg_ok C.ctx.1 hX h1
  cases t with
  | Tuple ts kt pt =>
    have hs : swapsWithSole [Expr.Tuple ts kt pt] v pos.line X.env = pure false := by cases v <;> rfl
    have hw : swappedStores [Expr.Tuple ts kt pt] v X.env = pure none := by cases v <;> first | rfl | cases hv
    refine ss_of (ps_asg (pe_se X v) hg hs hw) ((e_ok e C.ctx v h2).1 0 ω H env σ _ W r tk ((Post.bind (SPost.sr p')).imp fun o env1 ω1 H1 e1 r1 p1 y ro => ?_))
    have p2 : Post g cl xa 0 ω1 H1 σ ((esc env1 o).bind fun t env => Py.R.ok t env) (fun v e ω1 H1 => SPost g cl xa ω1 H1 (match asgV (.t is) v e with
      | some env => .nx env
      | none => .no) D W) W := by
      cases z : esc env1 o with
      | ex _ _ => exact (esc_noex z).elim
      | no => rw [z] at p1; exact p1.elim
      | ok t e2 => rw [z] at p1; exact p1
    obtain ⟨w, env2, ω2, x2, _, r2, v2, p3⟩ := Post.esc r1 ro p2
    have p4 := Post.here r2 p3
    cases ha : asgV (.t is) w env2 with
    | none => simp only [ha] at p4; exact p4.elim
    | some env3 =>
      simp only [ha] at p4
      exact asgV_ok C.ctx.1.K r2 v2 ha hF fun σ' r' _ _ => p4 σ' ω2 H1 Ext.refl r'
  | _ => exact (Bool.false_ne_true h1).elim
/-! several at once -/
def RTs (g : Gc) (cl : Clx) (xa : Fx) (ω : Om) (H : Hp) : Nat → List T → List V → Prop
  | _, [], xs => xs = []
  | n, t :: ts, xs => ∃ x r, xs = x :: r ∧ RT g cl xa ω H (.tmp n) t x ∧ RTs g cl xa ω H (n + 1) ts r
theorem RTs.kk (h1 : Kp ω H ω' H') : ∀ {n : Nat} {ts : List T} {xs : List V}, (∀ m, n ≤ m → Kk (.tmp m) ω H ω' H') → RTs g cl xa ω H n ts xs → RTs g cl xa ω' H' n ts xs
  | _, [], _, _, h => h
  | n, t :: ts, _, hk, ⟨x, r, e, h2, h3⟩ => ⟨x, r, e, RT.keep h1 (hk n (Nat.le_refl n)) h2, RTs.kk h1 (fun m hm => hk m (Nat.le_of_succ_le hm)) h3⟩
theorem RTs.len : ∀ {n : Nat} {ts : List T} {xs : List V}, RTs g cl xa ω H n ts xs → xs.length = ts.length
  | _, [], _, h => by rw [show _ = ([] : List V) from h]; rfl
  | n, t :: ts, _, ⟨x, r, e, _, h⟩ => by rw [e, List.length_cons, List.length_cons, RTs.len h]
theorem owns_ok : ∀ {os : List Opd} {n : Nat} {ω : Om} {env env' : Env} {xs : List V} {ts : List T}, Rel g cl xa ω H env σ → ROs g cl xa ω H σ n os xs → owns os env = .ok ts env' →
    ∃ ω', Ext n ω H ω' H ∧ Rel g cl xa ω' H env' σ ∧ RTs g cl xa ω' H n ts xs
  | [], n, ω, env, _, xs, ts, r, ro, e => by cases e; exact ⟨ω, Ext.refl, r, ro⟩
  | o :: os, n, ω, env, env', _, ts, r, ⟨x, q, e0, h1, h2⟩, e => by
    have e' : ((own env o).bind fun x env => (owns os env).bind fun xs env => Py.R.ok (x :: xs) env) = .ok ts env' := e
    cases z : own env o with
    | ex _ _ => exact (own_noex z).elim
    | no => rw [z] at e'; cases e'
    | ok v env1 =>
      rw [z] at e'
      have e2 : ((owns os env1).bind fun xs env => Py.R.ok (v :: xs) env) = .ok ts env' := e'
      obtain ⟨ω1, x1, a1, r1, v1⟩ := own_ok r h1 z
      have ro1 : ROs g cl xa ω1 H σ (n + 1) os q := ROs.kk x1.kp (fun m hm => a1 m hm) h2
      cases z2 : owns os env1 with
      | ex _ _ => rw [z2] at e2; cases e2
      | no => rw [z2] at e2; cases e2
      | ok us env2 =>
        rw [z2] at e2
        cases e2
        obtain ⟨ω2, x2, r2, v2⟩ := owns_ok r1 ro1 z2
        exact ⟨ω2, x1.trans (x2.mono (Nat.le_succ n)), r2, x, q, e0, v1.keep x2.kp (x2.tmp n (Nat.lt_succ_self n)), v2⟩
theorem owns_noex : ∀ {os : List Opd} {env env' : Env} {x : Exc}, owns os env = .ex x env' → False
  | [], _, _, _, e => by cases e
  | o :: os, env, env', x, e => by
    have e' : ((own env o).bind fun x env => (owns os env).bind fun xs env => Py.R.ok (x :: xs) env) = .ex x env' := e
    cases z : own env o with
    | ex _ _ => exact (own_noex z).elim
    | no => rw [z] at e'; cases e'
    | ok v env1 =>
      rw [z] at e'
      have e2 : ((owns os env1).bind fun xs env => Py.R.ok (v :: xs) env) = .ex x env' := e'
      cases z2 : owns os env1 with
      | ex _ _ => exact (owns_noex z2).elim
      | no => rw [z2] at e2; cases e2
      | ok us env2 => rw [z2] at e2; cases e2
/-- the temporary things become the slots' -/
def setAll : List Nat → List V → L2.St → L2.St
  | i :: is, x :: xs, σ => setAll is xs (σ.set i (some x))
  | _, _, σ => σ
theorem asgTs_ok : ∀ {is : List Nat} {ts : List T} {xs : List V} {n : Nat} {ω : Om} {env env' : Env} {σ : L2.St}, Rel g cl xa ω H env σ → RTs g cl xa ω H n ts xs → asgTs is ts env = some env' → (∀ j ∈ is, j ∉ xa.F) →
    ∃ ω', Ext n ω H ω' H ∧ Rel g cl xa ω' H env' (setAll is xs σ)
  | [], [], xs, n, ω, env, env', σ, r, h, e, _ => by cases e; rw [show xs = [] from h]; exact ⟨ω, Ext.refl, r⟩
  | i :: is, t :: ts, _, n, ω, env, env', σ, r, ⟨x, q, e0, h1, h2⟩, e, hF => by
    obtain ⟨ω1, x1, a1, r1, t1⟩ := tmp_slot i r h1
    have e' : asgTs is ts (st env i (some t)) = some env' := e
    obtain ⟨ω2, x2, r2⟩ := asgTs_ok (r1.set t1 (hF i List.mem_cons_self)) (RTs.kk x1.kp (fun m hm => a1 m hm) h2) e' fun j hj => hF j (List.mem_cons_of_mem _ hj)
    rw [e0]
    exact ⟨ω2, x1.trans (x2.mono (Nat.le_succ n)), r2⟩
  | [], _ :: _, _, _, _, _, _, _, _, _, e, _ => by cases e
  | _ :: _, [], _, _, _, _, _, _, _, _, e, _ => by cases e
theorem gNs_all : ∀ {is : List Nat} {xs : List V} {σ : L2.St} {H : Hp} {Q : L2.St → Hp → Prop}, xs.length = is.length → Q (setAll is xs σ) H → gNs is xs σ H Q
  | [], [], _, _, _, _, q => ⟨rfl, q⟩
  | i :: is, x :: xs, σ, H, Q, h, q => ⟨x, xs, rfl, gNs_all (by simpa using h) q⟩
  | [], _ :: _, _, _, _, h, _ => by simp at h
  | _ :: _, [], _, _, _, h, _ => by simp at h
theorem asgTs_len : ∀ {is : List Nat} {ts : List T} {env env' : Env}, asgTs is ts env = some env' → ts.length = is.length
  | [], [], _, _, _ => rfl
  | _ :: is, _ :: ts, _, _, e => by rw [List.length_cons, List.length_cons, asgTs_len (is := is) (ts := ts) e]
  | [], _ :: _, _, _, e => by cases e
  | _ :: _, [], _, _, e => by cases e
theorem ok_par (C : Stx g cx cl xa M sc k X) {is : List Nat} {es : Es} {ts vs : List Expr} {kt k2 : Nat} {pt p2 pos : Pos} (h1 : Tg.chk.chkNs M.N sc is ts = true) (h2 : es.chk M sc vs = true) (hc : M.calm = true) (hp : parOk is ts vs sc = true) (hF : ∀ j ∈ is, j ∉ xa.F) :
    OkS g cl xa X (fun env => (S.par is es).ev cx env) (.Assign [.Tuple ts kt pt] (.Tuple vs k2 p2) pos) := by
  intro ω H env σ D W r tk p
  have hX := C.ctx.1.calm hc
  have nd : X.N.Nodup := by rw [C.ctx.1.N]; exact C.ctx.1.nd
  have p' : SPost g cl xa ω H ((S.par is es).ev cx env) D W := p
  simp only [S.ev] at p'
  -- behind the right side
  have key : ∀ (Q : List V → Hp → Prop), (∀ xs ω1 H1 env1 ts', Rel g cl xa ω1 H1 env1 σ → RTs g cl xa ω1 H1 0 ts' xs → SPost g cl xa ω1 H1 (match asgTs is ts' env1 with
      | some env => .nx env
      | none => .no) D W → Q xs H1) → SA X vs σ H Q := fun Q hQ => by
    refine es_ok es C.ctx vs h2 0 ω H env σ Q W r tk ((Post.bind (SPost.sr p')).imp fun os env1 ω1 H1 e1 r1 p1 xs ro => ?_)
    cases z : owns os env1 with
    | ex _ _ => exact (owns_noex z).elim
    | no => rw [z] at p1; exact p1.elim
    | ok ts' env2 =>
      rw [z] at p1
      obtain ⟨ω2, x2, r2, t2⟩ := owns_ok r1 ro z
      exact hQ xs ω2 H1 env2 ts' r2 t2 (p1 ω2 H1 x2 r2)
  have fin : ∀ xs ω1 H1 env1 ts', Rel g cl xa ω1 H1 env1 σ → RTs g cl xa ω1 H1 0 ts' xs → SPost g cl xa ω1 H1 (match asgTs is ts' env1 with
      | some env => .nx env
      | none => .no) D W → xs.length = is.length ∧ D.nx (setAll is xs σ) H1 := fun xs ω1 H1 env1 ts' r1 t1 p1 => by
    cases z : asgTs is ts' env1 with
    | none => rw [z] at p1; exact p1.elim
    | some env2 =>
      rw [z] at p1
      obtain ⟨ω2, x2, r2⟩ := asgTs_ok r1 t1 z hF
      exact ⟨by rw [t1.len, asgTs_len z], p1 _ ω2 H1 x2 r2⟩
  unfold parOk at hp
  split at hp
  · cases hp
  · next hs =>
    -- the general way
    have hw := swp_eq (kt := kt) (k2 := k2) (p1 := pt) (p2 := p2) C.sc hs
    have hg := tg_ok C.ctx.1 hX (show (Tg.t is).chk M.N sc (.Tuple ts kt pt) = true from h1)
    refine ss_of (ps_asg (pe_tup (pa_sa X vs)) hg (by rfl) hw) (key _ fun xs ω1 H1 env1 ts' r1 t1 p1 => ?_)
    obtain ⟨hlen, _⟩ := fin xs ω1 H1 env1 ts' r1 t1 p1
    refine ⟨?_, fun q hq => ?_⟩
    · rw [hlen]; exact Nat.le_trans (Nat.le_of_ble_eq_true hp) (by show 1000 ≤ 2 ^ 24; decide)
    · have r2 := r1.new (k := none) hq (ow_tup (xs := xs))
      have t2 : RTs g cl xa (lab ω1 q none) (upd H1 q (.tup xs)) 0 ts' xs := RTs.kk (new_kp hq) (fun m _ => new_kk r1.trk hq) t1
      have p2 := SPost.trans p1 (new_ext (n := 0) (k := none) (o := .tup xs) r1.trk hq (fun q => nomatch q))
      cases z : asgTs is ts' env1 with
      | none => rw [z] at p2; exact p2.elim
      | some env2 =>
        rw [z] at p2
        obtain ⟨ω2, x2, r3⟩ := asgTs_ok r2 t2 z hF
        exact ⟨q, xs, rfl, .inl (.inl upd_same), hlen, gNs_all hlen (p2 _ ω2 _ x2 r3)⟩
  · next nm hs =>
    have hw := swp_eq (kt := kt) (k2 := k2) (p1 := pt) (p2 := p2) C.sc hs
    have hnm : nm = swN ts sc := by
      unfold swpF at hs
      split at hs <;> first | (cases hs; rfl) | cases hs
    split at hp
    · next i j x px y py a b =>
      obtain ⟨g1, g2⟩ := and_t hp
      obtain ⟨g2, g3⟩ := and_t g2
      obtain ⟨g3, g4⟩ := and_t g3
      rw [hnm, eq_of_beq g4] at hw
      unfold Tg.chk.chkNs at h1
      obtain ⟨a1, a2⟩ := and_t h1
      unfold Tg.chk.chkNs at a2
      obtain ⟨a2, _⟩ := and_t a2
      refine ss_of (ps_par hX nd (name_at C a1).1 (name_at C a2).1 (by simpa using g1) (by rw [C.sc]; exact eq_of_beq g2) (by rw [C.sc]; exact eq_of_beq g3) (pa_sa X [a, b]) hw) (key _ fun xs ω1 H1 env1 ts' r1 t1 p1 => ?_)
      obtain ⟨hlen, q⟩ := fin xs ω1 H1 env1 ts' r1 t1 p1
      obtain ⟨u, v, rfl⟩ : ∃ u v, xs = [u, v] := by
        cases xs with
        | nil => simp at hlen
        | cons u r => cases r with
          | nil => simp at hlen
          | cons v r => cases r with
            | nil => exact ⟨u, v, rfl⟩
            | cons _ _ => simp at hlen
      exact ⟨u, v, rfl, q⟩
    · next i j l x px y py z pz a b c =>
      obtain ⟨g1, g2⟩ := and_t hp
      obtain ⟨d1, d2⟩ := and_t g1
      obtain ⟨d2, d3⟩ := and_t d2
      obtain ⟨g2, g3⟩ := and_t g2
      obtain ⟨g3, g4⟩ := and_t g3
      obtain ⟨g4, g5⟩ := and_t g4
      rw [hnm, eq_of_beq g5] at hw
      unfold Tg.chk.chkNs at h1
      obtain ⟨a1, a2⟩ := and_t h1
      unfold Tg.chk.chkNs at a2
      obtain ⟨a2, a3⟩ := and_t a2
      unfold Tg.chk.chkNs at a3
      obtain ⟨a3, _⟩ := and_t a3
      refine ss_of (ps_par3 hX nd (name_at C a1).1 (name_at C a2).1 (name_at C a3).1 (by simpa using d1) (by simpa using d2) (by simpa using d3) (by rw [C.sc]; exact eq_of_beq g2) (by rw [C.sc]; exact eq_of_beq g3) (by rw [C.sc]; exact eq_of_beq g4) (pa_sa X [a, b, c]) hw) (key _ fun xs ω1 H1 env1 ts' r1 t1 p1 => ?_)
      obtain ⟨hlen, q⟩ := fin xs ω1 H1 env1 ts' r1 t1 p1
      obtain ⟨u, v, w, rfl⟩ : ∃ u v w, xs = [u, v, w] := by
        cases xs with
        | nil => simp at hlen
        | cons u r => cases r with
          | nil => simp at hlen
          | cons v r => cases r with
            | nil => simp at hlen
            | cons w r => cases r with
              | nil => exact ⟨u, v, w, rfl⟩
              | cons _ _ => simp at hlen
      exact ⟨u, v, w, rfl, q⟩
    · cases hp
end
end Py
set_option maxHeartbeats 1000000
namespace PySem.ExtTup
open PySem.AutoSeq1 (wpAny_loadPart' idx_int sub_tuple_tuple sub_list_list sub_tuple_list sub_list_tuple)
theorem meets_ext (l : Addr) (xs : Array Value) (n : Nat) (b : Addr) (ys : Array Value) (m : Nat) (dd : Option Addr) (sl : Array (Option Value)) (h0 : ¬(!xs.isEmpty && Builtin.List.listTooLong (xs.size + ys.size)) = true) (h1 : xs.size ≤ sizeLine) (h2 : xs.size + ys.size ≤ sizeLine + 1) :
    Meets (Builtin.«list.extend» ⟨[.ref l, .ref b], []⟩) (fun _ RR st => st.heap.get? l = some { cls := .type "list", dict := none, data := .seq xs n, slots := #[] } ∧ st.heap.get? b = some { cls := .type "tuple", dict := dd, data := .seq ys m, slots := sl } ∧
      RR (.ok (.ret Value.none)) { st with heap := st.heap.update l (Obj.mapSeq fun x => x ++ ys), toks := st.toks }) :=
  .of_wp fun prog w A RR st h => by
    obtain ⟨hp, g, d, tk, os⟩ := st
    obtain ⟨hl, hb, h⟩ := h
    have f1 := idx_int
    have f2 := sub_tuple_tuple
    have f3 := sub_list_list
    have f4 := sub_tuple_list
    have f5 := sub_list_tuple
    have hz' : (xs ++ ys).size ≤ sizeLine + 1 := by rw [Array.size_append]; exact h2
    wp_walk using (wpAny_updateSeq hl rfl (hz := h1) (_hz' := hz')), wpAny_loadPart' hl, wpAny_loadPart' hb
    exact ⟨_, rfl, h⟩
end PySem.ExtTup
namespace Py
open PySem PySem.Spec PyProof.Rows L2
section
variable {g : Gc} {cl : Clx} {xa : Fx} {M : Nm} {cx : EC} {sc : Scope} {k : Nat} {X : Cx} {n : Nat} {ω ω' : Om} {H H' : Hp} {σ : L2.St} {env : Env} {W : WX} {D : Ends}
/-- the list in a slot is written -/
theorem Rel.wr (r : Rel g cl xa ω H env σ) {i : Nat} {l l' : List Val} {a : Addr} {xs xs' : List V} (h1 : σ[i]? = some (some (.ref a))) (h2 : ω a = some (.slot i)) (h4 : RVs g ω H l' xs') :
    Ext n ω H ω (upd H a (.lst xs')) ∧ Rel g cl xa ω (upd H a (.lst xs')) (st env i (some (.vl l'))) σ := by
  have kp : Kp ω H ω (upd H a (.lst xs')) := wr_kp h2
  refine ⟨wr_ext h2 (fun q => nomatch q) (fun m hm q => nomatch q), by rw [st_length, r.len], fun j u hj => ?_, r.fix, wr_trk r.trk h2 ow_lst⟩
  rw [gt_st] at hj
  by_cases zz : j = i ∧ i < env.length
  · rw [if_pos zz] at hj
    cases hj
    exact ⟨.ref a, fun _ => by rw [zz.1]; exact h1, a, _, rfl, by rw [zz.1]; exact h2, upd_same, h4.kp' kp⟩
  · rw [if_neg zz] at hj
    obtain ⟨y, w1, w2⟩ := r.at0 j u hj
    have hlt := gt_lt hj
    have ne : i ≠ j := fun q => zz ⟨q.symm, by rw [q]; exact hlt⟩
    exact ⟨y, w1, w2.keep kp (wr_kk h2 (slot_ne (Ne.symm ne)))⟩
theorem st_st : ∀ (env : Env) (i : Nat) (t u : Option T), st (st env i t) i u = st env i u
  | [], _, _, _ => rfl
  | _ :: _, 0, _, _ => rfl
  | x :: r, i + 1, t, u => by show x :: st (st r i t) i u = x :: st r i u; rw [st_st r i t u]
theorem Rel.wrD (r : Rel g cl xa ω H env σ) {i : Nat} {ks vs : List Val} {a : Addr} {kvs : List (Key × V)} (h1 : σ[i]? = some (some (.ref a))) (h2 : ω a = some (.slot i)) (h4 : DK g ω H ks vs kvs) :
    Ext n ω H ω (upd H a (.dK kvs)) ∧ Rel g cl xa ω (upd H a (.dK kvs)) (st env i (some (.vd ks vs))) σ := by
  have kp : Kp ω H ω (upd H a (.dK kvs)) := wr_kp h2
  refine ⟨wr_ext h2 (fun q => nomatch q) (fun m hm q => nomatch q), by rw [st_length, r.len], fun j u hj => ?_, r.fix, wr_trk r.trk h2 ow_dK⟩
  rw [gt_st] at hj
  by_cases zz : j = i ∧ i < env.length
  · rw [if_pos zz] at hj
    cases hj
    exact ⟨.ref a, fun _ => by rw [zz.1]; exact h1, a, _, rfl, by rw [zz.1]; exact h2, upd_same, h4.kp kp⟩
  · rw [if_neg zz] at hj
    obtain ⟨y, w1, w2⟩ := r.at0 j u hj
    have hlt := gt_lt hj
    have ne : i ≠ j := fun q => zz ⟨q.symm, by rw [q]; exact hlt⟩
    exact ⟨y, w1, w2.keep kp (wr_kk h2 (slot_ne (Ne.symm ne)))⟩
theorem dk_len : ∀ {ks vs : List Val} {kvs : List (Key × V)}, DK g ω H ks vs kvs → kvs.length = ks.length
  | [], [], _, h => by rw [show _ = ([] : List (Key × V)) from h]; rfl
  | [], _ :: _, _, h => h.elim
  | _ :: _, [], _, h => h.elim
  | _ :: ks, _ :: vs, _, ⟨q, y, r, h1, h2, h3, h4⟩ => by rw [h1, List.length_cons, List.length_cons, dk_len h4]
theorem pset_or {X : Cx} {r r' : V → V → V → Hp → (Hp → Prop) → Prop} (h : PSet X r) (h' : PSet X r') : PSet X (fun o i v H Q => r o i v H Q ∨ r' o i v H Q) := by
  intro pins s σ H o i v ov iv u Q I ro ri rv q
  rcases q with q | q
  · exact h pins s σ H o i v ov iv u Q I ro ri rv q
  · exact h' pins s σ H o i v ov iv u Q I ro ri rv q
/-- xs.extend(a list or a tuple) -/
theorem mt_extA {X : Cx} : MtM X "list.extend" (fun x vs H Q => ∃ l b xs zs, x = .ref l ∧ vs = [.ref b] ∧ H l = some (.lst xs) ∧ (H b = some (.lst zs) ∨ SqT X.K H b zs) ∧ xs.length + zs.length ≤ sizeLine ∧ Q .non (upd H l (.lst (xs ++ zs)))) := by
  intro pins s σ H x vs v us Q I rx rv h
  obtain ⟨l, b, xs, zs, rfl, rfl, hH, hB, hz, q⟩ := h
  rcases hB with hB | hB
  · exact mt_extend pins s σ H _ _ v us Q I rx rv ⟨l, b, xs, zs, rfl, rfl, hH, hB, hz, q⟩
  · cases rx
    obtain ⟨u, rfl, ru⟩ := rv.one
    cases ru
    obtain ⟨z, its, n, r, hl, e⟩ := I.lstM hH
    obtain ⟨its2, r2, ⟨⟨cls, dd, data, sl⟩, e2, hc, n2, hd⟩, hl2⟩ := I.tuple hB
    simp only at hc hd
    subst hc hd
    have hr2 := r2.length
    have hlong : ¬ (!its.toArray.isEmpty && Builtin.List.listTooLong (its.toArray.size + its2.toArray.size)) = true := by
      rw [notLongL (by rw [List.size_toArray, List.size_toArray]; omega), Bool.and_false]
      exact Bool.false_ne_true
    refine call_meets PySem.F.slot_list_extend ⟨_, e, rfl⟩ PySem.F.entry_list_extend (PySem.F.args_list_extend_2 _ _)
      (ExtTup.meets_ext l its.toArray n b its2.toArray n2 dd sl hlong (by rw [List.size_toArray]; omega) (by rw [List.size_toArray, List.size_toArray]; omega)) ⟨e, e2, ?_⟩
    refine ⟨.non, _, I.lset (its' := its ++ its2) hH e (by simp) (r.append r2) ?_, rfl, q⟩
    rw [List.length_append]
    omega
theorem ok_expr (C : Stx g cx cl xa M sc k X) {e : E} {v : Expr} {pos : Pos} (h1 : e.chk M sc v = true) (h2 : noComp v = true) : OkS g cl xa X (fun env => (S.ex e).ev cx env) (.Expr v pos) := by
  intro ω H env σ D W r tk p
  have p' : SPost g cl xa ω H ((S.ex e).ev cx env) D W := p
  simp only [S.ev] at p'
  refine ss_of (ps_expr (pe_se X v) (swl_none h2)) ((e_ok e C.ctx v h1).1 0 ω H env σ _ W r tk ((SPost.sr p').imp fun o env1 ω1 H1 e1 r1 p1 y ro => ?_))
  exact p1 σ ω1 H1 Ext.refl r1
theorem ok_app (C : Stx g cx cl xa M sc k X) {i : Nat} {e : E} {x m : Str} {px apos cpos pos : Pos} {v : Expr} (h1 : varOk M.N sc i x = true) (h2 : seq m "append" = true) (h3 : linesEq apos cpos = true) (h4 : e.chk M sc v = true) (h5 : plainE v = true) :
    OkS g cl xa X (fun env => (S.app i e).ev cx env) (.Expr (.Call (.Attribute (.Name x px) m apos) [v] [] cpos) pos) := by
  intro ω H env σ D W r tk p
  rw [seq_ok h2]
  obtain ⟨g1, g2, g3, g4⟩ := vis_ok C.ctx.1 h1
  have hst := star_eq h5 [] X.env
  have p' : SPost g cl xa ω H ((S.app i e).ev cx env) D W := p
  simp only [S.ev] at p'
  split at p'
  · next l0 hl0 =>
    obtain ⟨z0, q1, a, xs0, q2, q3, q4, q5⟩ := r.at_ i (.vl l0) hl0
    subst q2
    refine ss_of (ps_expr (pe_bm PySem.F.plainAttrs_list PySem.F.slot_list_append PySem.F.type_list_append mt_append (pe_var g1 g2 g3 g4) (pa_cons (pe_se X v) pa_nil hst) rfl (by rw [hst]; rfl) h3 hst rfl) (by rfl)) ⟨_, q1, .inl ⟨rfl, xs0, .inl (.inl q4)⟩, ?_⟩
    refine (e_ok e C.ctx v h4).1 0 ω H env σ _ W r tk ((Post.bind (SPost.sr p')).imp fun o env1 ω1 H1 e1 r1 p1 y ro => ?_)
    have p2 : Post g cl xa 0 ω1 H1 σ ((esc env1 o).bind fun t env => Py.R.ok t env) (fun v env ω1 H1 => SPost g cl xa ω1 H1 (match gt env i with
      | some (.vl l) => match Nat.blt l.length 16777216 with
        | true => .nx (st env i (some (.vl (l ++ [v]))))
        | false => .no
      | _ => .no) D W) W := by
      cases z : esc env1 o with
      | ex _ _ => exact (esc_noex z).elim
      | no => rw [z] at p1; exact p1.elim
      | ok t e2 => rw [z] at p1; exact p1
    obtain ⟨w, env2, ω2, x2, _, r2, v2, p3⟩ := Post.esc r1 ro p2
    have p4 := Post.here r2 p3
    split at p4
    · next l hl =>
      split at p4
      · next hb =>
        obtain ⟨z1, w1, b, xs, w2, w3, w4, w5⟩ := r2.at_ i (.vl l) hl
        rw [q1] at w1
        cases w1
        cases w2
        refine ⟨a, xs, y, rfl, rfl, w4, ?_, ?_⟩
        · rw [w5.length]; exact Nat.lt_of_lt_of_le (Nat.le_of_ble_eq_true hb) (by show 16777216 ≤ 2 ^ 24; decide)
        · obtain ⟨x3, r3⟩ := r2.wr q1 w3 (l := l) (xs := xs) (w5.append (RVs.cons v2 (show RVs g ω2 H1 [] [] from rfl)))
          exact p4 σ ω2 _ x3 r3
      · exact p4.elim
    · exact p4.elim
  · exact p'.elim
theorem ok_ext (C : Stx g cx cl xa M sc k X) {i : Nat} {e : E} {x m : Str} {px apos cpos pos : Pos} {v : Expr} (h1 : varOk M.N sc i x = true) (h2 : seq m "extend" = true) (h3 : linesEq apos cpos = true) (h4 : e.chk M sc v = true) (h5 : plainE v = true) :
    OkS g cl xa X (fun env => (S.ext i e).ev cx env) (.Expr (.Call (.Attribute (.Name x px) m apos) [v] [] cpos) pos) := by
  intro ω H env σ D W r tk p
  rw [seq_ok h2]
  obtain ⟨g1, g2, g3, g4⟩ := vis_ok C.ctx.1 h1
  have hst := star_eq h5 [] X.env
  have p' : SPost g cl xa ω H ((S.ext i e).ev cx env) D W := p
  simp only [S.ev] at p'
  split at p'
  · next l0 hl0 =>
    obtain ⟨z0, q1, a, xs0, q2, q3, q4, q5⟩ := r.at_ i (.vl l0) hl0
    subst q2
    refine ss_of (ps_expr (pe_bm PySem.F.plainAttrs_list PySem.F.slot_list_extend PySem.F.type_list_extend mt_extA (pe_var g1 g2 g3 g4) (pa_cons (pe_se X v) pa_nil hst) rfl (by rw [hst]; rfl) h3 hst rfl) (by rfl)) ⟨_, q1, .inl ⟨rfl, xs0, .inl (.inl q4)⟩, ?_⟩
    refine (e_ok e C.ctx v h4).1 0 ω H env σ _ W r tk ((SPost.sr p').imp fun o env1 ω1 H1 e1 r1 p1 y ro => ?_)
    split at p1
    · next t l hr hl =>
      split at p1
      · next rr hx =>
        split at p1
        · next hb =>
          obtain ⟨z1, w1, b, xs, w2, w3, w4, w5⟩ := r1.at_ i (.vl l) hl
          rw [q1] at w1
          cases w1
          cases w2
          obtain ⟨kk, ha⟩ := ro.rd r1 hr
          have ht : (t = .vl rr ∨ t = .v (.lst rr)) ∨ t = .v (.tup rr) := by
            unfold extF at hx
            split at hx <;> first | (cases hx; exact .inl (.inl rfl)) | (cases hx; exact .inl (.inr rfl)) | (cases hx; exact .inr rfl) | cases hx
          obtain ⟨c, zs, u1, u2, u3⟩ : ∃ c zs, y = .ref c ∧ RVs g ω1 H1 rr zs ∧ (H1 c = some (.lst zs) ∨ SqT X.K H1 c zs) := by
            rcases ht with ht | rfl
            · obtain ⟨c, zs, u1, u2, u3⟩ := ha.lstOf ht
              exact ⟨c, zs, u1, u2, .inl u3⟩
            · obtain ⟨c, zs, u1, u3, u2⟩ := ha
              exact ⟨c, zs, u1, u2, .inr (by rw [C.ctx.1.K]; exact u3.sq)⟩
          subst u1
          refine ⟨a, c, xs, zs, rfl, rfl, w4, u3, by rw [w5.length, u2.length]; exact fits_ok hb, ?_⟩
          obtain ⟨x3, r3⟩ := r1.wr q1 w3 (l := l) (xs := xs) (w5.append u2)
          exact p1 σ ω1 _ x3 r3
        · exact p1.elim
      · exact p1.elim
    · exact p1.elim
  · exact p'.elim
/-- name[i] = value -/
theorem set_dK {X : Cx} (hu : X.A.units + 1 < cLine) : PSet X (fun o i v H Q => ∃ a H', o = .ref a ∧ DPut H a i v H' ∧ Q H') := by
  intro pins s σ H o i v ov iv u Q I ro ri rv h
  obtain ⟨a, H', rfl, hp, q⟩ := h
  obtain rfl : ov = Value.ref a := ro
  exact d_setItem hu I hp ri rv fun s' I' => ⟨H', I', q⟩
theorem ok_sti (C : Stx g cx cl xa M sc k X) {i : Nat} {ix e : E} {x : Str} {px tpos pos : Pos} {s v : Expr} (h1 : varOk M.N sc i x = true) (h2 : ix.chk M sc s = true) (h3 : plainE s = true) (h4 : e.chk M sc v = true) (h5 : noComp v = true) :
    OkS g cl xa X (fun env => (S.sti i ix e).ev cx env) (.Assign [.Subscript (.Name x px) s tpos] v pos) := by
  intro ω H env σ D W r tk p
  obtain ⟨g1, g2, g3, g4⟩ := vis_ok C.ctx.1 h1
  have p' : SPost g cl xa ω H ((S.sti i ix e).ev cx env) D W := p
  simp only [S.ev] at p'
  have hs : swapsWithSole [Expr.Subscript (.Name x px) s tpos] v pos.line X.env = pure false := by cases v <;> first | rfl | cases h5
  have hw : swappedStores [Expr.Subscript (.Name x px) s tpos] v X.env = pure none := by cases v <;> rfl
  have hassign : ∀ u, assign (.Subscript (.Name x px) s tpos) X.env u = (do
      let ov ← holding [u] (eval (.Name x px) X.env)
      let iv ← holding [u, ov] (eval s X.env)
      standAt tpos
      holding [u, ov, iv] (setItem ov iv u)
      release [u, ov, iv] []) := fun u => by cases s <;> first | rfl | cases h3
  have hu : X.A.units + 1 < cLine := by have := C.ctx.1.hu; omega
  refine ss_of (ps_asg (pe_se X v) (pg_sub (pe_var g1 g2 g3 g4) (pe_se X s) (pset_or set_list (set_dK hu)) hassign) hs hw) ?_
  refine (e_ok e C.ctx v h4).1 0 ω H env σ _ W r tk ((Post.bind (SPost.sr p')).imp fun o env1 ω1 H1 e1 r1 p1 y ro => ?_)
  cases z : esc env1 o with
  | ex _ _ => exact (esc_noex z).elim
  | no => rw [z] at p1; exact p1.elim
  | ok w env2 =>
    rw [z] at p1
    obtain ⟨ω2, x2, _, r2, v2⟩ := esc_ok r1 ro z
    have p2 := p1 ω2 H1 x2 r2
    dsimp only at p2
    split at p2
    · next l0 hg =>
      obtain ⟨z1, w1, _⟩ := r2.at_ i _ hg
      refine ⟨z1, w1, ?_⟩
      refine (e_ok ix C.ctx s h2).1 0 ω2 H1 env2 σ _ W r2 tk ((SPost.sr p2).imp fun oi env3 ω3 H3 e3 r3 p4 yi roi => ?_)
      split at p4
      · next l nn hl =>
        split at p4
        · next j hj =>
          obtain ⟨z2, u1, a, xs, u2, u3, u4, u5⟩ := r3.at_ i (.vl l) hl
          rw [w1] at u1
          cases u1
          subst u2
          refine .inl ⟨a, xs, nn, j, rfl, roi, u4, by rw [u5.length]; exact hj, ?_⟩
          obtain ⟨x3, r4⟩ := r3.wr w1 u3 (l := l) (xs := xs) (u5.set j (v2.kp' e3.kp))
          exact p4 σ ω3 _ x3 r4
        · exact p4.elim
      · exact p4.elim
    · next k0 v0 hg =>
      obtain ⟨z1, w1, _⟩ := r2.at_ i _ hg
      refine ⟨z1, w1, ?_⟩
      refine (e_ok ix C.ctx s h2).1 0 ω2 H1 env2 σ _ W r2 tk ((SPost.sr p2).imp fun oi env3 ω3 H3 e3 r3 p4 yi roi => ?_)
      split at p4
      · next ks vs kv hl =>
        split at p4
        · next hb =>
          obtain ⟨b1, b2⟩ := and_t hb
          obtain ⟨q, hq⟩ := keyV_of b1
          obtain ⟨z2, u1, a, kvs, u2, u3, u4, u5⟩ := r3.at_ i (.vd ks vs) hl
          rw [w1] at u1
          cases u1
          subst u2
          obtain ⟨a1, b1', e5, d5⟩ := dk_put hq (v2.kp' e3.kp) u5
          have hky : yi = kV q := key_kV (show RV g ω3 H3 kv yi from roi) hq
          have hlen := dk_len u5
          have hlt : ks.length < 1000 := Nat.le_of_ble_eq_true b2
          refine .inr ⟨a, _, rfl, by rw [hky]; exact DPut.k u4 (by rw [hlen]; show ks.length < sizeLine; have := sizeLine_eq; omega), ?_⟩
          rw [e5] at p4
          obtain ⟨x3, r4⟩ := r3.wrD w1 u3 (ks := a1) (vs := b1') (kvs := putK kvs q y) d5
          exact p4 σ ω3 _ x3 r4
        · exact p4.elim
      · exact p4.elim
    · exact p2.elim
theorem swp_subs {a b : Expr} {i1 i2 : Expr} {p1 p2 : Pos} {vs : List Expr} {sc : Scope} : swpF [.Subscript a i1 p1, .Subscript b i2 p2] vs sc = some none := by
  have hc : swC [.Subscript a i1 p1, .Subscript b i2 p2] sc = true := rfl
  unfold swpF
  rw [hc]
  cases swA [.Subscript a i1 p1, .Subscript b i2 p2] vs sc <;> cases swB vs <;> rfl
/-- name[k1], name[k2] = values -/
theorem ok_sti2 (C : Stx g cx cl xa M sc k X) {i : Nat} {k1 k2 : Val} {es : Es} {x y : Str} {px py p1 p2 pt pv pos c1p c2p : Pos} {c1 c2 : Const} {j1 j2 kt kv : Nat} {v1 v2 : Expr} (h1 : varOk M.N sc i x = true) (h2 : varOk M.N sc i y = true) (h3 : constOk k1 c1 = true) (h4 : constOk k2 c2 = true)
    (h5 : es.chk M sc [v1, v2] = true) (hc : M.calm = true) (b1 : keyB k1 = true) (b2 : keyB k2 = true) (f1 : flat k1 = true) (f2 : flat k2 = true) :
    OkS g cl xa X (fun env => (S.sti2 i k1 k2 es).ev cx env) (.Assign [.Tuple [.Subscript (.Name x px) (.Constant c1 j1 c1p) p1, .Subscript (.Name y py) (.Constant c2 j2 c2p) p2] kt pt] (.Tuple [v1, v2] kv pv) pos) := by
  intro ω H env σ D W r tk p
  have hX := C.ctx.1.calm hc
  obtain ⟨g1, g2, g3, g4⟩ := vis_ok C.ctx.1 h1
  obtain ⟨e1, e2, e3, e4⟩ := vis_ok C.ctx.1 h2
  have hu : X.A.units + 1 < cLine := by have := C.ctx.1.hu; omega
  obtain ⟨w1, a1, q1⟩ := const_pe (g := g) (X := X) (kk := j1) (pos := c1p) h3 f1
  obtain ⟨w2, a2, q2⟩ := const_pe (g := g) (X := X) (kk := j2) (pos := c2p) h4 f2
  obtain ⟨y1, z1⟩ := keyV_of b1
  obtain ⟨y2, z2⟩ := keyV_of b2
  have p' : SPost g cl xa ω H ((S.sti2 i k1 k2 es).ev cx env) D W := p
  simp only [S.ev] at p'
  have hw := swp_eq (kt := kt) (k2 := kv) (p1 := pt) (p2 := pv) C.sc (swp_subs (a := .Name x px) (b := .Name y py) (i1 := .Constant c1 j1 c1p) (i2 := .Constant c2 j2 c2p) (p1 := p1) (p2 := p2) (vs := [v1, v2]))
  refine ss_of (ps_asg (pe_tup (pa_sa X [v1, v2])) (pg_tup (n := 2) hX (pgs_cons (pg_sub (pe_var g1 g2 g3 g4) q1 (set_dK hu)) (pgs_cons (pg_sub (pe_var e1 e2 e3 e4) q2 (set_dK hu)) pgs_nil))) (by rfl) hw) ?_
  refine es_ok es C.ctx [v1, v2] h5 0 ω H env σ _ W r tk ((Post.bind (SPost.sr p')).imp fun os env1 ω1 H1 x1 r1 p2 xs ros => ?_)
  cases hz : escs os env1 with
  | ex _ _ => exact (escs_noex hz).elim
  | no => rw [hz] at p2; exact p2.elim
  | ok vs env2 =>
    rw [hz] at p2
    obtain ⟨ω2, x2, r2, v2'⟩ := escs_ok r1 ros hz
    have p3 := p2 ω2 H1 x2 r2
    dsimp only at p3
    split at p3
    · next u1 u2 ks us hg =>
      obtain ⟨b1', b2', hxs, hv1, b3', b4', hxs2, hv2, hxs3⟩ : ∃ s1 r1, xs = s1 :: r1 ∧ RV g ω2 H1 u1 s1 ∧ ∃ s2 r2, r1 = s2 :: r2 ∧ RV g ω2 H1 u2 s2 ∧ r2 = [] := by
        obtain ⟨s1, r1', e, h, s2, r2', e', h', e''⟩ := v2'
        exact ⟨s1, r1', e, h, s2, r2', e', h', e''⟩
      subst hxs hxs2 hxs3
      split at p3
      · next hb =>
        obtain ⟨_, hl⟩ := and_t hb
        have hlt : ks.length < 1000 := Nat.le_of_ble_eq_true hl
        refine ⟨by show 2 ≤ sizeLine; rw [sizeLine_eq]; decide, fun q hq => ?_⟩
        have x3 : Ext 0 ω2 H1 (lab ω2 q none) (upd H1 q (.tup [b1', b3'])) := new_ext (n := 0) (k := none) r2.trk hq (fun q => nomatch q)
        have r3 := r2.new (k := none) hq (ow_tup (xs := [b1', b3']))
        have kp3 : Kp ω2 H1 (lab ω2 q none) (upd H1 q (.tup [b1', b3'])) := new_kp hq
        refine ⟨q, [b1', b3'], rfl, .inl (.inl upd_same), rfl, b1', [b3'], rfl, ?_⟩
        obtain ⟨z, w3, a, kvs, w4, w5, w6, w7⟩ := r3.at_ i (.vd ks us) hg
        subst w4
        have hlen := dk_len w7
        obtain ⟨ka, va, e5, d5⟩ := dk_put z1 (hv1.kp' kp3) w7
        obtain ⟨x4, r4⟩ := r3.wrD (n := 0) w3 w5 (ks := ka) (vs := va) (kvs := putK kvs y1 b1') d5
        have hk1 : w1 = kV y1 := key_kV (a1 ω H) z1
        refine ⟨_, w3, a, _, rfl, by rw [hk1]; exact DPut.k w6 (by rw [hlen]; have := sizeLine_eq; omega), b3', [], rfl, ?_⟩
        have kp4 := x4.kp
        obtain ⟨kb, vb, e6, d6⟩ := dk_put z2 ((hv2.kp' kp3).kp' kp4) (DK.kp kp4 d5)
        have hlen2 := length_putK kvs y1 b1'
        have hk2 : w2 = kV y2 := key_kV (a2 ω H) z2
        obtain ⟨x5, r5⟩ := r4.wrD (n := 0) w3 w5 (ks := kb) (vs := vb) (kvs := putK (putK kvs y1 b1') y2 b3') d6
        refine ⟨_, w3, a, _, rfl, by rw [hk2]; exact DPut.k upd_same (by have := sizeLine_eq; omega), rfl, ?_⟩
        rw [e5] at p3
        dsimp only at p3
        rw [e6] at p3
        have hst : st (st env2 i (some (.vd ka va))) i (some (.vd kb vb)) = st env2 i (some (.vd kb vb)) := st_st _ _ _ _
        rw [hst] at r5
        exact p3 σ _ _ (x3.trans (x4.trans x5)) r5
      · exact p3.elim
    · exact p3.elim
/-- name op= value -/
theorem ok_aug (C : Stx g cx cl xa M sc k X) {o : Op} {i : Nat} {e : E} {x : Str} {px pos : Pos} {op : Operator} {v : Expr} (h1 : stoOk M.N sc i x = true) (h2 : opOk o op = true) (h3 : e.chk M sc v = true) (h4 : augO o = true) (hF : i ∉ xa.F) :
    OkS g cl xa X (fun env => (S.aug o i e).ev cx env) (.AugAssign (.Name x px) op v pos) := by
  intro ω H env σ D W r tk p
  obtain ⟨n1, n2, n3⟩ := name_at C h1
  have nd : X.N.Nodup := by rw [C.ctx.1.N]; exact C.ctx.1.nd
  have p' : SPost g cl xa ω H ((S.aug o i e).ev cx env) D W := p
  simp only [S.ev] at p'
  split at p'
  · next xv hx =>
    obtain ⟨z, q1, q2⟩ := r.at_ i _ hx
    have main : ∀ (tip : TIp), PIp X op tip → (∀ y ω1 H1 env1 t u, Rel g cl xa ω1 H1 env1 σ → (∃ kk, RT g cl xa ω1 H1 kk t y) → RV g ω1 H1 xv z → augF o xv t = some u → SPost g cl xa ω1 H1 (.nx (st env1 i (some (.v u)))) D W → tip z y H1 fun u H2 => D.nx (σ.set i (some u)) H2) →
        SS X (.AugAssign (.Name x px) op v pos) D σ H := fun tip ht h => by
      refine ss_of (ps_aug nd n1 n2 (pe_se X v) ht n3) ⟨z, q1, ?_⟩
      refine (e_ok e C.ctx v h3).1 0 ω H env σ _ W r tk ((SPost.sr p').imp fun oe env1 ω1 H1 e1 r1 p1 y ro => ?_)
      split at p1
      · next t ht =>
        split at p1
        · next u hu => exact h y ω1 H1 env1 t u r1 (ro.rd r1 ht) (RV.kp' e1.kp q2) hu p1
        · exact p1.elim
      · exact p1.elim
    cases o with
    | add =>
      cases op <;> first | exact (Bool.false_ne_true h2).elim | skip
      refine main _ ip_add fun y ω1 H1 env1 t u r1 ⟨kk, ht⟩ hz hu p1 => ?_
      cases xv with
      | int a => cases t with
        | v tv => cases tv with
          | int b =>
            cases hu
            exact ⟨a, b, hz, ht, p1 _ ω1 H1 Ext.refl (r1.set (t := .v (.int (a + b))) (show RV g ω1 H1 (.int (a + b)) (.int (a + b)) from rfl) hF)⟩
          | _ => cases hu
        | _ => cases hu
      | _ => cases hu
    | sub =>
      cases op <;> first | exact (Bool.false_ne_true h2).elim | skip
      refine main _ ip_sub fun y ω1 H1 env1 t u r1 ⟨kk, ht⟩ hz hu p1 => ?_
      cases xv with
      | int a => cases t with
        | v tv => cases tv with
          | int b =>
            cases hu
            exact ⟨a, b, hz, ht, p1 _ ω1 H1 Ext.refl (r1.set (t := .v (.int (a - b))) (show RV g ω1 H1 (.int (a - b)) (.int (a - b)) from rfl) hF)⟩
          | _ => cases hu
        | _ => cases hu
      | _ => cases hu
    | _ => exact (Bool.false_ne_true h4).elim
  · exact p'.elim
end
end Py
set_option maxHeartbeats 1000000
namespace Py
open PySem PySem.Spec PyProof.Rows L2
/-! ### attributes stored, appended to -/
section
variable {g : Gc} {cl : Clx} {xa : Fx} {M : Nm} {cx : EC} {sc : Scope} {k : Nat} {X : Cx} {n : Nat} {ω ω' ω2 : Om} {H H' H2 : Hp} {σ : L2.St} {env : Env} {W : WX} {D : Ends} {l : Lb}
theorem FR.fresh {b : Addr} (hb : ω b ≠ some l) : ∀ {u : List Addr} {fs : List (Nat × Fl)} {vs : List (Str × V)}, FR g ω H l u fs vs → FR g ω H l (b :: u) fs vs
  | _, [], _, h => h
  | u, (f, x) :: fs, _, ⟨nm, y, r, h1, h2, h3, h4, h5⟩ => ⟨nm, y, r, h1, h2, h3, fun c hc z => by
      rcases List.mem_cons.mp z with rfl | z
      · exact hb (h3.lb c hc)
      · exact h4 c hc z, (FR.fresh hb h5).mono fun c hc => by
      rcases List.mem_append.mp hc with hc | hc
      · exact List.mem_cons_of_mem _ (List.mem_append.mpr (.inl hc))
      · rcases List.mem_cons.mp hc with rfl | hc
        · exact List.mem_cons_self
        · exact List.mem_cons_of_mem _ (List.mem_append.mpr (.inr hc))⟩
theorem FR.setO (nd : g.fnm.Nodup) {f : Nat} {nm : Str} (hf : g.fnm[f]? = some nm) {x : Fl} {y : V} (hx : FV g ω H l x y) : ∀ {u : List Addr} {fs : List (Nat × Fl)} {vs : List (Str × V)}, (∀ b ∈ FA x y, b ∉ u) → FR g ω H l (FA x y ++ u) fs vs → FR g ω H l u (stF f x fs) (putF nm y vs)
  | u, [], _, hu, h => by
    rw [show _ = ([] : List (Str × V)) from h]
    exact ⟨nm, y, [], rfl, hf, hx, hu, rfl⟩
  | u, (f', x') :: fs, _, hu, ⟨nm', y', r, h1, h2, h3, h4, h5⟩ => by
    subst h1
    have e0 : stF f x ((f', x') :: fs) = (match Nat.beq f' f with
      | true => (f', x) :: fs
      | false => (f', x') :: stF f x fs) := rfl
    have e1 : putF nm y ((nm', y') :: r) = if nm' = nm then (nm', y) :: r else (nm', y') :: putF nm y r := rfl
    rw [e0, e1]
    cases hb : Nat.beq f' f with
    | true =>
      have := Nat.eq_of_beq_eq_true hb
      subst this
      rw [hf] at h2
      cases h2
      rw [if_pos rfl]
      exact ⟨nm, y, r, rfl, hf, hx, hu, h5.mono fun b hb => List.mem_append.mpr (.inr hb)⟩
    | false =>
      have ne : nm' ≠ nm := fun e => by
        subst e
        have := nd_inj nd hf h2
        subst this
        rw [Nat.beq_refl] at hb
        cases hb
      rw [if_neg ne]
      refine ⟨nm', y', _, rfl, h2, h3, fun b hb z => h4 b hb (List.mem_append.mpr (.inr z)), FR.setO nd hf hx (fun b hb z => ?_) (h5.mono fun b hb => ?_)⟩
      · rcases List.mem_append.mp z with z | z
        · exact h4 b z (List.mem_append.mpr (.inl hb))
        · exact hu b hb z
      · rcases List.mem_append.mp hb with hb | hb
        · exact List.mem_append.mpr (.inr (List.mem_append.mpr (.inl hb)))
        · rcases List.mem_append.mp hb with hb | hb
          · exact List.mem_append.mpr (.inl hb)
          · exact List.mem_append.mpr (.inr (List.mem_append.mpr (.inr hb)))
theorem FR.wrO {b : Addr} {o : HO} (hw : ω b = some l) : ∀ {u : List Addr} {fs : List (Nat × Fl)} {vs : List (Str × V)}, b ∈ u → FR g ω H l u fs vs → FR g ω (upd H b o) l u fs vs
  | _, [], _, _, h => h
  | u, (f', x') :: fs, _, hb, ⟨nm', y, r, h1, h2, h3, h4, h5⟩ => by
    refine ⟨nm', y, r, h1, h2, h3.kp (wr_kp hw) fun c hc => ?_, h4, FR.wrO hw (List.mem_append.mpr (.inr hb)) h5⟩
    have ne : c ≠ b := fun e => h4 c hc (by rw [e]; exact hb)
    exact ⟨h3.lb c hc, by rw [upd_ne ne]⟩
theorem FR.wrL (nd : g.fnm.Nodup) {f : Nat} {nm : Str} (hf : g.fnm[f]? = some nm) {b : Addr} (hw : ω b = some l) {xs xs' : List Val} {zs : List V} (hz : RVs g ω H xs' zs) : ∀ {u : List Addr} {fs : List (Nat × Fl)} {vs : List (Str × V)}, FR g ω H l u fs vs → lookF f fs = some (.l xs) → vs.lookup nm = some (.ref b) →
    FR g ω (upd H b (.lst zs)) l u (stF f (.l xs') fs) vs ∧ b ∉ u
  | _, [], _, _, h, _ => by cases h
  | u, (f', x') :: fs, _, ⟨nm', y, r, h1, h2, h3, h4, h5⟩, h, hl => by
    subst h1
    have h' : (match Nat.beq f' f with
      | true => some x'
      | false => lookF f fs) = some (.l xs) := h
    have e0 : stF f (.l xs') ((f', x') :: fs) = (match Nat.beq f' f with
      | true => (f', .l xs') :: fs
      | false => (f', x') :: stF f (.l xs') fs) := rfl
    rw [e0]
    have kp : Kp ω H ω (upd H b (.lst zs)) := wr_kp hw
    cases hb : Nat.beq f' f with
    | true =>
      rw [hb] at h'
      cases h'
      have := Nat.eq_of_beq_eq_true hb
      subst this
      rw [hf] at h2
      cases h2
      have hy : y = .ref b := by simpa [List.lookup] using hl
      subst hy
      refine ⟨⟨nm, .ref b, r, rfl, hf, ⟨b, zs, rfl, hw, upd_same, hz.kp' kp⟩, h4, ?_⟩, h4 b List.mem_cons_self⟩
      exact FR.wrO hw (List.mem_append.mpr (.inl List.mem_cons_self)) h5
    | false =>
      rw [hb] at h'
      have ne : nm ≠ nm' := fun e => by
        subst e
        have := nd_inj nd hf h2
        subst this
        rw [Nat.beq_refl] at hb
        cases hb
      have e2 : (nm == nm') = false := by simpa using ne
      have hl' : r.lookup nm = some (.ref b) := by simpa only [List.lookup, e2] using hl
      obtain ⟨q1, q2⟩ := FR.wrL nd hf hw hz h5 h' hl'
      refine ⟨⟨nm', y, r, rfl, h2, h3.kp kp fun c hc => ?_, h4, q1⟩, fun z => q2 (List.mem_append.mpr (.inr z))⟩
      have ne2 : c ≠ b := fun e => q2 (List.mem_append.mpr (.inl (by rw [← e]; exact hc)))
      exact ⟨h3.lb c hc, by rw [upd_ne ne2]⟩
/-- a slot's object changes -/
theorem Rel.obj (r : Rel g cl xa ω H env σ) {i c : Nat} {fs : List (Nat × Fl)} {a b : Addr} {dx : Addr} {vs : List (Str × V)} {o : HO} (q1 : σ[i]? = some (some (.ref a))) (hb : ω b = some (.slot i)) (ho : Ow o) (wa : ω a = some (.slot i)) (ha : upd H b o a = some (.ins (g.cls c) dx vs)) (hc : c < g.ncl) (fr : FR g ω (upd H b o) (.slot i) [] fs vs) :
    Rel g cl xa ω (upd H b o) (st env i (some (.ob c fs))) σ := by
  have kp : Kp ω H ω (upd H b o) := wr_kp hb
  refine ⟨by rw [st_length, r.len], fun j u hj => ?_, r.fix, wr_trk r.trk hb ho⟩
  rw [gt_st] at hj
  by_cases zz : j = i ∧ i < env.length
  · rw [if_pos zz] at hj; cases hj
    rw [zz.1]
    exact ⟨.ref a, fun _ => q1, a, dx, vs, rfl, wa, ha, hc, fr⟩
  · rw [if_neg zz] at hj
    obtain ⟨y, u1, u2⟩ := r.at0 j u hj
    have hlt := gt_lt hj
    have ne : i ≠ j := fun q => zz ⟨q.symm, by rw [q]; exact hlt⟩
    exact ⟨y, u1, u2.keep kp (wr_kk hb (slot_ne (Ne.symm ne)))⟩
theorem swl_att {e o : Expr} {f : Str} {p' : Pos} {line : Nat} {envX : PySem.Env} (h : noComp e = true) : swapsWith e (some (.Attribute o f p')) line envX = pure false := by
  cases e <;> first | rfl | cases h
theorem ok_sta (C : Stx g cx cl xa M sc k X) {i f : Nat} {e : E} {x nm : Str} {px ap pos : Pos} {v : Expr} (h1 : varOk M.N sc i x = true) (h2 : strAt M.fnm f nm = true) (h4 : e.chk M sc v = true) (h5 : noComp v = true) :
    OkS g cl xa X (fun env => (S.sta i f e).ev cx env) (.Assign [.Attribute (.Name x px) nm ap] v pos) := by
  intro ω H env σ D W r tk p
  obtain ⟨g1, g2, g3, g4⟩ := vis_ok C.ctx.1 h1
  have hf := strAt_ok h2
  obtain ⟨m1, nd⟩ := C.ctx.1.fnm
  rw [m1] at hf
  have p' : SPost g cl xa ω H ((S.sta i f e).ev cx env) D W := p
  simp only [S.ev] at p'
  refine ss_of (ps_fld (pe_var g1 g2 g3 g4) (pe_se X v) (swl_att h5)) ?_
  refine (e_ok e C.ctx v h4).1 0 ω H env σ _ W r tk ((Post.bind (SPost.sr p')).imp fun o env1 ω1 H1 e1 r1 p1 y ro => ?_)
  cases hz : Py.own env1 o with
  | ex _ _ => exact (own_noex hz).elim
  | no => rw [hz] at p1; exact p1.elim
  | ok t env2 =>
    rw [hz] at p1
    obtain ⟨ω2, x2, _, r2, t2⟩ := own_ok r1 ro hz
    have p4 := p1 ω2 H1 x2 r2
    dsimp only at p4
    split at p4
    · next c fs x hg hx =>
      split at p4
      · next hb =>
        obtain ⟨z, q1, a, dx, vs, q2, wa, ha, hc, fr⟩ := r2.at_ i (.ob c fs) hg
        subst q2
        obtain ⟨c1, c2⟩ := C.ctx.1.cls c hc
        have hlen : vs.length < 1000 := by
          rw [fr.len]
          exact Nat.lt_of_lt_of_le (Nat.le_of_ble_eq_true hb) (by decide)
        refine ⟨_, q1, a, g.cls c, dx, vs, rfl, ha, c1, c2 f nm hf, hlen, ?_⟩
        cases t with
        | v w =>
          have hx' : some (Fl.v w) = some x := hx
          cases hx'
          have kp : Kp ω2 H1 ω2 (upd H1 a (.ins (g.cls c) dx (putF nm y vs))) := wr_kp wa
          have fr2 : FR g ω2 (upd H1 a (.ins (g.cls c) dx (putF nm y vs))) (.slot i) [] fs vs := fr.kp kp fun b ys hb hl => ⟨hb, by rw [upd_ne (fun e => by rw [e, ha] at hl; cases hl)]⟩
          exact p4 σ ω2 _ (wr_ext wa (fun q => nomatch q) (fun m hm q => nomatch q)) (r2.obj q1 wa ow_ins wa upd_same hc (FR.setO nd hf (show FV g ω2 _ (.slot i) (.v w) y from RV.kp' kp t2) (fun b hb => nomatch hb) fr2))
        | vl xs =>
          have hx' : some (Fl.l xs) = some x := hx
          cases hx'
          obtain ⟨b, ys, e0, wb, hbl, rv⟩ := t2
          subst e0
          have nab : a ≠ b := fun e => by rw [e, wb] at wa; cases wa
          have kb : Kp ω2 H1 (lab ω2 b (some (.slot i))) H1 := lab_kp wb
          have rb : Rel g cl xa (lab ω2 b (some (.slot i))) H1 env2 σ := r2.keep kb (fun j => lab_kk wb (fun q => nomatch q)) (lab_trk r2.trk wb)
          have wa' : lab ω2 b (some (.slot i)) a = some (.slot i) := by rw [lab_ne nab]; exact wa
          have fb : FR g (lab ω2 b (some (.slot i))) H1 (.slot i) [b] fs vs := (fr.fresh (b := b) (by rw [wb]; exact fun q => nomatch q)).kp kb fun c' ys' hc' hl' => ⟨by rw [lab_ne (fun e => by rw [e, wb] at hc'; cases hc')]; exact hc', rfl⟩
          have wb' : lab ω2 b (some (.slot i)) b = some (.slot i) := lab_same
          have xb : Ext 0 ω2 H1 (lab ω2 b (some (.slot i))) H1 := lab_ext wb (fun q => nomatch q) (fun m hm => absurd hm (Nat.not_lt_zero m)) (fun q => nomatch q)
          have rv' := rv.kp' kb
          generalize lab ω2 b (some (.slot i)) = ω3 at kb rb wa' fb wb' xb rv'
          have kp : Kp ω3 H1 ω3 (upd H1 a (.ins (g.cls c) dx (putF nm (.ref b) vs))) := wr_kp wa'
          have fr2 : FR g ω3 (upd H1 a (.ins (g.cls c) dx (putF nm (.ref b) vs))) (.slot i) [b] fs vs := fb.kp kp fun b' ys' hb' hl' => ⟨hb', by rw [upd_ne (fun e => by rw [e, ha] at hl'; cases hl')]⟩
          have fv : FV g ω3 (upd H1 a (.ins (g.cls c) dx (putF nm (.ref b) vs))) (.slot i) (.l xs) (.ref b) := ⟨b, ys, rfl, wb', by rw [upd_ne (Ne.symm nab)]; exact hbl, rv'.kp' kp⟩
          exact p4 σ ω3 _ (xb.trans (wr_ext wa' (fun q => nomatch q) (fun m hm q => nomatch q))) (rb.obj q1 wa' ow_ins wa' upd_same hc (FR.setO nd hf fv (fun c hc z => nomatch z) fr2))
        | _ => cases hx
      · exact p4.elim
    · exact p4.elim
/-! ### a slot is hid while an expression runs -/
/-- what was the slot's is so again -/
def rst (ω ω2 : Om) (i : Nat) : Om := fun b => if ω b = some (.slot i) then some (.slot i) else ω2 b
theorem rst_same {i : Nat} {b : Addr} (h : ω b = some (.slot i)) : rst ω ω2 i b = some (.slot i) := if_pos h
theorem rst_ne {i : Nat} {b : Addr} (h : ω b ≠ some (.slot i)) : rst ω ω2 i b = ω2 b := if_neg h
theorem rst_rest {i : Nat} (e : Ext 0 (mvL ω (.slot i) .rest) H ω2 H2) {b : Addr} (h : ω b = some (.slot i)) : ω2 b = some .rest ∧ H2 b = H b := e.rest b (mv_same h)
theorem rst_ext {i : Nat} (e : Ext 0 (mvL ω (.slot i) .rest) H ω2 H2) : Ext 0 ω H (rst ω ω2 i) H2 where
  kp := fun b u h1 h2 h3 => by
    have ne : ω b ≠ some (.slot i) := by rw [h2]; exact fun q => nomatch q
    obtain ⟨q1, q2⟩ := e.kp b u h1 (by rw [mv_ne ne]; exact h2) h3
    exact ⟨q1, by rw [rst_ne ne]; exact q2⟩
  rest := fun b h => by
    have ne : ω b ≠ some (.slot i) := by rw [h]; exact fun q => nomatch q
    obtain ⟨q1, q2⟩ := e.rest b (by rw [mv_ne ne]; exact h)
    exact ⟨by rw [rst_ne ne]; exact q1, q2⟩
  tmp := fun m hm => absurd hm (Nat.not_lt_zero m)
  back := fun b h => by
    by_cases q : ω b = some (.slot i)
    · rw [rst_same q] at h; cases h
    · rw [rst_ne q] at h
      have := e.back b h
      rw [mv_ne q] at this
      exact this
theorem rst_kp {i : Nat} (e : Ext 0 (mvL ω (.slot i) .rest) H ω2 H2) : Kp ω2 H2 (rst ω ω2 i) H2 := fun b u h1 h2 _ => by
  refine ⟨h1, ?_⟩
  rw [rst_ne fun q => ?_]
  · exact h2
  · rw [(rst_rest e q).1] at h2; cases h2
theorem rst_kk {i : Nat} (e : Ext 0 (mvL ω (.slot i) .rest) H ω2 H2) {l : Lb} (hl : l ≠ .rest) : Kk l ω2 H2 (rst ω ω2 i) H2 := fun b h1 => by
  refine ⟨?_, rfl⟩
  rw [rst_ne fun q => ?_]
  · exact h1
  · rw [(rst_rest e q).1] at h1; cases h1; exact hl rfl
theorem rst_trk {i : Nat} (e : Ext 0 (mvL ω (.slot i) .rest) H ω2 H2) (t : Trk g ω2 H2) : Trk g (rst ω ω2 i) H2 := t.step (fun b hb => by
  by_cases q : ω b = some (.slot i)
  · exact t.any b (by rw [(rst_rest e q).1]; exact fun q => nomatch q)
  · rw [rst_ne q] at hb; exact t.any b hb) (rst_kp e) (rst_kk e (fun q => nomatch q))
theorem rst_rel {i : Nat} (e : Ext 0 (mvL ω (.slot i) .rest) H ω2 H2) (r : Rel g cl xa ω2 H2 env σ) : Rel g cl xa (rst ω ω2 i) H2 env σ := r.keep (rst_kp e) (fun j => rst_kk e (fun q => nomatch q)) (rst_trk e r.trk)
theorem hid_rel {i : Nat} (r : Rel g cl xa ω H env σ) : Rel g cl xa (mvL ω (.slot i) .rest) H (st env i none) σ where
  len := by rw [st_length, r.len]
  fix := r.fix
  at0 := fun j t h => by
    rw [gt_st] at h
    by_cases zz : j = i ∧ i < env.length
    · rw [if_pos zz] at h; cases h
    · rw [if_neg zz] at h
      have ne : j ≠ i := fun q => zz ⟨q, by rw [← q]; exact gt_lt h⟩
      obtain ⟨y, u1, u2⟩ := r.at0 j t h
      exact ⟨y, u1, u2.keep mv_kp (mv_kk (slot_ne ne))⟩
  trk := mv_trk r.trk (fun q => nomatch q)
theorem ok_apa (C : Stx g cx cl xa M sc k X) {i f : Nat} {e : E} {x nm m : Str} {px ap apos cpos pos : Pos} {v : Expr} (h1 : varOk M.N sc i x = true) (h2 : strAt M.fnm f nm = true) (h3 : seq m "append" = true) (h6 : linesEq apos cpos = true) (h4 : e.chk M sc v = true) (h5 : plainE v = true) :
    OkS g cl xa X (fun env => (S.apa i f e).ev cx env) (.Expr (.Call (.Attribute (.Attribute (.Name x px) nm ap) m apos) [v] [] cpos) pos) := by
  intro ω H env σ D W r tk p
  rw [seq_ok h3]
  obtain ⟨g1, g2, g3, g4⟩ := vis_ok C.ctx.1 h1
  have hf := strAt_ok h2
  obtain ⟨m1, nd⟩ := C.ctx.1.fnm
  rw [m1] at hf
  have hst := star_eq h5 [] X.env
  have p' : SPost g cl xa ω H ((S.apa i f e).ev cx env) D W := p
  simp only [S.ev] at p'
  split at p'
  · next c fs hg =>
    split at p'
    · next l0 hl0 =>
      obtain ⟨z, q1, a, dx, vs, q2, wa, ha, hc, fr⟩ := r.at_ i (.ob c fs) hg
      subst q2
      obtain ⟨c1, c2⟩ := C.ctx.1.cls c hc
      obtain ⟨y0, w1, ⟨b, ys, w2, wb, hbl, rv⟩, _⟩ := fr.look nd hf hl0
      subst w2
      refine ss_of (ps_expr (pe_bm PySem.F.plainAttrs_list PySem.F.slot_list_append PySem.F.type_list_append mt_append (pe_fld (pe_var g1 g2 g3 g4) rfl) (pa_cons (pe_se X v) pa_nil hst) rfl (by rw [hst]; rfl) h6 hst rfl) (by rfl)) ⟨_, q1, a, g.cls c, dx, vs, _, rfl, ha, c1, c2 f nm hf, w1, .inl ⟨rfl, ys, .inl (.inl hbl)⟩, ?_⟩
      have rh : Rel g cl xa (mvL ω (.slot i) .rest) H (st env i none) σ := hid_rel r
      refine (e_ok e C.ctx v h4).1 0 _ H (st env i none) σ _ W rh tk ?_
      show Post g cl xa 0 (mvL ω (.slot i) .rest) H σ (e.ev cx (st env i none)) _ W
      cases he : e.ev cx (st env i none) with
      | no => rw [he] at p'; exact p'.elim
      | ex ee env1 =>
        rw [he] at p'
        intro cls d ω1 H1 σ1 e1 r1 rx
        exact p' cls d (rst ω ω1 i) H1 σ1 (rst_ext e1) (rst_rel e1 r1) (rx.kp (rst_kp e1))
      | ok o env1 =>
        rw [he] at p'
        intro ω1 H1 e1 r1 y ro
        cases hz : esc env1 o with
        | ex _ _ => exact (esc_noex hz).elim
        | no => have p2 : SPost g cl xa ω H ((esc env1 o).sr _) D W := p'; rw [hz] at p2; exact p2.elim
        | ok w env2 =>
          have p2 : SPost g cl xa ω H ((esc env1 o).sr fun v env => match Nat.blt l0.length 16777216 with
            | true => .nx (st env i (some (.ob c (stF f (.l (l0 ++ [v])) fs))))
            | false => .no) D W := p'
          rw [hz] at p2
          have p3 : SPost g cl xa ω H (match Nat.blt l0.length 16777216 with
            | true => .nx (st env2 i (some (.ob c (stF f (.l (l0 ++ [w])) fs))))
            | false => .no) D W := p2
          split at p3
          · next hb =>
            obtain ⟨ω2, x2, _, r2, v2⟩ := esc_ok r1 ro hz
            have e2 := e1.trans x2
            have r3 := rst_rel e2 r2
            have kall : Kp ω H (rst ω ω2 i) H1 := (rst_ext e2).kp
            have sl : ∀ b, ω b = some (.slot i) → rst ω ω2 i b = some (.slot i) ∧ H1 b = H b := fun b hb => ⟨rst_same hb, (rst_rest e2 hb).2⟩
            have fr3 := fr.kp kall fun b' _ hb' _ => sl b' hb'
            have rv3 := rv.kp' kall
            have v3 := RV.kp' (rst_kp e2) v2
            obtain ⟨wb3, hb3⟩ := sl b wb
            obtain ⟨wa3, ha3⟩ := sl a wa
            have nab : a ≠ b := fun e => by rw [e, hbl] at ha; cases ha
            have xr := rst_ext e2
            generalize rst ω ω2 i = ω3 at r3 kall sl fr3 rv3 v3 wb3 wa3 xr
            refine ⟨b, ys, y, rfl, rfl, hb3.trans hbl, ?_, ?_⟩
            · rw [rv.length]; exact Nat.lt_of_lt_of_le (Nat.le_of_ble_eq_true hb) (by show 16777216 ≤ 2 ^ 24; decide)
            · have hz' : RVs g ω3 H1 (l0 ++ [w]) (ys ++ [y]) := rv3.append (RVs.cons v3 (show RVs g ω3 H1 [] [] from rfl))
              have fr4 := (FR.wrL nd hf wb3 hz' fr3 hl0 w1).1
              exact p3 σ ω3 _ (xr.trans (wr_ext wb3 (fun q => nomatch q) (fun m hm q => nomatch q))) (r3.obj q1 wb3 ow_lst wa3 (by rw [upd_ne nab]; exact ha3.trans ha) hc fr4)
          · exact p3.elim
    · exact p'.elim
  · exact p'.elim
end
end Py
set_option maxHeartbeats 1000000
namespace Py
open PySem PySem.Spec PyProof.Rows L2
section
variable {g : Gc} {cl : Clx} {xa : Fx} {M : Nm} {cx : EC} {sc : Scope} {k : Nat} {X : Cx} {n : Nat} {ω ω' : Om} {H H' : Hp} {σ : L2.St} {env : Env} {W : WX} {D : Ends}
/-- __init__(self, f): self.f = f -/
def spI (C : Addr) (f : Str) : Sp := fun vs H Q _ => ∃ a y, vs = [.ref a, y] ∧ H a = some (exo a C none) ∧ ∀ dx, H dx = none → dx ≠ a → Q .non (upd (upd H dx (exd dx [(f, y)])) a (exo a C (some dx)))
/-- what is known of the error classes -/
structure Exn (g : Gc) (M : Nm) (cx : EC) (X : Cx) : Prop where
  ini : ∀ (c : Nat) (x : Str), M.exs[c]? = some x → M.raia.contains c = true → g.ok c = true ∧ X.mg x = some (.ref (g.cad c)) ∧ OexC X.K (g.cad c) ∧ ∃ (fI : Addr) (fd : FuncData) (ps : List Str), PySem.W.findIn X.K (.ref (g.cad c)) "__init__" = some (some (.ref fI)) ∧
    PySem.W.typeIn X.K (.ref fI) = some (.type "function") ∧ FnOk X.prog X.w X.K X.mg X.base (L2.CX X.prog X.w) 1 fI fd ps (spI (g.cad c) (g.fld c)) ∧ Binds X.K fd ps []
  hdl : ∀ (c : Nat) (x : Str), M.exs[c]? = some x → M.rais.contains c = true → X.mg x = some (.ref (g.cad c))
  rai : ∀ (c : Nat) (x : Str), M.exs[c]? = some x → M.raz.contains c = true → g.ok c = true ∧ X.mg x = some (.ref (g.cad c)) ∧ PySem.W.keepIn X.K (.ref (g.cad c)) = true ∧ PySem.W.subIn X.K (.ref (g.cad c)) (.type "BaseException") = some true ∧ PySem.W.typeIn X.K (.ref (g.cad c)) = some (.type "type") ∧
    ∃ B newId initId bmB, ExcBaseFacts B newId initId bmB ∧ PySem.W.excIn X.K (g.cad c) bmB newId = true
  exm : ∀ c' c, g.ok c' = true → M.rais.contains c = true → PySem.W.exmOne X.K (.ref (g.cad c')) (.ref (g.cad c)) = some (cx.sub c' c)
  isx : ∀ c', g.ok c' = true → ExcC X.K (g.cad c') ∧ ∀ (d : Nat) (x : Str), M.exs[d]? = some x → ∃ v cv, (X.mg x = some cv ∨ (X.mg x = none ∧ bootBuiltins x = some cv ∧ x ≠ "__name__")) ∧ RelV v cv ∧ (∀ u, RelV v u → u = cv) ∧ PySem.W.kitOne X.K (.ref (g.cad c')) cv = some (cx.sub c' d)
/-- X() -/
theorem pmk_own0 {X : Cx} {C : Addr} {bmB : List Value} {B newId initId : String} {x : Str} {p pos : Pos} (F : ExcBaseFacts B newId initId bmB) (q : PySem.W.excIn X.K C bmB newId = true) (gC : X.mg x = some (.ref C)) (kC : PySem.W.keepIn X.K (.ref C) = true) (r : Raises X (.ref C)) (hg : Gl X x)
    (hdb : (x == ("__debug__" : Str)) = false) : PMk X (.Call (.Name x p) [] [] pos) (fun _ H Q => Q (.ref C) none H) := by
  intro pins s σ H Q I h
  refine wpAny_Call_Name_kw (ld_glob I hg gC ?_ hdb)
  refine PySem.W.callWith_K0 I.kIn kC ?_
  obtain ⟨bm, N, nm, qn, bs, hdct, sn, sub, ab, col, dd, k0, k1, k2, k3, k5, mN, hC, hN, hni, T⟩ := exc_obj I.kIn q
  refine wpAny_call_exc_subT F T hC hN hni (fun h' e hm => ?_) (Nat.zero_le _)
  exact mk_of I hm r h (I.hok.gone hm.new)
theorem ok_rai (C : Stx g cx cl xa M sc k X) (O : Exn g M cx X) {c : Nat} {x : Str} {px cpos pos : Pos} (h1 : exAt M c x = true) (h2 : glB sc x = true) (h3 : plainNm x = true) (h4 : M.calm = true) (h5 : M.raz.contains c = true) :
    OkS g cl xa X (fun env => (S.rai c .nil).ev cx env) (.Raise (some (.Call (.Name x px) [] [] cpos)) none pos) := by
  intro ω H env σ D W r tk p
  obtain ⟨h3, _⟩ := and_t h3
  unfold exAt at h1
  split at h1
  · next y hy =>
    have := seq_ok h1
    subst this
    obtain ⟨q1, q2, q3, q4, q5, B, ni, ii, bmB, q6, q7⟩ := O.rai c y hy h5
    refine ss_of (ps_raise (C.ctx.1.calm h4) tk (pmk_own0 q6 q7 q2 q3 (raises_own q4 q5) (gl_ok C.ctx.1 h2) (by simpa using h3))) ?_
    have p' : SPost g cl xa ω H ((S.rai c .nil).ev cx env) D W := p
    simp only [S.ev, Es.ev] at p'
    exact p' (.ref (g.cad c)) none ω H σ Ext.refl r ⟨rfl, q1, rfl⟩
  · cases h1
theorem ow_xd {fs : List (Str × V)} : Ow (.xd fs) := And.intro (fun _ z => nomatch z) (fun _ z => nomatch z)
theorem ok_raa (C : Stx g cx cl xa M sc k X) (O : Exn g M cx X) {c : Nat} {e : E} {x : Str} {a : Expr} {px cpos pos : Pos} (h1 : exAt M c x = true) (h2 : glB sc x = true) (h3 : plainNm x = true) (h4 : M.calm = true) (h5 : M.raia.contains c = true) (h6 : (Es.cons e .nil).chk M sc [a] = true) :
    OkS g cl xa X (fun env => (S.rai c (.cons e .nil)).ev cx env) (.Raise (some (.Call (.Name x px) [a] [] cpos)) none pos) := by
  intro ω H env σ D W r tk p
  obtain ⟨h3, _⟩ := and_t h3
  unfold exAt at h1
  split at h1
  · next y hy =>
    have := seq_ok h1
    subst this
    obtain ⟨q1, q2, q3, fI, fd, ps, q4, q5, q6, q7⟩ := O.ini c y hy h5
    have h7 : plainE a = true := (and_t (and_t (show ((e.chk M sc a && plainE a) && Es.nil.chk M sc []) = true from h6)).1).2
    have hpl : (backTo cpos (starEach ([] : List Expr) X.env)).any (·.1) = false := rfl
    refine ss_of (ps_raise (C.ctx.1.calm h4) tk (pmk_oex (dvs := []) (ds := []) q3 q4 q5 q6 (C.rm h4) q7 .nil (fun _ _ _ _ _ _ _ z => (by obtain ⟨_, _, _, _, _, _, _, _, _, _, _, _, z⟩ := z; exact z.elim)) (gl_ok C.ctx.1 h2) q2 (pa_sa X [a]) (by simpa using h3) (star_eq h7 [] X.env) hpl)) ?_
    have p' : SPost g cl xa ω H ((S.rai c (.cons e .nil)).ev cx env) D W := p
    simp only [S.ev] at p'
    have hl : ∀ os env1, (Es.cons e .nil).ev cx env = .ok os env1 → ∃ o, os = [o] := fun os env1 h => by
      simp only [Es.ev] at h
      cases hq : e.ev cx env with
      | ok o env2 => rw [hq] at h; cases h; exact ⟨o, rfl⟩
      | ex _ _ => rw [hq] at h; cases h
      | no => rw [hq] at h; cases h
    have p2 : Post g cl xa 0 ω H σ ((Es.cons e .nil).ev cx env) (fun os env1 ω1 H1 => (∃ o, os = [o]) ∧ Post g cl xa 0 ω1 H1 σ (escs os env1) (fun vs e2 ω2 H2 => SPost g cl xa ω2 H2 (.ex ⟨c, vs⟩ e2) D W) W) W := by
      have z := Post.bind (SPost.sr (σ := σ) p')
      revert z
      cases hq : (Es.cons e .nil).ev cx env with
      | ok os env1 => exact fun z ω1 H1 e1 r1 => ⟨hl _ _ hq, z ω1 H1 e1 r1⟩
      | ex _ _ => exact fun z => z
      | no => exact fun z => z
    refine es_ok (.cons e .nil) C.ctx [a] h6 0 ω H env σ _ W r tk (p2.imp fun os env1 ω1 H1 e1 r1 p1 xs ro => ?_)
    obtain ⟨⟨o, rfl⟩, p1⟩ := p1
    cases hz : escs [o] env1 with
    | ex _ _ => exact (escs_noex hz).elim
    | no => rw [hz] at p1; exact p1.elim
    | ok vs env2 =>
      rw [hz] at p1
      obtain ⟨ω2, x2, r2, v2⟩ := escs_ok r1 ro hz
      have p3 := p1 ω2 H1 x2 r2
      obtain ⟨u, ur, rfl, _, hur⟩ := ro
      rw [show ur = [] from hur] at v2 ⊢
      cases vs with
      | nil => cases v2
      | cons v vr =>
        obtain ⟨_, _, e5, hv, hvr⟩ := v2
        cases e5
        cases vr with
        | cons _ _ => obtain ⟨_, _, z, _⟩ := hvr; cases z
        | nil =>
          refine ⟨by simp, fun a0 ha0 => ?_⟩
          refine ⟨a0, u, rfl, upd_same, fun dx hdx hne => ?_⟩
          have hdx1 : H1 dx = none := by rwa [upd_ne hne] at hdx
          refine ⟨rfl, dx, [(g.fld c, u)], upd_same, by rw [upd_ne hne, upd_same], hdx1, ?_⟩
          have eH : upd (del (upd (upd (upd H1 a0 (exo a0 (g.cad c) none)) dx (exd dx [(g.fld c, u)])) a0 (exo a0 (g.cad c) (some dx))) a0) dx (.xd [(g.fld c, u)]) = upd H1 dx (.xd [(g.fld c, u)]) := by
            funext b
            by_cases hb : b = dx
            · subst hb; rw [upd_same, upd_same]
            · rw [upd_ne hb, upd_ne hb]
              by_cases hb2 : b = a0
              · subst hb2; rw [del_same, ha0]
              · rw [del_ne hb2, upd_ne hb2, upd_ne hb, upd_ne hb2]
          rw [eH]
          exact p3 (.ref (g.cad c)) (some dx) (lab ω2 dx none) _ σ (new_ext r2.trk hdx1 (fun q => nomatch q)) (r2.new hdx1 ow_xd) ⟨rfl, q1, lab_same, v, u, rfl, upd_same, hv.kp' (new_kp hdx1)⟩
  · cases h1
theorem ok_ifs (C : Stx g cx cl xa M sc k X) {c : E} {a b : Ss} {t : Expr} {x y : List Stmt} {pos : Pos} (h : c.chk M sc t = true) (ia : OkSs g cl xa X (fun env => a.ev cx env) x) (ib : OkSs g cl xa X (fun env => b.ev cx env) y) :
    OkS g cl xa X (fun env => (S.ifs c a b).ev cx env) (.If t x y pos) := by
  intro ω H env σ D W r tk p
  have p' : SPost g cl xa ω H ((S.ifs c a b).ev cx env) D W := p
  simp only [S.ev] at p'
  refine ss_of (ps_if (pt_st X t) (pss_sss X x) (pss_sss X y)) ((e_ok c C.ctx t h).2 0 ω H env σ _ W r tk ((SPost.sr p').imp fun b1 env1 ω1 H1 e1 r1 p1 => ?_))
  cases b1 with
  | true => rw [if_pos rfl]; exact ia ω1 H1 env1 σ D W r1 tk p1
  | false => rw [if_neg (fun q => nomatch q)]; exact ib ω1 H1 env1 σ D W r1 tk p1
/-- a loop's body, then the loop again -/
theorem SPost.loop {r : SR} {f : Env → SR} {N : L2.St → Hp → Prop} (p : SPost g cl xa ω H (match r with
      | .nx env => f env
      | .ct env => f env
      | .bk env => .nx env
      | r => r) D W) (hN : ∀ e σ' ω' H', Ext 0 ω H ω' H' → Rel g cl xa ω' H' e σ' → SPost g cl xa ω' H' (f e) D W → N σ' H') : SPost g cl xa ω H r { D with nx := N, ct := N, bk := D.nx } W := by
  cases r with
  | nx e => exact fun σ1 ω1 H1 e1 r1 => hN e σ1 ω1 H1 e1 r1 (SPost.trans p e1)
  | bk e => exact p
  | ct e => exact fun σ1 ω1 H1 e1 r1 => hN e σ1 ω1 H1 e1 r1 (SPost.trans p e1)
  | rt _ _ => exact p
  | ex _ _ => exact p
  | no => exact p
theorem ok_whl (C : Stx g cx cl xa M sc k X) {c : E} {b : Ss} {t : Expr} {x : List Stmt} {pos : Pos} (hc : M.calm = true) (h : c.chk M sc t = true) (ib : OkSs g cl xa X (fun env => b.ev cx env) x) :
    OkS g cl xa X (fun env => (S.whl c b).ev cx env) (.While t x [] pos) := by
  intro ω H env σ D W r tk p
  have p' : SPost g cl xa ω H ((S.whl c b).ev cx env) D W := p
  simp only [S.ev] at p'
  refine ss_of (ps_while (C.po hc) (pt_st X t) (pss_sss X x)) ?_
  refine ⟨fun m σ1 H1 => ∃ (env1 : Env) (ω1 : Om), Rel g cl xa ω1 H1 env1 σ1 ∧ SPost g cl xa ω1 H1 (whlL (fun env => truthR (c.ev cx env)) (fun env => b.ev cx env) m env1) D W, ⟨cx.wl, env, ω, r, p'⟩, ?_⟩
  rintro m σ1 H1 ⟨env1, ω1, r1, p1⟩
  cases m with
  | zero => exact p1.elim
  | succ m =>
    have p2 : SPost g cl xa ω1 H1 ((truthR (c.ev cx env1)).sr fun t env => match t with
      | false => .nx env
      | true => match b.ev cx env with
        | .nx env => whlL (fun env => truthR (c.ev cx env)) (fun env => b.ev cx env) m env
        | .ct env => whlL (fun env => truthR (c.ev cx env)) (fun env => b.ev cx env) m env
        | .bk env => .nx env
        | r => r) D W := p1
    refine (e_ok c C.ctx t h).2 0 ω1 H1 env1 σ1 _ W r1 tk ((SPost.sr p2).imp fun b1 env2 ω2 H2 e2 r2 p3 => ?_)
    cases b1 with
    | false => rw [if_neg (fun q => nomatch q)]; exact p3 σ1 ω2 H2 Ext.refl r2
    | true =>
      rw [if_pos rfl]
      exact ⟨_, fun σ' H' w => ⟨m, Nat.lt_succ_self m, w⟩, ib ω2 H2 env2 σ1 _ W r2 tk (SPost.loop p3 fun e σ' ω' H' _ r' q => ⟨e, ω', r', q⟩)⟩
theorem ok_for (C : Stx g cx cl xa M sc k X) {tg : Tg} {it : Py.It} {b : Ss} {t i : Expr} {x : List Stmt} {pos : Pos} (hc : M.calm = true) (hi : plainE i = true) (h1 : it.chk M sc t i = true) (h2 : tg.chk M.N sc t = true) (hF : ∀ j ∈ tg.asg, j ∉ xa.F) (ib : OkSs g cl xa X (fun env => b.ev cx env) x) :
    OkS g cl xa X (fun env => (S.for_ tg it b).ev cx env) (.For t i x [] pos) := by
  intro ω H env σ D W r tk p
  have hX := C.ctx.1.calm hc
  have p' : SPost g cl xa ω H ((S.for_ tg it b).ev cx env) D W := p
  simp only [S.ev] at p'
  have hfold : ∀ x, foldedSetIterable i X.env x = pure x := fun x => by cases i <;> first | rfl | cases hi
  refine ss_of (ps_for (C.po hc) hX (pi_si X t i) (tg_ok C.ctx.1 hX h2) (pss_sss X x) hfold) ?_
  refine it_ok it C.ctx t i h1 0 ω H env σ _ W r tk ((SPost.sr p').imp fun l env1 ω1 H1 e1 r1 p1 J wk => ?_)
  refine ⟨fun j m σ2 H2 => m = l.length - j ∧ j ≤ l.length ∧ ∃ (env2 : Env) (ω2 : Om), Rel g cl xa ω2 H2 env2 σ2 ∧ Ext 0 ω1 H1 ω2 H2 ∧ SPost g cl xa ω2 H2 (forL tg (fun env => b.ev cx env) (l.drop j) env2) D W, ⟨l.length, by simp, Nat.zero_le _, env1, ω1, r1, Ext.refl, p1⟩, ?_⟩
  rintro j m σ2 H2 ⟨rfl, hj, env2, ω2, r2, x2, p2⟩
  by_cases hlt : j < l.length
  · refine .inr ⟨wk.go ω2 H2 j x2.kp hlt, _, fun σ3 H3 w => ⟨l.length - (j + 1), by omega, w⟩, fun y H3 yy => ?_⟩
    obtain ⟨v, hv1, hy⟩ := wk.yld ω2 H2 j y H3 x2.kp hlt yy
    have st : ∃ ω3, Rel g cl xa ω3 H3 env2 σ2 ∧ Ext 0 ω2 H2 ω3 H3 ∧ RV g ω3 H3 v y := by
      rcases hy with ⟨rfl, hy⟩ | ⟨pp, q, zs, w1, rfl, rfl, rfl, w2⟩
      · exact ⟨ω2, r2, Ext.refl, hy⟩
      · exact ⟨lab ω2 pp none, r2.new w1 ow_tup, new_ext r2.trk w1 (fun q => nomatch q), pp, zs, rfl, .inl ⟨lab_same, upd_same⟩, w2.kp' (new_kp w1)⟩
    obtain ⟨ω3, r3, x3, hv⟩ := st
    rw [fetch_drop hv1] at p2
    unfold forL at p2
    cases ha : asgV tg v env2 with
    | none => simp only [ha] at p2; exact p2.elim
    | some env3 =>
      simp only [ha] at p2
      refine asgV_ok C.ctx.1.K r3 hv ha hF fun σ4 r4 _ _ => ?_
      refine ib ω3 H3 env3 σ4 _ W r4 tk (SPost.loop (SPost.trans p2 x3) fun e σ' ω' H' x4 r' q => ⟨rfl, by omega, e, ω', r', (x2.trans x3).trans x4, q⟩)
  · have hjl : j = l.length := by omega
    subst hjl
    rw [List.drop_length] at p2
    exact .inl ⟨wk.stop ω2 H2 x2.kp, p2 σ2 ω2 H2 Ext.refl r2⟩
theorem ok_ret (C : Stx g cx cl xa M sc k X) {e : E} {v : Expr} {pos : Pos} (h : e.chk M sc v = true) : OkS g cl xa X (fun env => (S.ret e).ev cx env) (.Return (some v) pos) := by
  intro ω H env σ D W r tk p
  have p' : SPost g cl xa ω H ((S.ret e).ev cx env) D W := p
  have gen : SPost g cl xa ω H ((e.ev cx env).sr fun o env => (own env o).sr fun t env => .rt t env) D W → SS X (.Return (some v) pos) D σ H := fun p1 => by
    refine ss_of (ps_ret (pe_se X v)) ((e_ok e C.ctx v h).1 0 ω H env σ _ W r tk ((SPost.sr p1).imp fun o env1 ω1 H1 e1 r1 p2 y ro => ?_))
    cases z : own env1 o with
    | ex _ _ => exact (own_noex z).elim
    | no => rw [z] at p2; exact p2.elim
    | ok t env2 =>
      rw [z] at p2
      obtain ⟨ω2, x2, _, r2, t2⟩ := own_ok r1 ro z
      exact p2 y σ ω2 H1 x2 r2 t2
  cases e with
  | var i =>
    simp only [S.ev] at p'
    split at p'
    · next l hb hl =>
      -- a list that is the frame's own is given away
      obtain ⟨z, q1, a, xs, q2, q3, q4, q5⟩ := r.at_ i (.vl l) hl
      subst q2
      simp only [E.chk] at h
      split at h
      · next x px =>
        obtain ⟨h1, h2, h3, h4⟩ := vis_ok C.ctx.1 h
        refine ss_of (ps_ret (pe_var h1 h2 h3 h4)) ⟨_, q1, ?_⟩
        have kp : Kp ω H (lab ω a (some (.tmp 0))) H := lab_kp q3
        refine p' _ σ (lab ω a (some (.tmp 0))) H (lab_ext q3 (fun q => nomatch q) (fun m hm q => nomatch q) (fun q => nomatch q)) ?_ ⟨a, xs, rfl, lab_same, q4, q5.kp' kp⟩
        refine ⟨by rw [st_length, r.len], fun j u hj => ?_, r.fix, lab_trk r.trk q3⟩
        rw [gt_st] at hj
        by_cases zz : j = i ∧ i < env.length
        · rw [if_pos zz] at hj; cases hj
        · rw [if_neg zz] at hj
          obtain ⟨y, w1, w2⟩ := r.at0 j u hj
          have hlt := gt_lt hj
          have ne : i ≠ j := fun q => zz ⟨q.symm, by rw [q]; exact hlt⟩
          exact ⟨y, w1, w2.keep kp (lab_kk q3 (slot_ne (Ne.symm ne)))⟩
      · cases h
    · next c fs hb hl =>
      -- an object that is the frame's own is given away
      obtain ⟨z, q1, q2⟩ := r.at_ i (.ob c fs) hl
      simp only [E.chk] at h
      split at h
      · next x px =>
        obtain ⟨h1, h2, h3, h4⟩ := vis_ok C.ctx.1 h
        refine ss_of (ps_ret (pe_var h1 h2 h3 h4)) ⟨_, q1, ?_⟩
        refine p' _ σ (mvL ω (.slot i) (.tmp 0)) H (mv_ext (fun q => nomatch q) (fun m hm => absurd hm (Nat.not_lt_zero m)) (fun q => nomatch q)) ?_ (q2.relabel (fun a z => by rw [mv_ne (by rw [z]; exact fun q => nomatch q)]; exact z) fun a z => mv_same z)
        refine ⟨by rw [st_length, r.len], fun j u hj => ?_, r.fix, mv_trk r.trk (fun q => nomatch q)⟩
        rw [gt_st] at hj
        by_cases zz : j = i ∧ i < env.length
        · rw [if_pos zz] at hj; cases hj
        · rw [if_neg zz] at hj
          obtain ⟨y, w1, w2⟩ := r.at0 j u hj
          have hlt := gt_lt hj
          have ne : i ≠ j := fun q => zz ⟨q.symm, by rw [q]; exact hlt⟩
          exact ⟨y, w1, w2.keep mv_kp (mv_kk (slot_ne (Ne.symm ne)))⟩
      · cases h
    · exact gen p'
  | _ => exact gen (by simpa only [S.ev] using p')
end
end Py
set_option maxHeartbeats 1000000
namespace Py
open PySem PySem.Spec PyProof.Rows L2
section
variable {g : Gc} {cl : Clx} {xa : Fx} {M : Nm} {cx : EC} {sc : Scope} {k : Nat} {X : Cx} {n : Nat} {ω ω' : Om} {H H' : Hp} {σ : L2.St} {env : Env} {W : WX} {D : Ends}
theorem Cok.try_ (C : Cok g M cx sc k X) (pn : List (Addr × Obj)) (xe : Value → Shared → Prop) : Cok g M cx sc k (X.tr pn xe) where
  K := C.K
  N := C.N
  nd := C.nd
  vis := C.vis
  fre := C.fre
  loc := C.loc
  glo := C.glo
  calm := C.calm
  hu := C.hu
  room := C.room
  free := C.free
  gs := C.gs
  gd := C.gd
  fns := C.fns
  cls := C.cls
  clm := C.clm
  fnm := C.fnm
  mth := C.mth
  rm1 := C.rm1
  lam := C.lam
theorem Cok.suite (C : Cok g M cx sc k X) (a : Addr) (pn : List (Addr × Obj)) : Cok g M.hot cx sc k (X.suite a pn) where
  K := C.K
  N := C.N
  nd := C.nd
  vis := C.vis
  fre := C.fre
  loc := C.loc
  glo := C.glo
  calm := fun h => (Bool.false_ne_true h).elim
  hu := C.hu
  room := fun h => (Bool.false_ne_true h).elim
  free := C.free
  gs := C.gs
  gd := C.gd
  fns := C.fns
  cls := C.cls
  clm := C.clm
  fnm := C.fnm
  mth := C.mth
  rm1 := fun _ h => (Bool.false_ne_true h).elim
  lam := fun h => (Bool.false_ne_true h).elim
theorem Stx.try_ (C : Stx g cx cl xa M sc k X) {pn : List (Addr × Obj)} {xe : Value → Shared → Prop} (hc : M.calm = true) (hp : PassesOwn (model X.prog X.w) X.A X.env xe) : Stx g cx cl xa M sc k (X.tr pn xe) where
  ctx := ⟨C.ctx.1.try_ pn xe, Xok.calm hc, fun h => C.ctx.2.2 h⟩
  sc := C.sc
  st := C.st
  fr := C.fr
  po := fun _ => hp
  xe := C.xe
  rm := C.rm
theorem Exn.try_ (O : Exn g M cx X) {pn : List (Addr × Obj)} {xe : Value → Shared → Prop} : Exn g M cx (X.tr pn xe) := ⟨O.ini, O.hdl, O.rai, O.exm, O.isx⟩
theorem Exn.suite (O : Exn g M cx X) {a : Addr} {pn : List (Addr × Obj)} : Exn g M.hot cx (X.suite a pn) := ⟨O.ini, O.hdl, O.rai, O.exm, O.isx⟩
/-- isinstance(e, ..), e held, with a dict or without -/
theorem call_isX {X : Cx} {a D : Addr} {oe : Obj} {pn : List (Addr × Obj)} {dd : Option Addr} (EC : ExcC X.K D) (zc : Zc (.ref D) dd oe) (fl : ∃ vs, oe.data = .fields vs) :
    CallR (X.suite a ((a, oe) :: pn)) (.builtin "isinstance") (fun xs H Q => (∀ dx, dd = some dx → ∃ fs, H dx = some (.xd fs)) ∧ rIsE X.K D a xs H Q) := by
  intro pins s σ H xs us Q I r ⟨hdd, c, cw, b, exs, one, kit, post⟩
  subst exs
  cases r with
  | cons ra rest =>
    cases rest with
    | cons rc rest2 =>
      cases rest2
      cases ra
      have := one _ rc
      subst this
      have there := (I.pin (a, oe) (List.mem_append.mpr (Or.inl List.mem_cons_self))).1
      obtain ⟨fields, isF⟩ := fl
      obtain ⟨clsO, dctO, datO, slO⟩ := oe
      obtain ⟨z1, z2⟩ := zc
      dsimp only at z1 z2 isF
      subst z1 z2 isF
      have inst : ∃ od, PySem.W.InstAt s.heap a ⟨.ref D, dctO, .fields fields, slO⟩ D od := by
        cases dctO with
        | none => exact ⟨none, there, rfl, rfl, trivial⟩
        | some dx =>
          obtain ⟨fs, hfs⟩ := hdd dx rfl
          obtain ⟨od, hod⟩ := objOk_get (I.hok dx _ hfs)
          exact ⟨some od, there, rfl, rfl, hod⟩
      obtain ⟨od, inst⟩ := inst
      have hcl : (PySem.W.clsIn X.K D).isSome = true := by
        have q := EC.hd
        unfold PySem.W.hasDictIn at q
        cases z : PySem.W.clsIn X.K D with
        | none => rw [z] at q; cases q
        | some _ => rfl
      refine PySem.W.kia_one (PySem.W.kitx_exc hcl EC.hg EC.hk EC.hs EC.ha EC.hn EC.ht EC.hm) I.kIn inst kit (fun z => nomatch z) (fun tk => ?_)
      exact ⟨.bl b, H, I.kept (t' := tk) (fun _ _ z => z), rfl, post⟩
theorem Stx.suite (C : Stx g cx cl xa M sc k X) (O : Exn g M cx X) {c : Nat} (hok : g.ok c = true) {a : Addr} {oe : Obj} {pn : List (Addr × Obj)} {d0 : Option Addr} (hz : Zc (.ref (g.cad c)) d0 oe) (hf : ∃ vs, oe.data = .fields vs) :
    Stx g cx cl { xa with e := some (c, .ref a, d0) } M.hot sc k (X.suite a ((a, oe) :: pn)) where
  ctx := ⟨C.ctx.1.suite a _, fun _ c' y dd hy d x hx => by
    cases hy
    obtain ⟨hE, hd⟩ := O.isx c hok
    obtain ⟨v, cv, h1, h2, h3, h4⟩ := hd d x hx
    refine ⟨v, fun hg hdb p => ?_, fun H Q hdd q => ?_⟩
    · rcases h1 with h1 | ⟨h1, h5, h6⟩
      · exact pe_glob hg h1 h2 hdb
      · exact pe_bltn hg h1 h5 h2 h6 hdb
    · exact scall_of (call_isX hE hz hf) ⟨hdd, v, cv, _, rfl, h3, h4, q⟩, CloOk.off rfl⟩
  sc := C.sc
  st := C.st
  fr := C.fr
  po := fun h => (Bool.false_ne_true h).elim
  xe := fun h => (Bool.false_ne_true h).elim
  rm := fun h => (Bool.false_ne_true h).elim
/-- from a frame that holds no error -/
theorem RT.hold {l : Lb} {t : T} {x : V} (hx : xa.e = Option.none) (e : Option (Nat × V × Option Addr)) (h : RT g cl xa ω H l t x) : RT g cl { xa with e := e } ω H l t x := by
  cases t with
  | v v => exact h
  | vl l => exact h
  | vd _ _ => exact h
  | x _ => obtain ⟨d, h1, h2⟩ := h; rw [hx] at h1; cases h1
  | clo _ => exact h
  | cap _ => exact h
  | ob _ _ => exact h
theorem Rel.hold (r : Rel g cl xa ω H env σ) (hx : xa.e = Option.none) (e : Option (Nat × V × Option Addr)) : Rel g cl { xa with e := e } ω H env σ :=
  ⟨r.len, fun i t h => let ⟨x, h1, h2⟩ := r.at0 i t h; ⟨x, h1, h2.hold hx e⟩, r.fix, r.trk⟩
theorem clr_gt : ∀ (env : Env) (i : Nat) (t : T), gt (clrX env) i = some t → gt env i = some t ∧ ∀ e, t ≠ .x e
  | [], _, _, h => by cases h
  | some (.x _) :: r, 0, t, h => by cases h
  | some (.x _) :: r, i + 1, t, h => clr_gt r i t h
  | none :: r, 0, t, h => by cases h
  | none :: r, i + 1, t, h => clr_gt r i t h
  | some (.v x) :: r, 0, t, h => by
    have : some (T.v x) = some t := h
    cases this; exact ⟨rfl, fun _ q => by cases q⟩
  | some (.v x) :: r, i + 1, t, h => clr_gt r i t h
  | some (.vl x) :: r, 0, t, h => by
    have : some (T.vl x) = some t := h
    cases this; exact ⟨rfl, fun _ q => by cases q⟩
  | some (.vl x) :: r, i + 1, t, h => clr_gt r i t h
  | some (.vd x y) :: r, 0, t, h => by
    have : some (T.vd x y) = some t := h
    cases this; exact ⟨rfl, fun _ q => by cases q⟩
  | some (.vd x y) :: r, i + 1, t, h => clr_gt r i t h
  | some (.clo gs) :: r, 0, t, h => by
    have : some (T.clo gs) = some t := h
    cases this; exact ⟨rfl, fun _ q => by cases q⟩
  | some (.clo _) :: r, i + 1, t, h => clr_gt r i t h
  | some (.cap gs) :: r, 0, t, h => by
    have : some (T.cap gs) = some t := h
    cases this; exact ⟨rfl, fun _ q => by cases q⟩
  | some (.cap _) :: r, i + 1, t, h => clr_gt r i t h
  | some (.ob c fs) :: r, 0, t, h => by
    have : some (T.ob c fs) = some t := h
    cases this; exact ⟨rfl, fun _ q => by cases q⟩
  | some (.ob _ _) :: r, i + 1, t, h => clr_gt r i t h
theorem clr_len : ∀ env : Env, (clrX env).length = env.length
  | [] => rfl
  | some (.x _) :: r => by show (clrX r).length + 1 = _; rw [clr_len r]; rfl
  | none :: r => by show (clrX r).length + 1 = _; rw [clr_len r]; rfl
  | some (.v x) :: r => by show (clrX r).length + 1 = _; rw [clr_len r]; rfl
  | some (.vl x) :: r => by show (clrX r).length + 1 = _; rw [clr_len r]; rfl
  | some (.vd x y) :: r => by show (clrX r).length + 1 = _; rw [clr_len r]; rfl
  | some (.clo _) :: r => by show (clrX r).length + 1 = _; rw [clr_len r]; rfl
  | some (.cap _) :: r => by show (clrX r).length + 1 = _; rw [clr_len r]; rfl
  | some (.ob _ _) :: r => by show (clrX r).length + 1 = _; rw [clr_len r]; rfl
theorem RT.loose {l : Lb} {t : T} {x : V} {e : Option (Nat × V × Option Addr)} (ht : ∀ e, t ≠ .x e) (h : RT g cl { xa with e := e } ω H l t x) : RT g cl xa ω H l t x := by
  cases t with
  | v v => exact h
  | vl l => exact h
  | vd _ _ => exact h
  | x e => exact absurd rfl (ht e)
  | clo _ => exact h
  | cap _ => exact h
  | ob _ _ => exact h
theorem Rel.loose {e : Option (Nat × V × Option Addr)} (r : Rel g cl { xa with e := e } ω H env σ) : Rel g cl xa ω H (clrX env) σ :=
  ⟨by rw [clr_len, r.len], fun i t h => let ⟨q1, q2⟩ := clr_gt env i t h; let ⟨x, h1, h2⟩ := r.at0 i t q1; ⟨x, h1, h2.loose q2⟩, r.fix, r.trk⟩
theorem ok_try (C : Stx g cx cl xa M sc k X) (O : Exn g M cx X) {b h : Ss} {c i : Nat} {x nm : Str} {px hpos pos : Pos} {body : List Stmt} {b0 : Stmt} {suite : List Stmt} (h1 : exAt M c x = true) (h2 : glB sc x = true) (h3 : plainNm x = true) (h4 : at? M.N i nm = true)
    (h5 : sc.names.lookup nm = some .local) (hc : M.calm = true) (h6 : M.rais.contains c = true) (hF : i ∉ xa.F)
    (ib : ∀ pn xe, Stx g cx cl xa M sc k (X.tr pn xe) → OkSs g cl xa (X.tr pn xe) (fun env => b.ev cx env) body)
    (ih : ∀ xa' X', xa'.F = xa.F → Stx g cx cl xa' M.hot sc k X' → Exn g M.hot cx X' → OkSs g cl xa' X' (fun env => h.ev cx env) (b0 :: suite)) :
    OkS g cl xa X (fun env => (S.try_ b c i h).ev cx env) (.Try body [.ExceptHandler (some (.Name x px)) (some nm) (b0 :: suite) hpos] [] [] pos) := by
  intro ω H env σ D W r tk p
  have nd : X.N.Nodup := by rw [C.ctx.1.N]; exact C.ctx.1.nd
  have hX := C.ctx.1.calm hc
  have hxe := C.xe hc
  obtain ⟨h3, _⟩ := and_t h3
  unfold exAt at h1
  split at h1
  · next y hy =>
    have := seq_ok h1
    subst this
    have q2 := O.hdl c y hy h6
    have hi : X.N[i]? = some nm := by
      unfold at? at h4
      split at h4
      · next z q => rw [seq_ok h4] at q; rw [C.ctx.1.N]; exact q
      · cases h4
    have p' : SPost g cl xa ω H ((S.try_ b c i h).ev cx env) D W := p
    simp only [S.ev] at p'
    let tb : WX → TS := fun W' D σ H => ∀ (pn : List (Addr × Obj)) (xe : Value → Shared → Prop), Takes (X.tr pn xe) W' → PassesOwn (model X.prog X.w) X.A X.env xe → SSs (X.tr pn xe) body D σ H
    let ts : Addr → Value → Option Addr → TS := fun a cls d D σ H => ∀ (oe : Obj) (pn : List (Addr × Obj)), Zc cls d oe → (∃ vs, oe.data = .fields vs) → SSs (X.suite a ((a, oe) :: pn)) (b0 :: suite) D σ H
    refine ss_of (ps_try_as (tb := tb) (ts := ts) (c := .ref (g.cad c)) C.st C.fr nd hi (by rw [← h5, ← C.sc]; rfl) ⟨gl_ok C.ctx.1 h2, by simpa using h3, .inl q2⟩ tk
      (fun W' pn xe tk' po => ⟨fun pins s σ H D I q => q pn xe tk' po pins s I⟩) (fun a oe cls d pn hz hf => ⟨fun pins s σ H D I q => q oe pn hz hf pins s I⟩)) ?_
    intro pn xe tk' po
    refine ib pn xe (C.try_ hc po) ω H env σ D _ r tk' ?_
    show SPost g cl xa ω H (b.ev cx env) D _
    cases hb : b.ev cx env with
    | nx e => rw [hb] at p'; exact p'
    | bk e => rw [hb] at p'; exact p'
    | ct e => rw [hb] at p'; exact p'
    | rt t e => rw [hb] at p'; exact p'
    | no => rw [hb] at p'; exact p'.elim
    | ex ee env1 =>
      rw [hb] at p'
      intro cls d ω1 H1 σ1 e1 r1 ⟨rx1, rx4, rx3⟩
      subst rx1
      refine ⟨cx.sub ee.c c, by rw [C.ctx.1.K]; rw [← C.ctx.1.K]; exact O.exm ee.c c rx4 h6, fun hs a ha oe pn' hz hf => ?_, fun hs => ?_⟩
      · simp only [hs] at p'
        have r2 : Rel g cl { xa with e := some (ee.c, .ref a, d) } ω1 H1 (st env1 i (some (.x ee))) (σ1.set i (some (.ref a))) := (r1.hold hxe _).set (t := .x ee) (show RT g cl { xa with e := some (ee.c, .ref a, d) } ω1 H1 (.slot i) (.x ee) (.ref a) from ⟨d, rfl, rx3⟩) hF
        refine ih { xa with e := some (ee.c, .ref a, d) } _ rfl (C.suite O rx4 hz hf) O.suite ω1 H1 _ _ _ (fun _ _ _ _ => False) r2 takes0 ?_
        have p2 := SPost.trans p' e1
        show SPost g cl _ ω1 H1 (h.ev cx (st env1 i (some (.x ee)))) _ _
        cases hh : h.ev cx (st env1 i (some (.x ee))) with
        | nx e => rw [hh] at p2; exact fun σ3 ω3 H3 e3 r3 => p2 _ ω3 H3 e3 (Rel.loose (r3.drop hF))
        | bk e => rw [hh] at p2; exact fun σ3 ω3 H3 e3 r3 => p2 _ ω3 H3 e3 (Rel.loose (r3.drop hF))
        | ct e => rw [hh] at p2; exact fun σ3 ω3 H3 e3 r3 => p2 _ ω3 H3 e3 (Rel.loose (r3.drop hF))
        | no => rw [hh] at p2; exact p2.elim
        | ex _ _ => rw [hh] at p2; exact p2.elim
        | rt t e =>
          rw [hh] at p2
          cases ht : t.arg with
          | false => simp only [ht] at p2; exact p2.elim
          | true =>
            simp only [ht] at p2
            exact fun x σ3 ω3 H3 e3 r3 t3 => p2 x σ3 ω3 H3 e3 r3.loose (t3.loose fun e q => by rw [q] at ht; cases ht)
      · simp only [hs] at p'
        exact p' _ _ ω1 H1 σ1 e1 r1 ⟨rfl, rx4, rx3⟩
  · cases h1
/-! ### all statements -/
mutual
theorem s_ok : (s : S) → ∀ {xa : Fx} {M : Nm} {X : Cx}, Stx g cx cl xa M sc k X → Exn g M cx X → (∀ j ∈ s.as, j ∉ xa.F) → ∀ st, s.chk M sc st = true → OkS g cl xa X (fun env => s.ev cx env) st
  | .asg tg e, xa, M, X, C, O, hF, st, h => by
    simp only [S.chk] at h
    split at h
    · next t v pos =>
      obtain ⟨h1, h2⟩ := and_t h
      obtain ⟨h1, h3⟩ := and_t h1
      cases tg with
      | n i =>
        cases t <;> first | exact (Bool.false_ne_true h1).elim | skip
        exact ok_asgn C h1 h3 h2 (hF i (List.mem_singleton_self _))
      | t is =>
        obtain ⟨h4, h5⟩ := and_t h2
        exact ok_asgt C h1 h3 h4 h5 hF
    · cases h
  | .par is es, xa, M, X, C, O, hF, st, h => by
    simp only [S.chk] at h
    split at h
    · next ts kt pt vs k2 p2 pos =>
      obtain ⟨h1, h2⟩ := and_t h
      obtain ⟨h1, h3⟩ := and_t h1
      obtain ⟨h4, h5⟩ := and_t h2
      exact ok_par C h1 h3 h4 h5 hF
    · cases h
  | .sti i ix e, xa, M, X, C, O, hF, st, h => by
    simp only [S.chk] at h
    split at h
    · obtain ⟨h1, h2⟩ := and_t h
      obtain ⟨h1, h3⟩ := and_t h1
      obtain ⟨h3, h4⟩ := and_t h3
      obtain ⟨h5, h6⟩ := and_t h2
      exact ok_sti C h1 h3 h4 h5 h6
    · cases h
  | .aug o i e, xa, M, X, C, O, hF, st, h => by
    simp only [S.chk] at h
    split at h
    · obtain ⟨h1, h2⟩ := and_t h
      obtain ⟨h1, h3⟩ := and_t h1
      obtain ⟨h4, h5⟩ := and_t h2
      exact ok_aug C h1 h3 h4 h5 (hF i (List.mem_singleton_self _))
    · cases h
  | .ex e, xa, M, X, C, O, hF, st, h => by
    simp only [S.chk] at h
    split at h
    · obtain ⟨h1, h2⟩ := and_t h
      exact ok_expr C h1 h2
    · cases h
  | .app i e, xa, M, X, C, O, hF, st, h => by
    simp only [S.chk] at h
    split at h
    · obtain ⟨h1, h2⟩ := and_t h
      obtain ⟨h1, h3⟩ := and_t h1
      obtain ⟨h3, h4⟩ := and_t h3
      obtain ⟨h5, h6⟩ := and_t h2
      exact ok_app C h1 h3 h4 h5 h6
    · cases h
  | .ext i e, xa, M, X, C, O, hF, st, h => by
    simp only [S.chk] at h
    split at h
    · obtain ⟨h1, h2⟩ := and_t h
      obtain ⟨h1, h3⟩ := and_t h1
      obtain ⟨h3, h4⟩ := and_t h3
      obtain ⟨h5, h6⟩ := and_t h2
      exact ok_ext C h1 h3 h4 h5 h6
    · cases h
  | .ifs c a b, xa, M, X, C, O, hF, st, h => by
    simp only [S.chk] at h
    split at h
    · obtain ⟨h1, h2⟩ := and_t h
      obtain ⟨h2, h3⟩ := and_t h2
      exact ok_ifs C h1 (ss_ok a C O (fun j hj => hF j (List.mem_append.mpr (.inl hj))) _ h2) (ss_ok b C O (fun j hj => hF j (List.mem_append.mpr (.inr hj))) _ h3)
    · cases h
  | .whl c b, xa, M, X, C, O, hF, st, h => by
    simp only [S.chk] at h
    split at h
    · obtain ⟨h1, h2⟩ := and_t h
      obtain ⟨h2, h3⟩ := and_t h2
      exact ok_whl C h1 h2 (ss_ok b C O (fun j hj => hF j hj) _ h3)
    · cases h
  | .for_ tg it b, xa, M, X, C, O, hF, st, h => by
    simp only [S.chk] at h
    split at h
    · obtain ⟨h1, h2⟩ := and_t h
      obtain ⟨h1, h3⟩ := and_t h1
      obtain ⟨h4, h5⟩ := and_t h2
      obtain ⟨h5, h6⟩ := and_t h5
      exact ok_for C h1 h3 h4 h5 (fun j hj => hF j (List.mem_append.mpr (.inl hj))) (ss_ok b C O (fun j hj => hF j (List.mem_append.mpr (.inr hj))) _ h6)
    · cases h
  | .ret e, xa, M, X, C, O, hF, st, h => by
    simp only [S.chk] at h
    split at h
    · exact ok_ret C h
    · cases h
  | .retN, xa, M, X, C, O, hF, st, h => by
    simp only [S.chk] at h
    split at h
    · intro ω H env σ D W r tk p
      exact ss_of ps_retN ((by simpa only [S.ev] using p : SPost g cl xa ω H (.rt (.v .none) env) D W) .non σ ω H Ext.refl r rfl)
    · cases h
  | .rai c es, xa, M, X, C, O, hF, st, h => by
    simp only [S.chk] at h
    split at h
    · obtain ⟨h1, h2⟩ := and_t h
      obtain ⟨h1, h3⟩ := and_t h1
      obtain ⟨h3, h4⟩ := and_t h3
      obtain ⟨h5, h6⟩ := and_t h2
      obtain ⟨h6, h7⟩ := and_t h6
      cases es with
      | nil => exact ok_rai C O h1 h3 h4 h6 h7
      | cons _ _ => cases h5
    · obtain ⟨h1, h2⟩ := and_t h
      obtain ⟨h1, h3⟩ := and_t h1
      obtain ⟨h3, h4⟩ := and_t h3
      obtain ⟨h5, h6⟩ := and_t h2
      obtain ⟨h5, h8⟩ := and_t h5
      obtain ⟨h6, h7⟩ := and_t h6
      cases es with
      | nil => cases h5
      | cons e r =>
        cases r with
        | nil => exact ok_raa C O h1 h3 h4 h6 h7 h8
        | cons _ _ => cases h5
    · cases h
  | .try_ b c n hh, xa, M, X, C, O, hF, st, h => by
    simp only [S.chk] at h
    split at h
    · next body x px nm suite hpos pos =>
      obtain ⟨h1, h2⟩ := and_t h
      obtain ⟨h1, h3⟩ := and_t h1
      obtain ⟨h1, h4⟩ := and_t h1
      obtain ⟨h4, h5⟩ := and_t h4
      obtain ⟨h3, h6⟩ := and_t h3
      obtain ⟨h7, h8⟩ := and_t h2
      obtain ⟨h7, h9⟩ := and_t h7
      obtain ⟨hB, h10⟩ := and_t h8
      obtain ⟨h10, h11⟩ := and_t h10
      cases suite with
      | nil => cases h11
      | cons b0 suite =>
        exact ok_try C O h1 h4 h5 h3 (eq_of_beq h6) h7 h9 (hF n List.mem_cons_self)
          (fun pn xe C' => ss_ok b C' O.try_ (fun j hj => hF j (List.mem_cons_of_mem _ (List.mem_append.mpr (.inl hj)))) _ hB)
          (fun xa' X' e C' O' => ss_ok hh C' O' (fun j hj => by rw [e]; exact hF j (List.mem_cons_of_mem _ (List.mem_append.mpr (.inr hj)))) _ h10)
    · cases h
  | .pass, xa, M, X, C, O, hF, st, h => by
    simp only [S.chk] at h
    split at h
    · intro ω H env σ D W r tk p
      exact ss_of ps_pass ((by simpa only [S.ev] using p : SPost g cl xa ω H (.nx env) D W) σ ω H Ext.refl r)
    · cases h
  | .brk, xa, M, X, C, O, hF, st, h => by
    simp only [S.chk] at h
    split at h
    · intro ω H env σ D W r tk p
      exact ss_of ps_break ((by simpa only [S.ev] using p : SPost g cl xa ω H (.bk env) D W) σ ω H Ext.refl r)
    · cases h
  | .cnt, xa, M, X, C, O, hF, st, h => by
    simp only [S.chk] at h
    split at h
    · intro ω H env σ D W r tk p
      exact ss_of ps_continue ((by simpa only [S.ev] using p : SPost g cl xa ω H (.ct env) D W) σ ω H Ext.refl r)
    · cases h
  | .sta i f e, xa, M, X, C, O, hF, st, h => by
    simp only [S.chk] at h
    split at h
    · obtain ⟨h1, h2⟩ := and_t h
      obtain ⟨h2, h3⟩ := and_t h2
      obtain ⟨h3, h4⟩ := and_t h3
      exact ok_sta C h1 h2 h3 h4
    · cases h
  | .apa i f e, xa, M, X, C, O, hF, st, h => by
    simp only [S.chk] at h
    split at h
    · obtain ⟨h1, h2⟩ := and_t h
      obtain ⟨h1, h3⟩ := and_t h1
      obtain ⟨h4, h5⟩ := and_t h2
      obtain ⟨h4, h6⟩ := and_t h4
      obtain ⟨h5, h7⟩ := and_t h5
      exact ok_apa C h1 h3 h4 h6 h5 h7
    · cases h
  | .sti2 i k1 k2 es, xa, M, X, C, O, hF, st, h => by
    simp only [S.chk] at h
    split at h
    · obtain ⟨h1, h2⟩ := and_t h
      obtain ⟨h1, h3⟩ := and_t h1
      obtain ⟨h1, h4⟩ := and_t h1
      obtain ⟨h3, h5⟩ := and_t h3
      obtain ⟨h6, h7⟩ := and_t h2
      obtain ⟨h7, h8⟩ := and_t h7
      obtain ⟨h8, h9⟩ := and_t h8
      obtain ⟨h8, h10⟩ := and_t h8
      obtain ⟨h9, h11⟩ := and_t h9
      exact ok_sti2 C h1 h4 h3 h5 h6 h7 h8 h10 h9 h11
    · cases h
  | .bad, xa, M, X, C, O, hF, st, h => fun ω H env σ D W r tk p => (show False from (by simpa only [S.ev] using p : SPost g cl xa ω H .no D W)).elim
theorem ss_ok : (s : Ss) → ∀ {xa : Fx} {M : Nm} {X : Cx}, Stx g cx cl xa M sc k X → Exn g M cx X → (∀ j ∈ s.as, j ∉ xa.F) → ∀ st, s.chk M sc st = true → OkSs g cl xa X (fun env => s.ev cx env) st
  | .nil, xa, M, X, C, O, hF, st, h => by
    simp only [Ss.chk] at h
    split at h
    · intro ω H env σ D W r tk p
      exact sss_of pss_nil ((by simpa only [Ss.ev] using p : SPost g cl xa ω H (.nx env) D W) σ ω H Ext.refl r)
    · cases h
  | .cons s rs, xa, M, X, C, O, hF, st, h => by
    simp only [Ss.chk] at h
    split at h
    · next x xs =>
      obtain ⟨h1, h2⟩ := and_t h
      intro ω H env σ D W r tk p
      have p' : SPost g cl xa ω H ((Ss.cons s rs).ev cx env) D W := p
      simp only [Ss.ev] at p'
      refine sss_of (pss_cons (ps_ss X x) (pss_sss X xs)) (s_ok s C O (fun j hj => hF j (List.mem_append.mpr (.inl hj))) x h1 ω H env σ _ W r tk ?_)
      have p2 := SPost.bind p'
      show SPost g cl xa ω H (s.ev cx env) _ W
      cases hs : s.ev cx env with
      | nx e =>
        rw [hs] at p2
        intro σ1 ω1 H1 e1 r1
        obtain ⟨env2, ω2, r2, p3⟩ := p2 σ1 ω1 H1 e1 r1
        exact ss_ok rs C O (fun j hj => hF j (List.mem_append.mpr (.inr hj))) xs h2 ω2 H1 env2 σ1 D W r2 tk p3
      | bk e => rw [hs] at p2; exact p2
      | ct e => rw [hs] at p2; exact p2
      | rt t e => rw [hs] at p2; exact p2
      | ex c e => rw [hs] at p2; exact p2
      | no => rw [hs] at p2; exact p2
    · cases h
end
end
end Py
set_option maxHeartbeats 1000000
namespace Py
open PySem PySem.Spec PyProof.Rows L2
/-! ### defs -/
/-- what is fixed for the whole program: its parts, and what the machine knows of them -/
structure Wd where
  g : Gc
  P : Pg
  Ms : Nat → Nm
  prog : Program
  w : World
  mg : Str → Option Value
  base : Heap
structure FnFact (U : Wd) (f : Nat) (d : FnD) : Prop where
  ex : ∃ (params : Arguments) (body : List Stmt) (scope : Scope) (dV kV doc pm cdv ct oc : Value) (an od : Option Addr) (osl : Array (Option Value)),
    U.g.K.lookup (U.g.fad f) = some ⟨oc, od, .func (PySem.W.fnOf d.nm d.name params body scope dV kV doc pm an cdv ct), osl⟩ ∧ PySem.W.codeIn U.g.K cdv d.name = true ∧ FnScope d.N d.ps scope ∧
    L2.Binds U.g.K (PySem.W.fnOf d.nm d.name params body scope dV kV doc pm an cdv ct) d.ps [] ∧ d.body.chk (U.Ms f) scope body = true ∧
    ((U.Ms f).lam = true → ∃ c P, cdv = .ref c ∧ LamX.TabB U.base U.mg c P ∧ (P, (d.name ++ ".<locals>." : Str) ++ "<lambda>") ∈ U.g.T ∧ ∀ p ∈ U.g.T, p.1 = P → p.2 = (d.name ++ ".<locals>." : Str) ++ "<lambda>")
  mg : d.cl = none → U.mg d.name = some (.ref (U.g.fad f))
  mth : ∀ (c : Nat) (cn m : Str), d.cl = some (c, cn, m) → c < U.g.ncl ∧ Meth U.g.K (U.g.cls c) m (U.g.fad f) ∧ (m = ("__init__" : Str) → L2.Mk U.g.K (U.g.cls c) (U.g.fad f))
  keep : PySem.W.keepIn U.g.K (.ref (U.g.fad f)) = true
  N : (U.Ms f).N = d.N
  calm : (U.Ms f).calm = true
structure Prg (U : Wd) : Prop where
  fn : ∀ (f : Nat) (d : FnD), U.P.fns[f]? = some d → FnFact U f d
  fns : ∀ f, (U.Ms f).fns = U.P.fns.map (·.name)
  gs : ∀ f, (U.Ms f).gs = U.P.gs.map (·.1)
  meth : ∀ f, (U.Ms f).meth = U.P.fns.map (fun d => d.cl.map fun q => (q.1, q.2.2))
  cls : ∀ c, c < U.g.ncl → L2.Cls U.g.K (U.g.cls c) ∧ ∀ (f : Nat) (n : Str), U.g.fnm[f]? = some n → NoAttr U.g.K (U.g.cls c) n
  clm : ∀ (f c : Nat) (x : Str), (U.Ms f).cls[c]? = some x → U.mg x = some (.ref (U.g.cls c)) ∧ c < U.g.ncl
  fnm : (∀ f, (U.Ms f).fnm = U.g.fnm) ∧ U.g.fnm.Nodup
  free : ∀ f x, (U.Ms f).free.contains x = true → U.mg x = none
  gv : ∀ (i : Nat) (x : Str) (v : Val), U.P.gs[i]? = some (x, v) → v.isD = false → ∃ u y, U.mg x = some u ∧ RelV y u ∧ ∀ ω H, RV U.g ω H v y
  gd : ∀ (i : Nat) (x : Str) (ks vs : List Val), U.P.gs[i]? = some (x, .dct ks vs) → ∃ p, U.mg x = some (.ref p) ∧ KD U.g U.w p ks vs
  exn : ∀ f (X : Cx) (call : Nat → List T → Option Clo → CR) np c, X.K = U.g.K → X.mg = U.mg → X.prog = U.prog → X.w = U.w → X.base = U.base → Exn U.g (U.Ms f) (U.P.ec call np c) X
  /-- the defs that call what they get -/
  lamf : ∀ f h, (U.Ms f).lamf.contains h = true → (U.Ms h).clo = true ∧ (U.Ms h).lam = false ∧ ∀ d, U.P.fns[h]? = some d → d.cl = none ∧ ∃ a, d.ps = [a] ∧ plainNm a = true
section
variable {U : Wd}
def FnAll (U : Wd) (k : Nat) : Prop := ∀ (f : Nat) (d : FnD), U.P.fns[f]? = some d → ∃ fd, (∃ oc od osl, U.g.K.lookup (U.g.fad f) = some ⟨oc, od, .func fd, osl⟩) ∧ L2.Binds U.g.K fd d.ps [] ∧ FnOk U.prog U.w U.g.K U.mg U.base (L2.CX U.prog U.w) (3 * k) (U.g.fad f) fd d.ps (spF U.g (U.P.call k) f)
/-- the owned parameters -/
def owned (ts : List T) : List Nat := (List.range ts.length).filter fun i => match ts[i]? with
  | some (.v _) => false
  | _ => true
theorem fix_owned {as : List Nat} : ∀ {ts : List T} {n : Nat}, fixOk as n ts = true → ∀ i t, ts[i]? = some t → (∀ v, t ≠ .v v) → (n + i) ∉ as
  | [], _, _, i, t, h, _ => by simp at h
  | u :: r, n, hf, 0, t, h, hv => by
    have e : u = t := by simpa using h
    subst e
    cases u with
    | v x => exact absurd rfl (hv x)
    | _ =>
      have hf' := (and_t hf).1
      rw [Nat.add_zero]
      intro hm
      simp [hm] at hf'
  | u :: r, n, hf, i + 1, t, h, hv => by
    have hf' : fixOk as (n + 1) r = true := by
      cases u with
      | v x => exact hf
      | _ => exact (and_t hf).2
    have := fix_owned hf' i t (by simpa using h) hv
    rw [show n + (i + 1) = n + 1 + i by omega]
    exact this
theorem mem_owned {ts : List T} {i : Nat} : i ∈ owned ts ↔ ∃ t, ts[i]? = some t ∧ ∀ v, t ≠ .v v := by
  unfold owned
  rw [List.mem_filter, List.mem_range]
  constructor
  · rintro ⟨h1, h2⟩
    refine ⟨ts[i], by simp [h1], fun v q => ?_⟩
    rw [List.getElem?_eq_getElem h1, q] at h2
    cases h2
  · rintro ⟨t, h1, h2⟩
    refine ⟨(List.getElem?_eq_some_iff.mp h1).1, ?_⟩
    rw [h1]
    cases t with
    | v x => exact absurd rfl (h2 x)
    | _ => rfl
theorem gt_args {ts : List T} {m : Nat} : ∀ {i : Nat} {t : T}, gt (ts.map some ++ List.replicate m none) i = some t → ts[i]? = some t := by
  induction ts with
  | nil =>
    intro i t h
    have : ∀ (m i : Nat), gt (List.replicate m none) i = none := fun m => by
      induction m with
      | zero => intro i; rfl
      | succ m ih => intro i; cases i with
        | zero => rfl
        | succ i => exact ih i
    rw [List.map_nil, List.nil_append, this] at h
    cases h
  | cons u r ih =>
    intro i t h
    cases i with
    | zero =>
      have : some u = some t := h
      exact this
    | succ i => simpa using ih (i := i) h
theorem back_up {r : List T} {e : Env} {z : T} {y : Option T} {i : Nat} {t : T} (h : (∃ v, t = .v v ∧ r[i]? = some (.v v)) ∨ ((∃ u, r[i]? = some u ∧ ∀ v, u ≠ .v v) ∧ gt e i = some t)) :
    (∃ v, t = .v v ∧ (z :: r)[i + 1]? = some (.v v)) ∨ ((∃ u, (z :: r)[i + 1]? = some u ∧ ∀ v, u ≠ .v v) ∧ gt (y :: e) (i + 1) = some t) := by
  rcases h with ⟨v, q1, q2⟩ | ⟨⟨u, q1, q2⟩, q3⟩
  · exact .inl ⟨v, q1, by simpa using q2⟩
  · exact .inr ⟨⟨u, by simpa using q1, q2⟩, q3⟩
theorem backs_at : ∀ {ts : List T} {env : Env} {i : Nat} {t : T}, (backs ts env)[i]? = some t → (∃ v, t = .v v ∧ ts[i]? = some (.v v)) ∨ ((∃ u, ts[i]? = some u ∧ ∀ v, u ≠ .v v) ∧ gt env i = some t)
  | [], _, _, _, h => by simp [backs] at h
  | .v x :: r, [], i, t, h => by simp [backs] at h
  | .v x :: r, y :: e, 0, t, h => by
    have : T.v x = t := by simpa [backs] using h
    exact .inl ⟨x, this.symm, by simp⟩
  | .v x :: r, y :: e, i + 1, t, h => by
    exact back_up (backs_at (ts := r) (env := e) (i := i) (t := t) (by simpa [backs] using h))
  | .vl l :: r, some u :: e, 0, t, h => by
    have : u = t := by simpa [backs] using h
    exact .inr ⟨⟨.vl l, by simp, fun _ q => by cases q⟩, by rw [← this]; rfl⟩
  | .vl l :: r, some u :: e, i + 1, t, h => by
    exact back_up (backs_at (ts := r) (env := e) (i := i) (t := t) (by simpa [backs] using h))
  | .vl l :: r, none :: e, i, t, h => by simp [backs] at h
  | .vl l :: r, [], i, t, h => by simp [backs] at h
  | .vd l l2 :: r, some u :: e, 0, t, h => by
    have : u = t := by simpa [backs] using h
    exact .inr ⟨⟨.vd l l2, by simp, fun _ q => by cases q⟩, by rw [← this]; rfl⟩
  | .vd l l2 :: r, some u :: e, i + 1, t, h => by
    exact back_up (backs_at (ts := r) (env := e) (i := i) (t := t) (by simpa [backs] using h))
  | .vd l l2 :: r, none :: e, i, t, h => by simp [backs] at h
  | .vd l l2 :: r, [], i, t, h => by simp [backs] at h
  | .x ee :: r, some u :: e, 0, t, h => by
    have : u = t := by simpa [backs] using h
    exact .inr ⟨⟨.x ee, by simp, fun _ q => by cases q⟩, by rw [← this]; rfl⟩
  | .x ee :: r, some u :: e, i + 1, t, h => by
    exact back_up (backs_at (ts := r) (env := e) (i := i) (t := t) (by simpa [backs] using h))
  | .x ee :: r, none :: e, i, t, h => by simp [backs] at h
  | .x ee :: r, [], i, t, h => by simp [backs] at h
  | .clo gs :: r, some u :: e, 0, t, h => by
    have : u = t := by simpa [backs] using h
    exact .inr ⟨⟨.clo gs, by simp, fun _ q => by cases q⟩, by rw [← this]; rfl⟩
  | .clo gs :: r, some u :: e, i + 1, t, h => by
    exact back_up (backs_at (ts := r) (env := e) (i := i) (t := t) (by simpa [backs] using h))
  | .clo gs :: r, none :: e, i, t, h => by simp [backs] at h
  | .clo gs :: r, [], i, t, h => by simp [backs] at h
  | .cap gs :: r, some u :: e, 0, t, h => by
    have : u = t := by simpa [backs] using h
    exact .inr ⟨⟨.cap gs, by simp, fun _ q => by cases q⟩, by rw [← this]; rfl⟩
  | .cap gs :: r, some u :: e, i + 1, t, h => by
    exact back_up (backs_at (ts := r) (env := e) (i := i) (t := t) (by simpa [backs] using h))
  | .cap gs :: r, none :: e, i, t, h => by simp [backs] at h
  | .cap gs :: r, [], i, t, h => by simp [backs] at h
  | .ob gs hs :: r, some u :: e, 0, t, h => by
    have : u = t := by simpa [backs] using h
    exact .inr ⟨⟨.ob gs hs, by simp, fun _ q => by cases q⟩, by rw [← this]; rfl⟩
  | .ob gs hs :: r, some u :: e, i + 1, t, h => by
    exact back_up (backs_at (ts := r) (env := e) (i := i) (t := t) (by simpa [backs] using h))
  | .ob gs hs :: r, none :: e, i, t, h => by simp [backs] at h
  | .ob gs hs :: r, [], i, t, h => by simp [backs] at h
theorem start_get {N : List Str} {vs : List V} {i : Nat} {x : V} (h : vs[i]? = some x) : (L2.start N vs)[i]? = some (some x) := by
  unfold L2.start
  have hl := (List.getElem?_eq_some_iff.mp h).1
  rw [List.getElem?_append_left (by simpa using hl)]
  simp [h]
/-- behind a body -/
theorem ags_back {g : Gc} {ω ω' : Om} {H H' : Hp} {ts : List T} {vs : List V} {N : List Str} {env : Env} {σ : L2.St} (ag : Ags g none ω H ts vs) (kp : Kp ω H ω' H') (r : Rel g none { F := owned ts, s0 := L2.start N vs } ω' H' env σ) : Ags g none ω' H' (backs ts env) vs := by
  intro i t h
  rcases backs_at h with ⟨v, rfl, h1⟩ | ⟨⟨u, h1, h2⟩, h3⟩
  · obtain ⟨x, q1, q2⟩ := ag i _ h1
    exact ⟨x, q1, RV.kp kp v x q2⟩
  · obtain ⟨x, q1, _⟩ := ag i _ h1
    have := r.fix i (mem_owned.mpr ⟨u, h1, h2⟩)
    exact ⟨_, q1, (r.at' h3 (this.trans (start_get q1))).nf rfl⟩
theorem spost_of {g : Gc} {ω : Om} {H : Hp} {ts : List T} {vs : List V} {N : List Str} {r : SR} {Q : VK} {E : XK} (ag : Ags g none ω H ts vs) (p : CPost g none ω H vs (r.cr ts) Q E) :
    SPost g none { F := owned ts, s0 := L2.start N vs } ω H r { nx := fun _ H' => Q .non H', rt := Q } (fun cls d _ H' => E cls d H') := by
  cases r with
  | nx e => exact fun σ' ω' H' x r' => p .non ω' H' x r'.trk (ags_back ag x.kp r') rfl
  | rt t e =>
    have p' : CPost g none ω H vs (match t.arg with
      | true => .ok t (backs ts e)
      | false => .no) Q E := p
    cases ht : t.arg with
    | false => rw [ht] at p'; exact p'.elim
    | true => rw [ht] at p'; exact fun y σ' ω' H' x r' t' => p' y ω' H' x r'.trk (ags_back ag x.kp r') (t'.nf rfl)
  | ex c e => exact fun cls d ω' H' σ' x r' rx => p cls d ω' H' x r'.trk (ags_back ag x.kp r') rx
  | bk e => exact p.elim
  | ct e => exact p.elim
  | no => exact p.elim
end
end Py
set_option maxHeartbeats 1000000
namespace Py
open PySem PySem.Spec PyProof.Rows L2
section
variable {U : Wd}
theorem fns_at (R : Prg U) {f : Nat} {h : Nat} {x : Str} (e : (U.Ms f).fns[h]? = some x) : ∃ d, U.P.fns[h]? = some d ∧ d.name = x := by
  rw [R.fns f, List.getElem?_map] at e
  cases q : U.P.fns[h]? with
  | none => rw [q] at e; cases e
  | some d => rw [q] at e; cases e; exact ⟨d, rfl, rfl⟩
theorem meth_at (R : Prg U) {f h : Nat} {d : FnD} (e : U.P.fns[h]? = some d) : (U.Ms f).meth[h]? = some (d.cl.map fun q => (q.1, q.2.2)) := by
  rw [R.meth f, List.getElem?_map, e]; rfl
theorem gs_at (R : Prg U) {f : Nat} {call : Nat → List T → Option Clo → CR} {np : Nat} {c : Option Clo} {i : Nat} {x : Str} {v : Val} (e : (U.Ms f).gs[i]? = some x) (e2 : (U.P.ec call np c).gv[i]? = some v) : U.P.gs[i]? = some (x, v) := by
  rw [R.gs f, List.getElem?_map] at e
  have e3 : (U.P.gs.map (·.2))[i]? = some v := e2
  rw [List.getElem?_map] at e3
  cases q : U.P.gs[i]? with
  | none => rw [q] at e; cases e
  | some d =>
    rw [q] at e e3
    cases e
    cases e3
    rfl
/-- a def's body is a context -/
theorem cok_fn (R : Prg U) {f : Nat} {d : FnD} (hd : U.P.fns[f]? = some d) {k : Nat} (IH : FnAll U k) {scope : Scope} (S : FnScope d.N d.ps scope) (X : Cx) (hK : X.K = U.g.K) (hN : X.N = d.N) (hs : X.env.scope = scope) (hf : ∀ x, X.fn x = true) (hcal : X.calm = true) (hr : Room (3 * k + 2) X.A)
    (hmg : X.mg = U.mg) (hp : X.prog = U.prog) (hw : X.w = U.w) (hb : X.base = U.base) {np : Nat} {c : Option Clo} (hl : (U.Ms f).lam = true → Room (3 * k + 2) X.A ∧ (∃ c P, LamX.TabB X.base X.mg c P ∧ X.env.code = .ref c ∧ (P, X.env.qual ++ "<lambda>") ∈ U.g.T ∧ ∀ p ∈ U.g.T, p.1 = P → p.2 = X.env.qual ++ "<lambda>") ∧
      ∀ (h : Nat) (x : Str), (U.Ms f).fns[h]? = some x → (U.Ms f).lamf.contains h = true → LamFn U.g (U.P.call k) X h x) :
    Cok U.g (U.Ms f) (U.P.ec (U.P.call k) np c) scope (3 * k) X where
  K := hK
  N := by rw [hN, (R.fn f d hd).N]
  nd := by rw [(R.fn f d hd).N]; exact S.nd
  vis := fun x h => by
    rw [hs]
    unfold visB at h
    split at h
    · next q => exact .inl q
    · next q => exact .inr (.inl q)
    · next q => exact .inr (.inr q)
    · cases h
  fre := fun x h => by rw [hs]; exact h
  loc := fun x h => by
    rw [hs]
    unfold locB at h
    split at h
    · next q => exact ⟨.inl q, .inl (hf x)⟩
    · next q => exact ⟨.inr q, .inl (hf x)⟩
    · cases h
  glo := fun x h => by
    rw [hs]
    unfold glB at h
    split at h
    · next q => exact q
    · cases h
  calm := fun _ => hcal
  hu := by have := hr.un; omega
  room := fun _ => hr.mono (by omega)
  free := fun x h => by rw [hmg]; exact R.free f x h
  gs := fun i x v e1 e2 hd => by rw [hmg]; exact R.gv i x v (gs_at R e1 e2) hd
  gd := fun i x ks vs e1 e2 => by rw [hmg, hw]; exact R.gd i x ks vs (gs_at R e1 e2)
  cls := by rw [hK]; exact R.cls
  clm := fun c x e => by rw [hmg]; exact R.clm f c x e
  fnm := ⟨R.fnm.1 f, R.fnm.2⟩
  mth := fun h c m e => by
    have e0 : (U.P.fns.map (fun d => d.cl.map fun q => (q.1, q.2.2)))[h]? = some (some (c, m)) := by rw [← R.meth f]; exact e
    rw [List.getElem?_map] at e0
    cases q : U.P.fns[h]? with
    | none => rw [q] at e0; cases e0
    | some d' =>
      rw [q] at e0
      cases hc : d'.cl with
      | none => rw [Option.map_some, hc] at e0; cases e0
      | some t =>
        obtain ⟨c', cn, m'⟩ := t
        rw [Option.map_some, hc] at e0
        cases e0
        have F := R.fn h d' q
        obtain ⟨m1, m2, m3⟩ := F.mth _ cn _ hc
        obtain ⟨fd, _, h3, h4⟩ := IH h d' q
        rw [hmg, hK, hp, hw, hb]
        exact ⟨m1, fd, d'.ps, m2, m3, h3, h4⟩
  rm1 := fun _ _ => hr.mono (by omega)
  fns := fun h x e hnm => by
    obtain ⟨d', h1, h2⟩ := fns_at R e
    have hcl : d'.cl = none := by
      unfold notM at hnm
      rw [meth_at R h1] at hnm
      cases hc : d'.cl with
      | none => rfl
      | some _ => rw [hc] at hnm; cases hnm
    obtain ⟨fd, _, h3, h4⟩ := IH h d' h1
    have F := R.fn h d' h1
    rw [hmg, hK, hp, hw, hb, ← h2]
    exact ⟨fd, d'.ps, F.mg hcl, F.keep, h3, h4⟩
  lam := hl
theorem Inv.forget {X : Cx} {pins : List (Addr × Obj)} {σ : L2.St} {H : Hp} {s : Shared} (I : Inv X pins σ H s) : Inv X pins (List.replicate σ.length none) H s :=
  ⟨I.ok, I.os, I.bare, I.base, (by
    obtain ⟨m, h1, _⟩ := I.loc
    refine ⟨m, h1, fun i x v _ h _ => ?_⟩
    rw [List.getElem?_replicate] at h
    split at h <;> cases h), I.cell, I.free, I.freeC, I.pin, I.hok, by rw [List.length_replicate]; exact I.len⟩
theorem takes_forget {X : Cx} {W : WX} (tk : Takes X W) : Takes X (fun cls d σ H => W cls d (List.replicate X.N.length none) H) := fun u s' h => by
  obtain ⟨a, B, sI, pins, σ, H, cls, d, h1, I, h2, h3, h4, h5, h6, h7, h8⟩ := h
  have I2 := Inv.forget I
  rw [I.len] at I2
  exact tk u s' ⟨a, B, sI, pins, _, H, cls, d, h1, I2, h2, h3, h4, h5, h6, h7, h8⟩
theorem caps_ags {g : Gc} {x0 : V} {ca : Option Addr} {ω0 : Om} {H0 : Hp} {xa : Fx} {ω : Om} {H : Hp} {e : Env} {σ : L2.St} {gs : Option (List Val)} (r : Rel g (some (x0, ca, ω0, H0)) xa ω H e σ) : Ags g none ω H (capT (backs [.clo gs] e)) (capV ca) := by
  intro i t h
  unfold capT at h
  split at h
  · next l hl =>
    have key : ∃ t0, gt e 0 = some t0 ∧ (t0 = .clo (some l) ∨ t0 = .cap (some l)) := by
      cases e with
      | nil => cases hl
      | cons u r' =>
        cases u with
        | none => cases hl
        | some t0 =>
          have hb : backs [.clo gs] (some t0 :: r') = [t0] := by cases r' <;> rfl
          rw [hb] at hl
          refine ⟨t0, rfl, ?_⟩
          unfold capL at hl
          split at hl
          · next l1 q => cases q; cases hl; exact .inl rfl
          · next l1 q => cases q; cases hl; exact .inr rfl
          · cases hl
    obtain ⟨t0, h1, h2⟩ := key
    have cap : CapOk g ω H (.slot 0) ca (some l) := by
      obtain ⟨x, _, q⟩ := r.at0 0 t0 h1
      rcases h2 with h2 | h2
      · subst h2
        obtain ⟨a, w0, z0, q1, _, q3⟩ := q
        cases q1; exact q3
      · subst h2
        obtain ⟨y, a, w0, z0, q1, _, q3⟩ := q
        cases q1; exact q3
    cases i with
    | zero =>
      cases h
      cases ca with
      | none => exact cap.elim
      | some p =>
        obtain ⟨c1, xs, c2, c3⟩ := cap
        exact ⟨.ref p, rfl, p, xs, rfl, c1, c2, c3⟩
    | succ i => simp at h
  · simp at h
/-- a def that calls what it gets -/
theorem gives_of (R : Prg U) {j : Nat} (IH : FnAll U j) {h : Nat} {d : FnD} (hd : U.P.fns[h]? = some d) (hclo : (U.Ms h).clo = true) (hps : d.ps.length = 1) (hnl : (U.Ms h).lam = false) {X : Cx} (hK : X.K = U.g.K) (hmg : X.mg = U.mg) (hp : X.prog = U.prog) (hw : X.w = U.w) (hb : X.base = U.base)
    (hr : Room (3 * j + 3) X.A) {body : List Stmt} {scope : Scope} {cdv : Value} (S : FnScope d.N d.ps scope) (hchk : d.body.chk (U.Ms h) scope body = true) {a q : Str} (ha : d.ps = [a]) :
    LamX.GivesTo X d.N d.name scope (U.g.fad h) cdv body a q (TTof U.g (U.P.call (j + 1)) h) := by
  intro f' c' s H Q tl act hc tt
  obtain ⟨ω, ca, gs, cc, trk, cap0, htl, cp⟩ := tt
  refine ⟨_, pss_sss _ body, ?_⟩
  have hNa : d.N[0]? = some a := by
    have := S.pre
    rw [ha] at this
    have h2 : (d.N.take 1)[0]? = some a := by rw [show d.N.take 1 = [a] from this]; rfl
    simpa using h2
  have hr2 : Room (3 * j + 2) (X.A.deeper (envOfC d.name scope s.heap.objs.size (U.g.fad h) cdv)) := hr.deeper _
  -- the code object is nobody's
  have wc : ω c' = none := by
    cases hw : ω c' with
    | none => rfl
    | some l =>
      rcases trk.any c' (by rw [hw]; exact fun q => nomatch q) with ⟨o, o1, o2⟩ | hm
      · rw [hc] at o1; cases o1; exact absurd rfl (o2.1 _)
      · obtain ⟨p, hp, e⟩ := List.mem_map.mp hm
        obtain ⟨_, ps, t1, _⟩ := trk.tab p hp
        rw [e, hc] at t1; cases t1
  let X' : Cx := (cxOf C8.CX0 X.prog X.w X.K X.mg X.base d.N d.name scope (U.g.fad h) cdv X.A X.stack s H C8.E0).nox
  have C : Cok U.g (U.Ms h) (U.P.ec (U.P.call j) d.ps.length (some cc)) scope (3 * j) X' := cok_fn R hd IH S X' hK rfl rfl (fun _ => rfl) rfl hr2 hmg hp hw hb fun z => by rw [hnl] at z; cases z
  have O2 : CloOk U.g (some (V.ref f', ca, ω, H)) {} (U.Ms h) (U.P.ec (U.P.call j) d.ps.length (some cc)) X' := by
    intro _ c0 hc0
    have e0 : cc = c0 := by
      have : some cc = some c0 := hc0
      cases this; rfl
    subst e0
    refine ⟨rfl, fun x ca0 ω0 H0 e => ?_⟩
    cases e
    refine ⟨a, by rw [(R.fn h d hd).N]; exact hNa, fun p1 p2 pn xe W σ ω1 H1 Q1 gs1 tk hσ kp tr cap1 cl => ?_⟩
    intro pins s1 I
    have hlen : σ.length = d.N.length := I.len
    have tk2 := takes_forget tk
    have P := act _ pn xe (fun cls d0 H' => W cls d0 (List.replicate d.N.length none) H') p1 p2 tk2 (fun _ _ _ _ h => h)
    refine P.run pins s1 σ H1 Q1 I ⟨hσ, (kp c' _ hc wc fun _ z => nomatch z).1, htl gs1 ω1 H1 _ Q1 kp tr cap1 ?_⟩
    rw [← hlen]
    exact cl
  have St : Stx U.g (U.P.ec (U.P.call j) d.ps.length (some cc)) (some (V.ref f', ca, ω, H)) {} (U.Ms h) scope (3 * j) X' := ⟨⟨C, Xok.calm (R.fn h d hd).calm, O2⟩, rfl, rfl, rfl, fun _ => PassesOwn.never, fun _ => rfl, fun _ => hr2.mono (by omega)⟩
  have cp' : CPost U.g none ω H (capV ca) (U.P.call (j + 1) h [.clo gs] (some cc)).caps Q fun _ _ _ => False := cp
  unfold Pg.call at cp'
  rw [hd] at cp'
  dsimp only at cp'
  split at cp'
  · exact cp'.elim
  · next hfx =>
    have r0 : Rel U.g (some (V.ref f', ca, ω, H)) {} ω H ([T.clo gs].map some ++ List.replicate (d.N.length - d.ps.length) none) (L2.start d.N [V.ref f']) := by
      refine ⟨by unfold L2.start; simp [hps], fun i t hi => ?_, fun _ hj => (by cases hj), trk⟩
      have ht := gt_args hi
      cases i with
      | zero =>
        have : T.clo gs = t := by simpa using ht
        subst this
        exact ⟨.ref f', fun _ => start_get rfl, ca, ω, H, rfl, Kp.refl, cap0⟩
      | succ i => simp at ht
    refine ss_ok d.body St (R.exn h X' _ _ _ hK hmg hp hw hb) (fun _ _ z => by cases z) body hchk ω H _ _ _ (fun _ _ _ _ => False) r0 takes0 ?_
    show SPost U.g _ _ ω H (d.body.ev (U.P.ec (U.P.call j) d.ps.length (some cc)) ([T.clo gs].map some ++ List.replicate (d.N.length - d.ps.length) none)) _ _
    cases hbod : d.body.ev (U.P.ec (U.P.call j) d.ps.length (some cc)) ([T.clo gs].map some ++ List.replicate (d.N.length - d.ps.length) none) with
    | nx e => rw [hbod] at cp'; exact fun σ' ω' H' x r' => cp' .non ω' H' x r'.trk (caps_ags r') rfl
    | rt t e =>
      rw [hbod] at cp'
      have cp2 : CPost U.g none ω H (capV ca) (CR.caps (match t.arg with
        | true => .ok t (backs [.clo gs] e)
        | false => .no)) Q fun _ _ _ => False := cp'
      cases ht : t.arg with
      | false => rw [ht] at cp2; exact cp2.elim
      | true =>
        rw [ht] at cp2
        exact fun y σ' ω' H' x r' t' => cp2 y ω' H' x r'.trk (caps_ags r') (t'.arg ht)
    | ex c e => rw [hbod] at cp'; exact fun cls d ω' H' σ' x r' rx => cp' cls d ω' H' x r'.trk (caps_ags r') rx
    | bk e => rw [hbod] at cp'; exact cp'.elim
    | ct e => rw [hbod] at cp'; exact cp'.elim
    | no => rw [hbod] at cp'; exact cp'.elim
theorem fn_step (R : Prg U) {k : Nat} (IH : FnAll U k) (IHj : ∀ j, j < k → FnAll U j) : FnAll U (k + 1) := by
  intro f d hd
  have F := R.fn f d hd
  obtain ⟨params, body, scope, dV, kV, doc, pm, cdv, ct, oc, an, od, osl, e1, e2, S, e4, e5, e6⟩ := F.ex
  refine ⟨_, ⟨oc, od, osl, e1⟩, e4, ?_⟩
  refine fn_of (k := 3 * k + 2) (N := d.N) e1 e2 S (fun vs H Q E h => ?_) fun A outer s H vs Q E hr h => ?_
  · obtain ⟨ts, ω, h1, _, _, h4⟩ := h
    unfold Pg.call at h4
    rw [hd] at h4
    dsimp only at h4
    split at h4
    · exact h4.elim
    · next q => rw [h1]; exact Nat.eq_of_beq_eq_true (and_t q).1
  · obtain ⟨ts, ω, h1, h2, h3, h4⟩ := h
    unfold Pg.call at h4
    rw [hd] at h4
    dsimp only at h4
    split at h4
    · exact h4.elim
    · next q =>
      obtain ⟨hl, hfx⟩ := and_t q
      have hl := Nat.eq_of_beq_eq_true hl
      refine ⟨_, pss_sss _ body, ?_⟩
      let X : Cx := cxOf (L2.CX U.prog U.w) U.prog U.w U.g.K U.mg U.base d.N d.name scope (U.g.fad f) cdv A outer s H E
      have C : Cok U.g (U.Ms f) (U.P.ec (U.P.call k) d.ps.length none) scope (3 * k) X := cok_fn R hd IH S X rfl rfl rfl (fun _ => rfl) rfl hr rfl rfl rfl rfl fun z => by
        refine ⟨hr, ?_, fun h x hx hla => ?_⟩
        · obtain ⟨c, P, q1, q2, q3, q4⟩ := e6 z
          exact ⟨c, P, q2, q1, q3, q4⟩
        · obtain ⟨d', g1, g2⟩ := fns_at R hx
          obtain ⟨l1, l2, l3⟩ := R.lamf f h hla
          obtain ⟨hcl, a, l4, l5⟩ := l3 d' g1
          have hnm : d'.nm = d'.name := by unfold FnD.nm; rw [hcl]
          have F' := R.fn h d' g1
          obtain ⟨params', body', scope', dV', kV', doc', pm', cdv', ct', oc', an', od', osl', e1', e2', S', e4', e5', _⟩ := F'.ex
          rw [hnm] at e1' e4'
          obtain ⟨p1, p2⟩ := and_t l5
          have hNa : d'.N[0]? = some a := by
            have := S'.pre
            rw [l4] at this
            have h2 : (d'.N.take 1)[0]? = some a := by rw [show d'.N.take 1 = [a] from this]; rfl
            simpa using h2
          subst g2
          refine ⟨a, params', body', scope', dV', kV', doc', pm', cdv', ct', oc', an', od', osl', d'.N, F'.mg hcl, F'.keep, e1', e2', l4 ▸ e4', l4 ▸ S', hNa, ?_, by simpa using p1, by simpa using p2, ?_⟩
          · rcases S'.par a (by rw [l4]; exact List.mem_singleton_self a) with z | z
            · exact .inl z
            · exact .inr (.inl z)
          · cases k with
            | zero =>
              intro f' c' s H Q tl act hc tt
              obtain ⟨_, _, _, _, _, _, _, cp⟩ := tt
              exact cp.elim
            | succ j => exact gives_of R (IHj j (Nat.lt_succ_self j)) g1 l1 (by rw [l4]; rfl) l2 rfl rfl rfl rfl rfl (hr.mono (by omega)) S' e5' l4
      have St : Stx U.g (U.P.ec (U.P.call k) d.ps.length none) none { F := owned ts, s0 := L2.start d.N vs } (U.Ms f) scope (3 * k) X :=
        ⟨⟨C, Xok.calm F.calm, fun _ c hc => by cases hc⟩, rfl, rfl, rfl, fun _ => passes_of rfl, fun _ => rfl, fun _ => hr.mono (by omega)⟩
      have r0 : Rel U.g none { F := owned ts, s0 := L2.start d.N vs } ω H (ts.map some ++ List.replicate (d.N.length - d.ps.length) none) (L2.start d.N vs) := by
        refine ⟨by unfold L2.start; simp [h1, hl], fun i t hi => ?_, fun _ _ => rfl, h3⟩
        obtain ⟨x, w1, w2⟩ := h2 i t (gt_args hi)
        exact ⟨x, fun _ => start_get w1, w2.nf rfl⟩
      exact ss_ok d.body St (R.exn f X _ _ _ rfl rfl rfl rfl rfl) (fun j hj hm => by
        obtain ⟨t, t1, t2⟩ := mem_owned.mp hm
        have := fix_owned hfx j t t1 t2
        rw [Nat.zero_add] at this
        exact this hj) body e5 ω H _ _ _ _ r0 (takes_of rfl rfl rfl rfl) (spost_of h2 h4)
theorem fn_zero (R : Prg U) : FnAll U 0 := by
  intro f d hd
  have F := R.fn f d hd
  obtain ⟨params, body, scope, dV, kV, doc, pm, cdv, ct, oc, an, od, osl, e1, e2, S, e4, e5, e6⟩ := F.ex
  exact ⟨_, ⟨oc, od, osl, e1⟩, e4, ⟨fun vs H Q E h => (by obtain ⟨_, _, _, _, _, h4⟩ := h; exact h4.elim), fun A outer s H args us vs Q E _ _ _ _ h => (by obtain ⟨_, _, _, _, _, h4⟩ := h; exact h4.elim)⟩⟩
theorem fn_all (R : Prg U) : ∀ k, FnAll U k ∧ ∀ j, j < k → FnAll U j
  | 0 => ⟨fn_zero R, fun j h => absurd h (Nat.not_lt_zero j)⟩
  | k + 1 => by
    obtain ⟨h1, h2⟩ := fn_all R k
    refine ⟨fn_step R h1 h2, fun j hj => ?_⟩
    rcases Nat.lt_or_eq_of_le (Nat.le_of_lt_succ hj) with h | h
    · exact h2 j h
    · rw [h]; exact h1
end
end Py
set_option maxHeartbeats 1000000
namespace Py
open PySem PySem.Spec PyProof.Rows L2
/-! ### from what the head tells to what is known of a program -/
def ndS : List Str → Bool
  | [] => true
  | x :: r => !(r.any fun y => decide (y = x)) && ndS r
theorem ndS_ok : ∀ {l : List Str}, ndS l = true → l.Nodup
  | [], _ => List.nodup_nil
  | x :: r, h => by
    obtain ⟨h1, h2⟩ := and_t h
    refine List.nodup_cons.mpr ⟨fun hm => ?_, ndS_ok h2⟩
    have : (r.any fun y => decide (y = x)) = true := List.any_eq_true.mpr ⟨x, hm, decide_eq_true rfl⟩
    rw [this] at h1
    cases h1
def scB (N P : List Str) (sc : Scope) : Bool := (sc.kind == .function && (!sc.isCoroutine && !sc.isGenerator)) && ((ndS N && decide (N.take P.length = P)) && ((P.all fun x => locB sc x) && sc.names.all fun y => !(y.2 == .free)))
theorem scB_ok {N P : List Str} {sc : Scope} (h : scB N P sc = true) : FnScope N P sc := by
  obtain ⟨h1, h2⟩ := and_t h
  obtain ⟨h1, h3⟩ := and_t h1
  obtain ⟨h3, h4⟩ := and_t h3
  obtain ⟨h2, h5⟩ := and_t h2
  obtain ⟨h2, h6⟩ := and_t h2
  obtain ⟨h5, h7⟩ := and_t h5
  refine ⟨eq_of_beq h1, by simpa using h3, by simpa using h4, ndS_ok h2, of_decide_eq_true h6, fun x hx => ?_, fun y hy q => ?_⟩
  · have := List.all_eq_true.mp h5 x hx
    unfold locB at this
    split at this
    · next q => exact .inl q
    · next q => exact .inr q
    · cases this
  · have := List.all_eq_true.mp h7 y hy
    rw [q] at this
    cases this
/-- a def's IR is its text -/
structure DefOk (d : FnD) (D : He.DefD) (M : Nm) : Prop where
  eq : D = ⟨d.at_, d.nm, d.name, D.params, D.body, D.scope, [], []⟩
  sc : scB d.N d.ps D.scope = true
  bind : ∀ (kV doc pm : Value) (an : Option Addr) (cdv ct : Value) (us : List Value), us.length = d.ps.length → bindArgs (PySem.W.fnOf d.nm d.name D.params D.body D.scope .none kV doc pm an cdv ct) ⟨us, []⟩ = pure (d.ps.zip us)
  chk : d.body.chk M D.scope D.body = true
  N : M.N = d.N
  calm : M.calm = true
theorem ffact {U : Wd} {fa : List He.Fa} {fn : List He.DefD} {h : Heap} {f : Nat} {d : FnD} {D : He.DefD} (o : DefOk d D (U.Ms f)) (c : He.SaysD fa fn U.g.K) (X : U.g.K.In h) (G : h.Ns mainGlobals U.mg) (hD : D ∈ fn) (hg : d.cl = none → He.Fa.glo d.name ∈ fa) (hme : ∀ (c : Nat) (cn m : Str), d.cl = some (c, cn, m) → c < U.g.ncl ∧ Meth U.g.K (U.g.cls c) m (U.g.fad f) ∧ (m = ("__init__" : Str) → L2.Mk U.g.K (U.g.cls c) (U.g.fad f))) (hlc : (U.Ms f).lam = true → d.cl = none)
    (hf : U.g.fad f = He.fAd U.g.K d.at_)
    (hl : (U.Ms f).lam = true → ∀ cd, He.codeOf U.g.K (d.name, none) = cd → LamX.TabB U.base U.mg cd (He.tabOf U.g.K cd) ∧ (He.tabOf U.g.K cd, (d.name ++ ".<locals>." : Str) ++ "<lambda>") ∈ U.g.T ∧ ∀ p ∈ U.g.T, p.1 = He.tabOf U.g.K cd → p.2 = (d.name ++ ".<locals>." : Str) ++ "<lambda>") : FnFact U f d := by
  obtain ⟨fd, F⟩ := c.defs hD
  have hm : d.cl = none → U.mg d.name = some (.ref (He.fAd U.g.K d.at_)) := fun q => by
    have := He.glo_ok X G (c.facts (hg q))
    rw [this]; unfold FnD.at_; rw [q]; rfl
  rw [o.eq] at F
  have F' : FunD U.g.K d.nm d.name D.params D.body D.scope [] [] (He.fAd U.g.K d.at_) fd := F
  have hb := F'.bindsN (ps := d.ps) o.bind
  obtain ⟨oc, od, dV, kV, doc, pm, an, cdv, ct, osl, rfl, lk, hcd, hdv, _⟩ := F'.ex
  have hk := F'.kp
  refine ⟨⟨D.params, D.body, D.scope, dV, kV, doc, pm, cdv, ct, oc, an, od, osl, by rw [hf]; exact lk, hcd, scB_ok o.sc, hb, o.chk, fun q => ?_⟩, fun q => by rw [hf]; exact hm q, hme, by rw [hf]; exact hk, o.N, o.calm⟩
  obtain ⟨cc, rfl⟩ := He.codeIn_ref hcd
  have eat : d.at_ = (d.name, none) := by unfold FnD.at_; rw [hlc q]
  rw [eat] at lk
  have e : He.codeOf U.g.K (d.name, none) = cc := He.codeOf_eq (p := (d.name, none)) lk rfl
  obtain ⟨q1, q2, q3⟩ := hl q cc e
  exact ⟨cc, _, rfl, q1, q2, q3⟩
/-! ### constants -/
mutual
def valB (K : PySem.W.Frag) : Nat → Val → Value → Bool
  | _, .none, u => match u with | .none => true | _ => false
  | _, .bool b, u => match u with | .bool c => b == c | _ => false
  | _, .int i, u => match u with | .int j _ => decide (i = j) | _ => false
  | _, .str s, u => match u with | .str z _ => decide (z.cps.toList = s) | _ => false
  | n, .tup l, u => match u with
    | .ref a => match K.lookup a with
      | some ⟨c, _, .seq its _, _⟩ => c == .type "tuple" && (Nat.ble its.size sizeLine && valsB K n l its.toList)
      | _ => false
    | _ => false
  | _, _, _ => false
def valsB (K : PySem.W.Frag) : Nat → List Val → List Value → Bool
  | _, [], us => match us with | [] => true | _ => false
  | n, v :: l, us => match us with | u :: r => valB K n v u && valsB K n l r | _ => false
end
mutual
theorem valB_ok {g : Gc} : ∀ (n : Nat) (v : Val) (u : Value), valB g.K n v u = true → ∃ y, RelV y u ∧ ∀ ω H, RV g ω H v y
  | n, .none, u, h => by
    simp only [valB] at h
    split at h
    · exact ⟨.non, rfl, fun _ _ => rfl⟩
    · cases h
  | n, .bool b, u, h => by
    simp only [valB] at h
    split at h
    · next c =>
      obtain rfl : b = c := eq_of_beq h
      exact ⟨.bl b, rfl, fun _ _ => rfl⟩
    · cases h
  | n, .int i, u, h => by
    simp only [valB] at h
    split at h
    · next j t =>
      obtain rfl : i = j := of_decide_eq_true h
      exact ⟨.int i, ⟨t, rfl⟩, fun _ _ => rfl⟩
    · cases h
  | n, .str s, u, h => by
    simp only [valB] at h
    split at h
    · next z t =>
      obtain rfl : z.cps.toList = s := of_decide_eq_true h
      exact ⟨.str z, ⟨t, rfl⟩, fun _ _ => rfl⟩
    · cases h
  | n, .tup l, u, h => by
    simp only [valB] at h
    split at h
    · next a =>
      split at h
      · next c od its m sl hk =>
        obtain ⟨h1, h2⟩ := and_t h
        obtain ⟨h2, h3⟩ := and_t h2
        obtain ⟨ys, q1, q2⟩ := valsB_ok n l its.toList h3
        exact ⟨.ref a, rfl, fun ω H => ⟨a, ys, rfl, .inr ⟨_, its, m, hk, eq_of_beq h1, rfl, Nat.le_of_ble_eq_true h2, q1⟩, q2 ω H⟩⟩
      · cases h
    · cases h
  | n, .lst l, u, h => by simp only [valB] at h; cases h
  | n, .lck l, u, h => by simp only [valB] at h; cases h
  | n, .dct _ _, u, h => by simp only [valB] at h; cases h
  | n, .fn _, u, h => by simp only [valB] at h; cases h
theorem valsB_ok {g : Gc} : ∀ (n : Nat) (l : List Val) (us : List Value), valsB g.K n l us = true → ∃ ys, Vals ys us ∧ ∀ ω H, RVs g ω H l ys
  | n, [], us, h => by
    simp only [valsB] at h
    split at h
    · exact ⟨[], .nil, fun _ _ => rfl⟩
    · cases h
  | n, v :: l, us, h => by
    simp only [valsB] at h
    split at h
    · next u r =>
      obtain ⟨h1, h2⟩ := and_t h
      obtain ⟨y, q1, q2⟩ := valB_ok n v u h1
      obtain ⟨ys, q3, q4⟩ := valsB_ok n l r h2
      exact ⟨y :: ys, .cons q1 q3, fun ω H => ⟨y, ys, rfl, q2 ω H, q4 ω H⟩⟩
    · cases h
end
def entB (K : PySem.W.Frag) : List Val → List Val → List DictEntry → Bool
  | [], [], [] => true
  | .str k :: ks, v :: vs, e :: es => (match e.key with | .str z _ => decide (z.cps.toList = k) | _ => false) && (valB K 0 v e.val && entB K ks vs es)
  | _, _, _ => false
def KDe (g : Gc) (ks vs : List Val) (l : List DictEntry) : Prop := ∀ s : List Nat, match lookK (.str s) ks vs with
  | some v => ∃ u y, (l.find? fun e => Value.isStrOf ⟨s.toArray⟩ e.key).map (·.val) = some u ∧ RelV y u ∧ ∀ ω H, RV g ω H v y
  | none => (l.find? fun e => Value.isStrOf ⟨s.toArray⟩ e.key).map (·.val) = none
theorem entB_ok {g : Gc} : ∀ {ks vs : List Val} {l : List DictEntry}, entB g.K ks vs l = true → KDe g ks vs l
  | [], [], [], _ => fun s => rfl
  | .str k :: ks, v :: vs, e :: es, h => by
    obtain ⟨h1, h2⟩ := and_t h
    obtain ⟨h2, h3⟩ := and_t h2
    have ih := entB_ok h3
    intro s
    have ih' := ih s
    split at h1
    · next z t hz =>
      have hk : z.cps.toList = k := of_decide_eq_true h1
      have hz' : Value.isStrOf ⟨s.toArray⟩ e.key = (k == s) := by
        rw [hz]
        show (z == (⟨s.toArray⟩ : Str)) = (k == s)
        have : z = ⟨k.toArray⟩ := by rw [← hk]
        rw [this, Bool.eq_iff_iff, beq_iff_eq, beq_iff_eq]
        exact str_eq
      have e1 : lookK (.str s) (.str k :: ks) (v :: vs) = (match (k == s) with | true => some v | false => lookK (.str s) ks vs) := rfl
      rw [e1, List.find?_cons, hz']
      cases hq : (k == s) with
      | true =>
        obtain ⟨y, q1, q2⟩ := valB_ok 0 v e.val h2
        exact ⟨e.val, y, rfl, q1, q2⟩
      | false => exact ih'
    · cases h1
  | [], [], _ :: _, h => by cases h
  | [], _ :: _, _, h => by cases h
  | .str _ :: _, [], _, h => by cases h
  | .str _ :: _, _ :: _, [], h => by cases h
  | .none :: _, _, _, h => by cases h
  | .bool _ :: _, _, _, h => by cases h
  | .int _ :: _, _, _, h => by cases h
  | .tup _ :: _, _, _, h => by cases h
  | .lst _ :: _, _, _, h => by cases h
  | .lck _ :: _, _, _, h => by cases h
  | .dct _ _ :: _, _, _, h => by cases h
  | .fn _ :: _, _, _, h => by cases h
def dctB (K : PySem.W.Frag) (a : Addr) (ks vs : List Val) : Bool := match K.lookup a with
  | some ⟨_, _, .dict es _, _⟩ => entB K ks vs es.toList
  | _ => false
theorem dctB_ok {g : Gc} {w : World} {a : Addr} {ks vs : List Val} {es : Array DictEntry} {n : Nat} (h : dctB g.K a ks vs = true) (kd : KDict g.K w a es n) : KD g w a ks vs := by
  unfold dctB at h
  rw [kd.at_] at h
  have h' : entB g.K ks vs es.toList = true := h
  refine ⟨es, n, kd.at_, kd.lit, kd.low, fun s => ?_⟩
  have := entB_ok h' s
  unfold findBy
  have e : (es.find? fun e => Value.isStrOf ⟨s.toArray⟩ e.key) = es.toList.find? fun e => Value.isStrOf ⟨s.toArray⟩ e.key := by
    cases es; simp
  rw [e]
  exact this
def gvB (K : PySem.W.Frag) (gs : List (Str × Val)) : Bool := gs.all fun p => match p.2 with
  | .dct ks vs => eqI K p.1 && dctB K (He.ga K p.1) ks vs
  | v => match PySem.W.nsIn K mainGlobals p.1 with
    | some (some u) => valB K 0 v u
    | _ => false
where eqI (K : PySem.W.Frag) (x : Str) : Bool := He.eqO (PySem.W.nsIn K mainGlobals x) (some (some (.ref (He.ga K x))))
theorem gvB_ok {g : Gc} {h : Heap} {mg : Str → Option Value} {gs : List (Str × Val)} (X : g.K.In h) (G : h.Ns mainGlobals mg) (hg : gvB g.K gs = true) {i : Nat} {x : Str} {v : Val} (e : gs[i]? = some (x, v)) (hd : v.isD = false) : ∃ u y, mg x = some u ∧ RelV y u ∧ ∀ ω H, RV g ω H v y := by
  have h1 := List.all_eq_true.mp hg (x, v) (List.mem_of_getElem? e)
  dsimp only at h1
  split at h1
  · cases hd
  · split at h1
    · next u hu =>
      obtain ⟨y, q1, q2⟩ := valB_ok 0 v u h1
      exact ⟨u, y, PySem.W.mg_of X G hu, q1, q2⟩
    · cases h1
theorem gvB_dct {g : Gc} {h : Heap} {w : World} {mg : Str → Option Value} {gs : List (Str × Val)} (X : g.K.In h) (G : h.Ns mainGlobals mg) (hg : gvB g.K gs = true) {i : Nat} {x : Str} {ks vs : List Val} (e : gs[i]? = some (x, .dct ks vs))
    (hk : ∃ es n, KDict g.K w (He.ga g.K x) es n) : ∃ p, mg x = some (.ref p) ∧ KD g w p ks vs := by
  have h1 := List.all_eq_true.mp hg (x, .dct ks vs) (List.mem_of_getElem? e)
  dsimp only at h1
  obtain ⟨h1, h2⟩ := and_t h1
  obtain ⟨es, n, kd⟩ := hk
  exact ⟨_, PySem.W.mg_of X G (He.eqO_ok h1), dctB_ok h2 kd⟩
/-! ### error classes: the own ones, then built-in ones -/
def exN (own : List Str) (bt : List String) : List Str := own ++ bt.map fun s => Str.ofString s
def cvK (K : PySem.W.Frag) (own : List Str) (bt : List String) (d : Nat) : Value := match own[d]? with
  | some x => .ref (He.ga K x)
  | none => match bt[d - own.length]? with
    | some s => .type s
    | none => .none
def excB (K : PySem.W.Frag) (own : List Str) (bt : List String) (sub : Nat → Nat → Bool) (inis : List Nat) : Bool := (List.range own.length).all fun c' => match own[c']? with
  | none => false
  | some x => let C := He.ga K x
    (He.eqO (PySem.W.nsIn K mainGlobals x) (some (some (.ref C))) && ((inis.contains c' || (He.Fa.exc x).ok K) && (decide (PySem.W.subIn K (.ref C) (.type "BaseException") = some true) && PySem.W.hasDictIn K C))) && (((decide (PySem.W.findIn K (.ref C) "__getattribute__" = some (some (.builtin "BaseException.__getattribute__"))) && decide (PySem.W.findIn K (.ref C) "__getattr__" = some none)) &&
      ((decide (PySem.W.findIn K (.ref C) "__class__" = some (some (.builtin "object.__class__"))) && decide (PySem.W.specialIn K (.builtin "object.__class__") "__get__" = some (some (.builtin "getset_descriptor.__get__")))) &&
        (decide (PySem.W.takesIn K (.builtin "object.__class__") = some true) && decide (PySem.W.mroIn K C (.type "object") = some true)))) &&
    ((List.range own.length).all (fun c => match own[c]? with | none => false | some y => decide (PySem.W.exmOne K (.ref C) (.ref (He.ga K y)) = some (sub c' c))) && (List.range (own.length + bt.length)).all (fun d => decide (PySem.W.kitOne K (.ref C) (cvK K own bt d) = some (sub c' d)))))
structure ExFacts (K : PySem.W.Frag) (own : List Str) (bt : List String) (sub : Nat → Nat → Bool) (inis : List Nat) (c' : Nat) (x : Str) : Prop where
  at_ : PySem.W.nsIn K mainGlobals x = some (some (.ref (He.ga K x)))
  exc : inis.contains c' = false → (He.Fa.exc x).ok K = true
  ec : ExcC K (He.ga K x)
  exm : ∀ (c : Nat) (y : Str), own[c]? = some y → PySem.W.exmOne K (.ref (He.ga K x)) (.ref (He.ga K y)) = some (sub c' c)
  kit : ∀ d, d < own.length + bt.length → PySem.W.kitOne K (.ref (He.ga K x)) (cvK K own bt d) = some (sub c' d)
theorem excB_ok {K : PySem.W.Frag} {own : List Str} {bt : List String} {sub : Nat → Nat → Bool} {inis : List Nat} (h : excB K own bt sub inis = true) {c' : Nat} {x : Str} (e : own[c']? = some x) : ExFacts K own bt sub inis c' x := by
  have hlt := (List.getElem?_eq_some_iff.mp e).1
  have h1 := List.all_eq_true.mp h c' (List.mem_range.mpr hlt)
  rw [e] at h1
  dsimp only at h1
  obtain ⟨h1, h2⟩ := and_t h1
  obtain ⟨h1, h3⟩ := and_t h1
  obtain ⟨h3, hd⟩ := and_t h3
  obtain ⟨hsub, hd⟩ := and_t hd
  obtain ⟨h2, h4⟩ := and_t h2
  obtain ⟨h2, h5⟩ := and_t h2
  obtain ⟨a1, a2⟩ := and_t h2
  obtain ⟨h5, h6⟩ := and_t h5
  obtain ⟨a3, a4⟩ := and_t h5
  obtain ⟨a5, a6⟩ := and_t h6
  obtain ⟨h4, h7⟩ := and_t h4
  refine ⟨He.eqO_ok h1, fun q => by rw [q, Bool.false_or] at h3; exact h3, ⟨of_decide_eq_true a1, of_decide_eq_true a2, of_decide_eq_true hsub, hd, of_decide_eq_true a3, of_decide_eq_true a4, of_decide_eq_true a5, of_decide_eq_true a6⟩, fun c y hc => ?_, fun d hd => ?_⟩
  · have := List.all_eq_true.mp h4 c (List.mem_range.mpr (List.getElem?_eq_some_iff.mp hc).1)
    rw [hc] at this
    exact of_decide_eq_true this
  · exact of_decide_eq_true (List.all_eq_true.mp h7 d (List.mem_range.mpr hd))
/-! ### error classes with an own __init__ -/
structure IniD where
  c : Nat
  x : Str
  f : Str
  p0 : Str
  p1 : Str
  D : He.DefD
def oexB (K : PySem.W.Frag) (x f : Str) : Bool := let C := He.ga K x
  (match K.lookup C with
    | some ⟨.type "type", _, .cls cd, sl⟩ => (match cd.mro, sl.toList with
      | .ref C' :: bm, [_, _, _, _, some (.builtin m), _] => (C' == C && m == "ValueError.__new__") && (cd.hasDict && (!cd.hasDel && PySem.HandSPX.refsVE bm))
      | _, _ => false)
    | _ => false) &&
  (((decide (PySem.W.findIn K (.ref C) "__setattr__" = some (some (.builtin "object.__setattr__"))) && decide (PySem.W.subIn K (.ref C) (.type "BaseException") = some true)) && (decide (PySem.W.typeIn K (.ref C) = some (.type "type")) && PySem.W.keepIn K (.ref C))) &&
    ((decide (PySem.W.findIn K (.ref C) "__init__" = some (some (.ref (He.ma K C "__init__")))) && decide (PySem.W.typeIn K (.ref (He.ma K C "__init__")) = some (.type "function"))) && decide (PySem.W.findIn K (.ref C) f = some none)))
theorem oexB_ok {K : PySem.W.Frag} {x f : Str} (h : oexB K x f = true) : OexC K (He.ga K x) ∧ PySem.W.findIn K (.ref (He.ga K x)) "__init__" = some (some (.ref (He.ma K (He.ga K x) "__init__"))) ∧ PySem.W.typeIn K (.ref (He.ma K (He.ga K x) "__init__")) = some (.type "function") ∧ PySem.W.findIn K (.ref (He.ga K x)) f = some none := by
  unfold oexB at h
  dsimp only at h
  obtain ⟨h1, h2⟩ := and_t h
  obtain ⟨h2, h3⟩ := and_t h2
  obtain ⟨h2, h4⟩ := and_t h2
  obtain ⟨h2, h5⟩ := and_t h2
  obtain ⟨h4, h6⟩ := and_t h4
  obtain ⟨h3, h7⟩ := and_t h3
  obtain ⟨h3, h8⟩ := and_t h3
  refine ⟨⟨?_, of_decide_eq_true h2, of_decide_eq_true h5, of_decide_eq_true h4, h6⟩, of_decide_eq_true h3, of_decide_eq_true h8, of_decide_eq_true h7⟩
  split at h1
  · next dd cd sl ho =>
    split at h1
    · next C' bm k0 k1 k2 k3 m k5 hm hs =>
      obtain ⟨b1, b2⟩ := and_t h1
      obtain ⟨a1, a3⟩ := and_t b1
      obtain ⟨a2, b4⟩ := and_t b2
      obtain ⟨a4, a5⟩ := and_t b4
      clear h1 b1 b2 b4
      obtain ⟨nm, bs, mro, ns, qn, hd, sn, sub, ab, col, del⟩ := cd
      dsimp only at hm a2 a4
      obtain rfl : C' = He.ga K x := eq_of_beq a1
      obtain rfl : m = "ValueError.__new__" := eq_of_beq a3
      subst hm
      obtain rfl : hd = true := a2
      obtain rfl : del = false := by simpa using a4
      have hsl : sl = #[k0, k1, k2, k3, some (.builtin "ValueError.__new__"), k5] := by
        obtain ⟨l⟩ := sl
        dsimp only at hs
        rw [hs]
      subst hsl
      exact ⟨nm, qn, ns, bs, bm, sn, sub, ab, col, dd, k0, k1, k2, k3, k5, ho, a5⟩
    · cases h1
  · cases h1
/-- the text of such an __init__ -/
def iniB (d : IniD) : Bool := (scB [d.p0, d.p1] [d.p0, d.p1] d.D.scope && decide (d.D.at_ = (d.x, some ("__init__" : Str)))) && (match d.D.body with
  | [.Assign [.Attribute (.Name y0 _) f _] (.Name y1 _) _] => (decide (y0 = d.p0) && decide (y1 = d.p1)) && (decide (f = d.f) && ((plainNm y0 && plainNm y1) && (visB d.D.scope y0 && visB d.D.scope y1)))
  | _ => false)
theorem visB_ok {sc : Scope} {x : Str} (h : visB sc x = true) : Vis sc x := by
  unfold visB at h
  split at h
  · next q => exact .inl q
  · next q => exact .inr (.inl q)
  · next q => exact .inr (.inr q)
  · cases h
theorem ini_ok {prog : Program} {w : World} {mg : Str → Option Value} {base : Heap} {K : PySem.W.Frag} {d : IniD} {fd : FuncData} (h : iniB d = true) (hx : oexB K d.x d.f = true) (F : FunD K d.D.name d.D.qual d.D.params d.D.body d.D.scope [] [] (He.fAd K d.D.at_) fd)
    (hb : ∀ (kV doc pm : Value) (an : Option Addr) (cdv ct : Value) (us : List Value), us.length = 2 → bindArgs (PySem.W.fnOf d.D.name d.D.qual d.D.params d.D.body d.D.scope .none kV doc pm an cdv ct) ⟨us, []⟩ = pure ([d.p0, d.p1].zip us)) :
    ∃ (fI : Addr) (fd : FuncData) (ps : List Str), PySem.W.findIn K (.ref (He.ga K d.x)) "__init__" = some (some (.ref fI)) ∧ PySem.W.typeIn K (.ref fI) = some (.type "function") ∧ FnOk prog w K mg base (L2.CX prog w) 1 fI fd ps (spI (He.ga K d.x) d.f) ∧ Binds K fd ps [] := by
  obtain ⟨h1, h2⟩ := and_t h
  obtain ⟨h1, h3⟩ := and_t h1
  obtain ⟨o1, o2, o3, o4⟩ := oexB_ok hx
  have eA : He.fAd K d.D.at_ = He.ma K (He.ga K d.x) "__init__" := by rw [of_decide_eq_true h3]; rfl
  have S := scB_ok h1
  rw [eA] at F
  refine ⟨_, fd, [d.p0, d.p1], o2, o3, F.ok (N := [d.p0, d.p1]) S (fun vs H Q E q => ?_) (fun cdv A outer s H vs Q E hr q => ?_), F.bindsN hb⟩
  · obtain ⟨a, y, rfl, _⟩ := q; rfl
  · obtain ⟨a, y, rfl, ha, hq⟩ := q
    revert h2
    generalize d.D.body = body
    intro h2
    split at h2
    · next y0 q0 f q1 y1 q2 pos =>
      obtain ⟨k1, k2⟩ := and_t h2
      obtain ⟨k3, k4⟩ := and_t k1
      obtain ⟨k5, k6⟩ := and_t k2
      obtain ⟨k7, k8⟩ := and_t k6
      obtain ⟨k9, k10⟩ := and_t k7
      obtain ⟨h7, h9⟩ := and_t k8
      obtain ⟨n1, n2⟩ := and_t k9
      obtain ⟨n3, n4⟩ := and_t k10
      obtain rfl := of_decide_eq_true k3
      obtain rfl := of_decide_eq_true k4
      obtain rfl := of_decide_eq_true k5
      refine ⟨_, pss_one (ps_ost (pe_var (i := 0) rfl (visB_ok h7) (by simpa using n1) (by simpa using n2)) (pe_var (i := 1) rfl (visB_ok h9) (by simpa using n3) (by simpa using n4))), ?_⟩
      exact ⟨y, rfl, .ref a, rfl, a, He.ga K d.x, rfl, o1, o4, .inl ⟨ha, fun dx hdx hne => hq dx hdx hne⟩⟩
    · cases h2
theorem exn_of {g : Gc} {M : Nm} {cx : EC} {X : Cx} {h : Heap} {own : List Str} {bt : List String} {inis : List Nat} (hK : X.K = g.K) (KX : g.K.In h) (G : h.Ns mainGlobals X.mg) (hx : excB g.K own bt cx.sub inis = true) (hM : M.exs = exN own bt) (hr : ∀ c, M.rais.contains c = true → c < own.length) (hz : ∀ c, M.raz.contains c = true → c < own.length ∧ inis.contains c = false) (hi : ∀ (c : Nat) (x : Str), M.exs[c]? = some x → M.raia.contains c = true → g.ok c = true ∧ X.mg x = some (.ref (g.cad c)) ∧ OexC X.K (g.cad c) ∧ ∃ (fI : Addr) (fd : FuncData) (ps : List Str), PySem.W.findIn X.K (.ref (g.cad c)) "__init__" = some (some (.ref fI)) ∧ PySem.W.typeIn X.K (.ref fI) = some (.type "function") ∧ FnOk X.prog X.w X.K X.mg X.base (L2.CX X.prog X.w) 1 fI fd ps (spI (g.cad c) (g.fld c)) ∧ Binds X.K fd ps [])
    (hok : ∀ c, g.ok c = decide (c < own.length)) (hcad : ∀ c x, own[c]? = some x → g.cad c = He.ga g.K x) (hbt : ∀ s ∈ bt, X.mg (Str.ofString s) = none ∧ bootBuiltins (Str.ofString s) = some (.type s) ∧ Str.ofString s ≠ "__name__") : Exn g M cx X := by
  have ownAt : ∀ c, c < own.length → ∃ x, own[c]? = some x := fun c hc => ⟨_, List.getElem?_eq_getElem hc⟩
  have exAtN : ∀ c, c < own.length → M.exs[c]? = own[c]? := fun c hc => by rw [hM]; unfold exN; rw [List.getElem?_append_left hc]
  refine ⟨hi, fun c x e1 e2 => ?_, fun c x e1 e2 => ?_, fun c' c e1 e2 => ?_, fun c' e1 => ?_⟩
  · have hc := hr c e2
    rw [exAtN c hc] at e1
    rw [hcad c x e1]
    exact PySem.W.mg_of KX G (excB_ok hx e1).at_
  · obtain ⟨hc, hni⟩ := hz c e2
    rw [exAtN c hc] at e1
    have F := excB_ok hx e1
    obtain ⟨q1, q2, q3, q4⟩ := He.exc_ok (F.exc hni)
    rw [hK, hcad c x e1]
    exact ⟨by rw [hok]; exact decide_eq_true hc, PySem.W.mg_of KX G F.at_, q2, q3, q4, _, _, _, _, PySem.F.excBase_ValueError, q1⟩
  · rw [hok] at e1
    obtain ⟨x, hx1⟩ := ownAt c' (of_decide_eq_true e1)
    obtain ⟨y, hy1⟩ := ownAt c (hr c e2)
    rw [hK, hcad c' x hx1, hcad c y hy1]
    exact (excB_ok hx hx1).exm c y hy1
  · rw [hok] at e1
    obtain ⟨x, hx1⟩ := ownAt c' (of_decide_eq_true e1)
    have F := excB_ok hx hx1
    rw [hK, hcad c' x hx1]
    refine ⟨F.ec, fun d y hd => ?_⟩
    rw [hM] at hd
    have hdl := (List.getElem?_eq_some_iff.mp hd).1
    unfold exN at hd hdl
    rw [List.length_append, List.length_map] at hdl
    have kit := F.kit d hdl
    by_cases hdo : d < own.length
    · rw [List.getElem?_append_left hdo] at hd
      have F2 := excB_ok hx hd
      unfold cvK at kit
      rw [hd] at kit
      exact ⟨.ref (He.ga g.K y), .ref (He.ga g.K y), .inl (PySem.W.mg_of KX G F2.at_), rfl, fun u hu => hu, kit⟩
    · have hdo' : own.length ≤ d := Nat.le_of_not_lt hdo
      rw [List.getElem?_append_right hdo', List.getElem?_map] at hd
      cases hs : bt[d - own.length]? with
      | none => rw [hs] at hd; cases hd
      | some s =>
        rw [hs] at hd
        cases hd
        unfold cvK at kit
        rw [List.getElem?_eq_none hdo', hs] at kit
        obtain ⟨b1, b2, b3⟩ := hbt s (List.mem_of_getElem? hs)
        exact ⟨.ty s, .type s, .inr ⟨b1, b2, b3⟩, rfl, fun u hu => hu, kit⟩
end Py
set_option maxHeartbeats 1000000
namespace Py
open PySem PySem.Spec PyProof.Rows L2
/-! ### the law's end -/
/-- what is written of a law's program: the defs' IR and text, the constants, the error classes -/
structure Txt where
  fns : List FnD
  gs : List (Str × Val)
  own : List Str
  bt : List String
  sub : Nat → Nat → Bool
  frees : List Str
  cloL : List Nat
  lamL : List Nat
  ds : List He.DefD
  fa : List He.Fa
  ts : List He.Tab
  tf : List He.Defn
  inis : List IniD := []
  clsn : List Str := []
  fnm : List Str := []
def Txt.P (t : Txt) : Pg := ⟨t.fns, t.gs, exN t.own t.bt, t.sub, 100000⟩
def Txt.Ms (t : Txt) (f : Nat) : Nm := { N := (match t.fns[f]? with | some d => d.N | none => []), fns := t.fns.map (·.name), gs := t.gs.map (·.1), exs := exN t.own t.bt, free := t.frees, clo := t.cloL.contains f, lam := t.lamL.contains f, lamf := t.cloL, rais := List.range t.own.length, raz := (List.range t.own.length).filter (fun c => !(t.inis.map (·.c)).contains c), raia := t.inis.map (·.c), cls := t.clsn, meth := t.fns.map (fun d => d.cl.map fun q => (q.1, q.2.2)), fnm := t.fnm }
def Txt.ex (t : Txt) (K : PySem.W.Frag) : Bool := gvB K t.gs && (excB K t.own t.bt t.sub (t.inis.map (·.c)) && t.inis.all fun d => oexB K d.x d.f)
def lamQ (x : Str) : Str := (x ++ ".<locals>." : Str) ++ "<lambda>"
def Txt.g (t : Txt) (K : PySem.W.Frag) : Gc := { K := K, fad := fun f => match t.fns[f]? with | some d => He.fAd K d.at_ | none => 0, cls := fun c => match t.clsn[c]? with | some x => He.ga K x | none => 0, ncl := t.clsn.length, fnm := t.fnm, cad := fun c => match t.own[c]? with | some x => He.ga K x | none => 0, ok := fun c => decide (c < t.own.length), fld := fun c => (match t.inis.find? (fun d => Nat.beq d.c c) with | some d => d.f | none => Str.empty), T := t.tf.map fun p => ((He.cT K p).2, lamQ p.1) }
structure TxtOk (t : Txt) : Prop where
  ini : ∀ d ∈ t.inis, t.own[d.c]? = some d.x ∧ d.D ∈ t.ds ∧ iniB d = true ∧ t.inis.find? (fun e => Nat.beq e.c d.c) = some d ∧ (d.D.dfl = [] ∧ d.D.kwd = []) ∧
    ∀ (kV doc pm : Value) (an : Option Addr) (cdv ct : Value) (us : List Value), us.length = 2 → bindArgs (PySem.W.fnOf d.D.name d.D.qual d.D.params d.D.body d.D.scope .none kV doc pm an cdv ct) ⟨us, []⟩ = pure ([d.p0, d.p1].zip us)
  def_ : ∀ (f : Nat) (d : FnD), t.fns[f]? = some d → ∃ D, D ∈ t.ds ∧ DefOk d D (t.Ms f) ∧ (d.cl = none → He.Fa.glo d.name ∈ t.fa) ∧ ∀ (c : Nat) (cn m : Str), d.cl = some (c, cn, m) → t.clsn[c]? = some cn ∧ He.Fa.meth cn m ∈ t.fa ∧ (m = ("__init__" : Str) → He.Fa.mkr cn ∈ t.fa)
  cls : ∀ (c : Nat) (x : Str), t.clsn[c]? = some x → He.Fa.glo x ∈ t.fa ∧ He.Fa.cls x ∈ t.fa ∧ ∀ (f : Nat) (n : Str), t.fnm[f]? = some n → He.Fa.noat x n ∈ t.fa
  fnd : t.fnm.Nodup
  free : ∀ x ∈ t.frees, He.Fa.free x ∈ t.fa
  bt : ∀ s ∈ t.bt, Str.ofString s ∈ t.frees ∧ bootBuiltins (Str.ofString s) = some (.type s) ∧ Str.ofString s ≠ "__name__"
  dct : ∀ (i : Nat) (x : Str) (ks vs : List Val), t.gs[i]? = some (x, .dct ks vs) → ∃ (j : Nat) (q : He.Tab), t.ts[j]? = some q ∧ ∀ K, q.1 K = He.ga K x
  clo : ∀ h, h ∈ t.cloL → h ∉ t.lamL ∧ ∀ d, t.fns[h]? = some d → d.cl = none ∧ ∃ a, d.ps = [a] ∧ plainNm a = true
  lam : ∀ (f : Nat) (d : FnD), t.fns[f]? = some d → f ∈ t.lamL → t.tf = [(d.name, none)] ∧ d.cl = none
theorem prg_of {t : Txt} (o : TxtOk t) {K : PySem.W.Frag} {prog : Program} {w : World} {mg : Str → Option Value} {h base : Heap} (c0 : He.SaysX t.fa t.ds t.ts t.tf t.ex w h K) (KX : K.In h) (G : h.Ns mainGlobals mg)
    (TB : ∀ p ∈ t.tf.map (He.cT K), LamX.TabB base mg p.1 p.2) : Prg { g := t.g K, P := t.P, Ms := t.Ms, prog := prog, w := w, mg := mg, base := base } := by
  obtain ⟨hgv, hex⟩ := and_t (show (gvB K t.gs && (excB K t.own t.bt t.sub (t.inis.map (·.c)) && t.inis.all fun d => oexB K d.x d.f)) = true from c0.more)
  obtain ⟨hex, hoex⟩ := and_t hex
  have hfree : ∀ x ∈ t.frees, mg x = none := fun x hx => He.free_ok KX G (c0.t.d.facts (o.free x hx))
  have hcls : ∀ c, c < t.clsn.length → ∃ x, t.clsn[c]? = some x ∧ (t.g K).cls c = He.ga K x := fun c hc => by
    refine ⟨_, List.getElem?_eq_getElem hc, ?_⟩
    show (match t.clsn[c]? with | some x => He.ga K x | none => 0) = _
    rw [List.getElem?_eq_getElem hc]
  refine ⟨fun f d hd => ?_, fun f => rfl, fun f => rfl, fun f => rfl, fun c hc => ?_, fun f c x hx => ?_, ⟨fun f => rfl, o.fnd⟩, fun f x hx => hfree x (by simpa [Txt.Ms] using hx), fun i x v e hv => gvB_ok (g := t.g K) KX G hgv e hv, fun i x ks vs e => ?_, fun f X call np cl hK hmg hprog hw hbase => ?_, fun f h' hh => ?_⟩
  · obtain ⟨D, hD, od, hg, hmt⟩ := o.def_ f d hd
    have efad : (t.g K).fad f = He.fAd K d.at_ := by
      show (match t.fns[f]? with | some d => He.fAd K d.at_ | none => 0) = _
      rw [show t.fns[f]? = some d from hd]
    refine ffact od c0.t.d KX G hD hg (fun c cn m hc => ?_) (fun hl => ?_) efad fun hl cd hcd => ?_
    · obtain ⟨m1, m2, m3⟩ := hmt c cn m hc
      have hlt := (List.getElem?_eq_some_iff.mp m1).1
      have ecls : (t.g K).cls c = He.ga K cn := by
        show (match t.clsn[c]? with | some x => He.ga K x | none => 0) = _
        rw [m1]
      have efa : (t.g K).fad f = He.ma K (He.ga K cn) m := by
        rw [efad]; unfold FnD.at_; rw [hc]; rfl
      refine ⟨hlt, ?_, fun e => ?_⟩
      · show Meth K ((t.g K).cls c) m ((t.g K).fad f)
        rw [ecls, efa]
        exact He.meth_ok (c0.t.d.facts m2)
      · show L2.Mk K ((t.g K).cls c) ((t.g K).fad f)
        rw [ecls, efa, e]
        exact He.mkr_ok (c0.t.d.facts (m3 e))
    · exact (o.lam f d hd (by simpa [Txt.Ms] using hl)).2
    have hm : f ∈ t.lamL := by simpa [Txt.Ms] using hl
    have etf := (o.lam f d hd hm).1
    have hp : (d.name, (none : Option Str)) ∈ t.tf := by rw [etf]; exact List.mem_singleton.mpr rfl
    have hcT : He.cT K (d.name, none) = (cd, He.tabOf K cd) := by unfold He.cT; rw [show He.codeOf K (d.name, none) = cd from hcd]
    refine ⟨?_, ?_, fun p hp2 _ => ?_⟩
    · have := TB (He.cT K (d.name, none)) (List.mem_map.mpr ⟨_, hp, rfl⟩)
      rw [hcT] at this
      exact this
    · show (He.tabOf K cd, lamQ d.name) ∈ t.tf.map fun p => ((He.cT K p).2, lamQ p.1)
      exact List.mem_map.mpr ⟨_, hp, by rw [hcT]⟩
    · have hp3 : p ∈ t.tf.map fun p => ((He.cT K p).2, lamQ p.1) := hp2
      rw [etf] at hp3
      obtain rfl := List.mem_singleton.mp hp3
      rfl
  · obtain ⟨x, hx, ex⟩ := hcls c hc
    obtain ⟨_, k2, k3⟩ := o.cls c x hx
    show L2.Cls K ((t.g K).cls c) ∧ ∀ (f : Nat) (n : Str), t.fnm[f]? = some n → NoAttr K ((t.g K).cls c) n
    rw [ex]
    exact ⟨He.cls_ok (c0.t.d.facts k2), fun f n hn => He.noat_ok (c0.t.d.facts (k3 f n hn))⟩
  · have hx' : t.clsn[c]? = some x := hx
    have hlt := (List.getElem?_eq_some_iff.mp hx').1
    obtain ⟨x2, hx2, ex⟩ := hcls c hlt
    rw [hx'] at hx2
    cases hx2
    obtain ⟨k1, _, _⟩ := o.cls c x hx'
    refine ⟨?_, hlt⟩
    show mg x = some (.ref ((t.g K).cls c))
    rw [ex]
    exact He.glo_ok KX G (c0.t.d.facts k1)
  · obtain ⟨j, q, hq, hk⟩ := o.dct i x ks vs e
    obtain ⟨es, n, kd⟩ := c0.t.tab j hq
    rw [hk] at kd
    exact gvB_dct (g := t.g K) KX G hgv e ⟨es, n, kd⟩
  · subst hmg
    have cad : ∀ c x, t.own[c]? = some x → (t.g K).cad c = He.ga K x := fun c x e => by
      show (match t.own[c]? with | some x => He.ga K x | none => 0) = _
      rw [e]
    refine exn_of (g := t.g K) (own := t.own) (bt := t.bt) hK KX G hex rfl (fun c hc => ?_) (fun c hc => ?_) (fun c x hx hc => ?_) (fun c => rfl) (fun c x e => ?_) fun s hs => ?_
    · simpa [Txt.Ms] using hc
    · have hc' : c ∈ (List.range t.own.length).filter (fun c => !(t.inis.map (·.c)).contains c) := by
        have : ((List.range t.own.length).filter (fun c => !(t.inis.map (·.c)).contains c)).contains c = true := hc
        exact List.contains_iff_mem.mp this
      obtain ⟨m1, m2⟩ := List.mem_filter.mp hc'
      exact ⟨List.mem_range.mp m1, by simpa using m2⟩
    · have hc' : c ∈ t.inis.map (·.c) := by
        have : (t.inis.map (·.c)).contains c = true := hc
        exact List.contains_iff_mem.mp this
      obtain ⟨d, hd, rfl⟩ := List.mem_map.mp hc'
      obtain ⟨i1, i2, i3, i4, ⟨i5, i6⟩, i7⟩ := o.ini d hd
      have hx' : (exN t.own t.bt)[d.c]? = some x := hx
      have hlt := (List.getElem?_eq_some_iff.mp i1).1
      unfold exN at hx'
      rw [List.getElem?_append_left hlt, i1] at hx'
      cases hx'
      have ho := List.all_eq_true.mp hoex d hd
      obtain ⟨fd, F⟩ := c0.t.d.defs i2
      have F' : FunD K d.D.name d.D.qual d.D.params d.D.body d.D.scope [] [] (He.fAd K d.D.at_) fd := by
        have z := F
        unfold He.DefD.dvs He.DefD.kws at z
        rw [i5, i6] at z
        exact z
      rw [hK, cad _ _ i1]
      have ef : (t.g K).fld d.c = d.f := by
        show (match t.inis.find? (fun e => Nat.beq e.c d.c) with | some d => d.f | none => Str.empty) = _
        rw [i4]
      rw [ef]
      refine ⟨decide_eq_true hlt, PySem.W.mg_of KX G (excB_ok hex i1).at_, (oexB_ok ho).1, ini_ok i3 ho F' i7⟩
    · show (match t.own[c]? with | some x => He.ga K x | none => 0) = _
      rw [e]; rfl
    · obtain ⟨b1, b2, b3⟩ := o.bt s hs
      exact ⟨hfree _ b1, b2, b3⟩
  · have hm : h' ∈ t.cloL := by simpa [Txt.Ms] using hh
    obtain ⟨q1, q2⟩ := o.clo h' hm
    exact ⟨by simpa [Txt.Ms] using hm, by simpa [Txt.Ms] using q1, q2⟩
theorem cT_none (pos : Pos) (cv : Value) : codeAmong pos ([] : List Value) = some cv → False := by
  intro h
  unfold codeAmong at h
  cases h
theorem rvs_ints {g : Gc} {ω : Om} {H : Hp} : ∀ ns : List Int, RVs g ω H (ns.map Val.int) (ns.map V.int)
  | [] => rfl
  | n :: ns => ⟨_, _, rfl, rfl, rvs_ints ns⟩
/-- THE LAW'S END -/
theorem law_at {t : Txt} (o : TxtOk t) {l : PySem.W.OpenLaw} {n k fl : Nat} {d : FnD} {x : Str} {K : PySem.W.Frag} {w : World} {mg : Str → Option Value} {h : Heap} {fa : Addr} (c : He.SaysX t.fa t.ds t.ts t.tf t.ex w h K) (KX : K.In h) (G : h.Ns mainGlobals mg)
    (hd : t.fns[fl]? = some d) (hps : d.ps = [x]) (hcl : d.cl = none) (hmg : mg d.name = some (.ref fa))
    (plain : ∀ ns : List Int, ns.length ≤ n → ∃ as, t.P.call k fl [.v (.lck (ns.map Val.int))] none = .ok (.v (.bool true)) as) : LamX.LawAtS l w K (L2.CX l.prog w) (3 * k) n x mg fa h := by
  obtain ⟨D, hD, od, hg, _⟩ := o.def_ fl d hd
  have hmg2 := He.glo_ok KX G (c.t.d.facts (hg hcl))
  have eat : d.at_ = (d.name, none) := by unfold FnD.at_; rw [hcl]
  have enm : d.nm = d.name := by unfold FnD.nm; rw [hcl]
  rw [hmg] at hmg2
  have efa : fa = He.ga K d.name := by cases hmg2; rfl
  obtain ⟨fd, F⟩ := c.t.d.defs hD
  rw [od.eq, eat, enm] at F
  have F' : FunD K d.name d.name D.params D.body D.scope [] [] (He.ga K d.name) fd := F
  have hfad : (t.g K).fad fl = fa := by
    show (match t.fns[fl]? with | some d => He.fAd K d.at_ | none => 0) = fa
    rw [hd]; show He.fAd K d.at_ = fa; rw [eat]; exact efa.symm
  have lkfd : ∃ oc dd osl, K.lookup fa = some ⟨oc, dd, .func fd, osl⟩ := by
    obtain ⟨oc, dd, dV, kV, doc, pm, an, cdv, ct, osl, e0, lk, _⟩ := F'.ex
    exact ⟨oc, dd, osl, by rw [efa]; exact lk⟩
  refine ⟨fd, t.tf.map (He.cT K), spF (t.g K) (t.P.call k) fl, fun p hp => ?_, fun p hp => ?_, fun p hp => ?_, fun s u => ?_, fun H a ns hl _ hT hS => ?_, fun base KB GB TB => ?_⟩
  · obtain ⟨q, hq, rfl⟩ := List.mem_map.mp hp
    exact c.empty q hq
  · obtain ⟨q, hq, rfl⟩ := List.mem_map.mp hp
    exact c.out q hq
  · obtain ⟨q, hq, rfl⟩ := List.mem_map.mp hp
    exact PySem.W.codeHd_of_K KX (c.hd q hq)
  · have := F'.bindsA (ps := d.ps) (by rw [← enm]; exact fun kV doc pm an cdv ct us hl => by have := od.bind kV doc pm an cdv ct us hl; rwa [enm] at this ⊢) s [u] (by rw [hps]; rfl)
    rw [hps] at this
    exact this
  · have tabs : ∀ b, b ∈ (t.tf.map (He.cT K)).map (·.2) → H b = some (.tbl #[]) := fun b hb => by
      obtain ⟨p, hp, rfl⟩ := List.mem_map.mp hb
      exact hT p hp
    have hTf : (t.g K).T.map (·.1) = (t.tf.map (He.cT K)).map (·.2) := by
      show (t.tf.map fun p => ((He.cT K p).2, lamQ p.1)).map (·.1) = _
      rw [List.map_map, List.map_map]; rfl
    let ω : Om := fun b => if b ∈ (t.tf.map (He.cT K)).map (·.2) then some .tab else none
    have trk : Trk (t.g K) ω H := by
      refine ⟨fun b hb => .inr ?_, fun p hp => ?_⟩
      · rw [hTf]
        by_cases q : b ∈ (t.tf.map (He.cT K)).map (·.2)
        · exact q
        · exact absurd (if_neg q) hb
      · have q : p.1 ∈ (t.tf.map (He.cT K)).map (·.2) := by rw [← hTf]; exact List.mem_map.mpr ⟨p, hp, rfl⟩
        exact ⟨if_pos q, #[], tabs _ q, trivial, fun pos cv hh => (cT_none pos cv hh).elim⟩
    obtain ⟨as, hp⟩ := plain ns hl
    refine ⟨[.v (.lck (ns.map Val.int))], ω, rfl, fun i t' hi => ?_, trk, ?_⟩
    · cases i with
      | zero =>
        have : T.v (.lck (ns.map Val.int)) = t' := by simpa using hi
        subst this
        refine ⟨.ref a, rfl, a, ns.map V.int, rfl, ?_, rvs_ints ns⟩
        rcases hS with hS | hS
        · refine .inl ⟨if_neg fun q => ?_, hS⟩
          have z := tabs a q
          rcases hS with e | ⟨ob, e⟩
          · rw [z] at e; cases e
          · rw [z] at e; cases e
        · exact .inr hS
      | succ i => simp at hi
    · rw [hp]
      exact fun y ω' H' _ _ _ r => r
  · have R := prg_of (prog := l.prog) (w := w) o c KX G TB
    obtain ⟨fd2, ⟨oc, dd, osl, lk⟩, _, ok⟩ := (fn_all R k).1 fl d hd
    have lk' : K.lookup fa = some ⟨oc, dd, .func fd2, osl⟩ := by rw [← hfad]; exact lk
    obtain ⟨oc2, dd2, osl2, lk2⟩ := lkfd
    rw [lk2] at lk'
    cases lk'
    rw [hps] at ok
    have ok' : FnOk l.prog w K mg base (L2.CX l.prog w) (3 * k) ((t.g K).fad fl) fd [x] (spF (t.g K) (t.P.call k) fl) := ok
    rw [hfad] at ok'
    exact ok'
end Py
namespace K26
open PySem Py
def b_is_integer : Ss := (.cons (.ret (.bo true (.cons (.isi .int (.var 0)) (.cons (.not (.isi .bool (.var 0))) .nil))))
 .nil)
def f_is_integer : FnD := ⟨"is_integer", ["thing"], ["thing"], b_is_integer, none⟩
def b_is_within : Ss := (.cons (.ret (.bo true (.cons (.call 0 (.cons (.var 0) .nil)) (.cons (.chn .le .le (.var 1) (.var 0) (.var 2)) .nil))))
 .nil)
def f_is_within : FnD := ⟨"is_within", ["thing", "low", "high"], ["thing", "low", "high"], b_is_within, none⟩
def b_is_sized : Ss := (.cons (.ret (.bo true (.cons (.isi .tuple (.var 0)) (.cons (.chn .le .le (.var 1) (.bi .len (.var 0)) (.var 2)) .nil))))
 .nil)
def f_is_sized : FnD := ⟨"is_sized", ["thing", "low", "high"], ["thing", "low", "high"], b_is_sized, none⟩
def b_is_word_of : Ss := (.cons (.ret (.bo true (.cons (.isi .str (.var 0)) (.cons (.cmp .isin (.var 0) (.var 1)) .nil))))
 .nil)
def f_is_word_of : FnD := ⟨"is_word_of", ["thing", "words"], ["thing", "words"], b_is_word_of, none⟩
def b_inner : Ss := (.cons (.ifs (.cmp .isin (.sub (.var 0) (.k (.int 0))) (.tup (.cons (.k (.str [105, 110, 116])) (.cons (.k (.str [109, 121])) (.cons (.k (.str [99, 101, 108, 108])) .nil))))) (.cons (.ret (.tup .nil))
 .nil) .nil)
 (.cons (.ret (.ite (.cmp .isin (.sub (.var 0) (.k (.int 0))) (.tup (.cons (.k (.str [97, 116])) (.cons (.k (.str [102, 114, 111, 109])) .nil)))) (.slc (.var 0) (.so (.k (.int 2))) .no) (.slc (.var 0) (.so (.k (.int 1))) .no)))
 .nil))
def f_inner : FnD := ⟨"inner", ["expr"], ["expr"], b_inner, none⟩
def b_is_head : Ss := (.cons (.ifs (.bo false (.cons (.not (.isi .tuple (.var 0))) (.cons (.cmp .lt (.bi .len (.var 0)) (.k (.int 2))) (.cons (.not (.isi .str (.sub (.var 0) (.k (.int 0))))) .nil)))) (.cons (.ret (.k (.bool false)))
 .nil) .nil)
 (.cons (.ifs (.cmp .ne (.bi .len (.var 0)) (.mget 11 (.sub (.var 0) (.k (.int 0))) (.ite (.cmp .isin (.sub (.var 0) (.k (.int 0))) (.gl 3)) (.k (.int 3)) (.k (.int 0))))) (.cons (.ret (.k (.bool false)))
 .nil) .nil)
 (.cons (.ifs (.cmp .eq (.sub (.var 0) (.k (.int 0))) (.k (.str [105, 110, 116]))) (.cons (.ret (.call 1 (.cons (.sub (.var 0) (.k (.int 1))) (.cons (.k (.int 0)) (.cons (.gl 5) .nil)))))
 .nil) .nil)
 (.cons (.ifs (.cmp .eq (.sub (.var 0) (.k (.int 0))) (.k (.str [99, 101, 108, 108]))) (.cons (.ret (.call 1 (.cons (.sub (.var 0) (.k (.int 1))) (.cons (.k (.int 0)) (.cons (.k (.int 1)) .nil)))))
 .nil) .nil)
 (.cons (.asg (.n 1) (.dget [[109, 121], [97, 116], [102, 114, 111, 109]] (.cons (.gl 0) (.cons (.gl 2) (.cons (.gl 1) .nil))) (.sub (.var 0) (.k (.int 0))) (.k (.none))))
 (.cons (.ret (.bo false (.cons (.cmp .is (.var 1) (.k (.none))) (.cons (.call 3 (.cons (.sub (.var 0) (.k (.int 1))) (.cons (.var 1) .nil))) .nil))))
 .nil))))))
def f_is_head : FnD := ⟨"is_head", ["thing"], ["thing", "words"], b_is_head, none⟩
def e_is_expr_1 : E := (.var 1)
def e_is_expr_2 : E := (.tup (.cons (.var 5) (.cons (.bin .add (.var 4) (.k (.int 1))) .nil)))
def x_is_expr_3 : E := .lc e_is_expr_2 (.n 5) (.e (.call 4 (.cons (.var 3) .nil))) .no [5]
def b_is_expr_4 : Ss := (.cons (.asg (.t [3, 4]) (.pop 1))
 (.cons (.aug .add 2 (.k (.int 1)))
 (.cons (.ifs (.bo false (.cons (.cmp .gt (.var 2) (.gl 7)) (.cons (.cmp .gt (.var 4) (.gl 6)) (.cons (.not (.call 5 (.cons (.var 3) .nil))) .nil)))) (.cons (.ret (.k (.bool false)))
 .nil) .nil)
 (.cons (.ext 1 x_is_expr_3)
 .nil))))
def b_is_expr : Ss := (.cons (.par [1, 2] (.cons (.lis (.cons (.tup (.cons (.var 0) (.cons (.k (.int 1)) .nil))) .nil)) (.cons (.k (.int 0)) .nil)))
 (.cons (.whl e_is_expr_1 b_is_expr_4)
 (.cons (.ret (.k (.bool true)))
 .nil)))
def f_is_expr : FnD := ⟨"is_expr", ["thing"], ["thing", "left", "many", "here", "deep", "part"], b_is_expr, none⟩
def e_parts_in_1 : E := (.call 7 (.cons (.var 1) .nil))
def x_parts_in_2 : E := .lc e_parts_in_1 (.n 1) (.e (.call 4 (.cons (.var 0) .nil))) .no [1]
def b_parts_in : Ss := (.cons (.ret (.bin .add (.k (.int 1)) (.bi .sum x_parts_in_2)))
 .nil)
def f_parts_in : FnD := ⟨"parts_in", ["expr"], ["expr", "part"], b_parts_in, none⟩
def b_is_plain_statement : Ss := (.cons (.ifs (.cmp .eq (.sub (.var 0) (.k (.int 0))) (.k (.str [103, 111]))) (.cons (.ret (.bo true (.cons (.cmp .eq (.bi .len (.var 0)) (.k (.int 2))) (.cons (.call 3 (.cons (.sub (.var 0) (.k (.int 1))) (.cons (.gl 4) .nil))) .nil))))
 .nil) .nil)
 (.cons (.ret (.bo true (.cons (.cmp .eq (.sub (.var 0) (.k (.int 0))) (.k (.str [112, 117, 116]))) (.cons (.cmp .eq (.bi .len (.var 0)) (.k (.int 3))) (.cons (.call 1 (.cons (.sub (.var 0) (.k (.int 1))) (.cons (.k (.int 0)) (.cons (.k (.int 1)) .nil)))) (.cons (.call 6 (.cons (.sub (.var 0) (.k (.int 2))) .nil)) .nil))))))
 .nil))
def f_is_plain_statement : FnD := ⟨"is_plain_statement", ["thing"], ["thing"], b_is_plain_statement, none⟩
def e_statements_in_1 : E := (.var 2)
def b_statements_in_2 : Ss := (.cons (.ifs (.bo false (.cons (.not (.isi .tuple (.var 5))) (.cons (.cmp .lt (.bi .len (.var 5)) (.k (.int 2))) (.cons (.not (.isi .str (.sub (.var 5) (.k (.int 0))))) .nil)))) (.cons (.ret (.k (.none)))
 .nil) .nil)
 (.cons (.app 1 (.var 5))
 (.cons (.ifs (.cmp .eq (.sub (.var 5) (.k (.int 0))) (.k (.str [105, 102]))) (.cons (.ifs (.bo false (.cons (.cmp .ne (.bi .len (.var 5)) (.k (.int 4))) (.cons (.not (.call 6 (.cons (.sub (.var 5) (.k (.int 1))) .nil))) .nil))) (.cons (.ret (.k (.none)))
 .nil) .nil)
 (.cons (.ext 2 (.lis (.cons (.tup (.cons (.sub (.var 5) (.k (.int 2))) (.cons (.bin .add (.var 4) (.k (.int 1))) .nil))) (.cons (.tup (.cons (.sub (.var 5) (.k (.int 3))) (.cons (.bin .add (.var 4) (.k (.int 1))) .nil))) .nil))))
 .nil)) (.cons (.ifs (.not (.call 8 (.cons (.var 5) .nil))) (.cons (.ret (.k (.none)))
 .nil) .nil)
 .nil))
 .nil)))
def b_statements_in_3 : Ss := (.cons (.asg (.t [3, 4]) (.pop 2))
 (.cons (.ifs (.bo false (.cons (.not (.isi .tuple (.var 3))) (.cons (.cmp .gt (.bin .add (.bi .len (.var 1)) (.bi .len (.var 3))) (.gl 9)) (.cons (.cmp .gt (.var 4) (.gl 10)) .nil)))) (.cons (.ret (.k (.none)))
 .nil) .nil)
 (.cons (.for_ (.n 5) (.e (.var 3)) b_statements_in_2)
 .nil)))
def b_statements_in : Ss := (.cons (.par [1, 2] (.cons (.lis .nil) (.cons (.lis (.cons (.tup (.cons (.var 0) (.cons (.k (.int 0)) .nil))) .nil)) .nil)))
 (.cons (.whl e_statements_in_1 b_statements_in_3)
 (.cons (.ret (.var 1))
 .nil)))
def f_statements_in : FnD := ⟨"statements_in", ["thing"], ["thing", "found", "left", "body", "deep", "one"], b_statements_in, none⟩
def b_exprs_of : Ss := (.cons (.ret (.dget [[112, 117, 116], [105, 102]] (.cons (.lis (.cons (.sub (.var 0) (.neg (.k (.int 1)))) .nil)) (.cons (.lis (.cons (.sub (.var 0) (.k (.int 1))) .nil)) .nil)) (.sub (.var 0) (.k (.int 0))) (.lis .nil)))
 .nil)
def f_exprs_of : FnD := ⟨"exprs_of", ["statement"], ["statement"], b_exprs_of, none⟩
def e_is_policy_1 : E := (.call 7 (.cons (.var 3) .nil))
def x_is_policy_2 : E := .lc2 e_is_policy_1 (.n 2) (.e (.var 1)) .no [2, 3] (.n 3) (.e (.call 10 (.cons (.var 2) .nil))) .no [3]
def b_is_policy : Ss := (.cons (.asg (.n 1) (.call 9 (.cons (.var 0) .nil)))
 (.cons (.ifs (.bo false (.cons (.cmp .is (.var 1) (.k (.none))) (.cons (.cmp .eq (.bi .len (.var 1)) (.k (.int 0))) .nil))) (.cons (.ret (.k (.bool false)))
 .nil) .nil)
 (.cons (.ret (.cmp .le (.bi .sum x_is_policy_2) (.gl 8)))
 .nil)))
def f_is_policy : FnD := ⟨"is_policy", ["thing"], ["thing", "found", "one", "expr"], b_is_policy, none⟩
def b_is_car : Ss := (.cons (.ifs (.bo false (.cons (.not (.call 2 (.cons (.var 1) (.cons (.k (.int 4)) (.cons (.k (.int 4)) .nil))))) (.cons (.not (.call 1 (.cons (.sub (.var 1) (.k (.int 0))) (.cons (.k (.int 1)) (.cons (.gl 14) .nil))))) .nil))) (.cons (.ret (.k (.bool false)))
 .nil) .nil)
 (.cons (.par [2, 3] (.cons (.sub (.var 1) (.k (.int 1))) (.cons (.sub (.var 1) (.k (.int 2))) .nil)))
 (.cons (.ifs (.bo false (.cons (.not (.call 1 (.cons (.var 2) (.cons (.k (.int 0)) (.cons (.bin .sub (.var 0) (.k (.int 1))) .nil))))) (.cons (.not (.call 1 (.cons (.var 3) (.cons (.bin .add (.var 2) (.k (.int 1))) (.cons (.bin .sub (.var 0) (.k (.int 1))) .nil))))) .nil))) (.cons (.ret (.k (.bool false)))
 .nil) .nil)
 (.cons (.ret (.call 1 (.cons (.sub (.var 1) (.k (.int 3))) (.cons (.var 2) (.cons (.var 3) .nil)))))
 .nil))))
def f_is_car : FnD := ⟨"is_car", ["floors", "thing"], ["floors", "thing", "low", "high"], b_is_car, none⟩
def e_is_house_1 : E := (.call 12 (.cons (.sub (.var 0) (.k (.int 0))) (.cons (.var 1) .nil)))
def x_is_house_2 : E := .lc e_is_house_1 (.n 1) (.e (.sub (.var 0) (.k (.int 1)))) .no [1]
def b_is_house : Ss := (.cons (.ifs (.bo false (.cons (.not (.call 2 (.cons (.var 0) (.cons (.k (.int 3)) (.cons (.k (.int 3)) .nil))))) (.cons (.not (.call 1 (.cons (.sub (.var 0) (.k (.int 0))) (.cons (.k (.int 2)) (.cons (.gl 12) .nil))))) .nil))) (.cons (.ret (.k (.bool false)))
 .nil) .nil)
 (.cons (.ifs (.bo false (.cons (.not (.call 2 (.cons (.sub (.var 0) (.k (.int 1))) (.cons (.k (.int 1)) (.cons (.gl 13) .nil))))) (.cons (.not (.bi .all x_is_house_2)) .nil))) (.cons (.ret (.k (.bool false)))
 .nil) .nil)
 (.cons (.ret (.call 11 (.cons (.sub (.var 0) (.k (.int 2))) .nil)))
 .nil)))
def f_is_house : FnD := ⟨"is_house", ["thing"], ["thing", "car"], b_is_house, none⟩
def b_check_house : Ss := (.cons (.ifs (.not (.call 13 (.cons (.var 0) .nil))) (.cons (.rai 3 .nil)
 .nil) .nil)
 .nil)
def f_check_house : FnD := ⟨"check_house", ["thing"], ["thing"], b_check_house, none⟩
abbrev f_raw_rides : FnD := f_is_integer
def b_is_caller : Ss := (.cons (.ifs (.bo false (.cons (.not (.call 2 (.cons (.var 1) (.cons (.k (.int 3)) (.cons (.k (.int 3)) .nil))))) (.cons (.not (.call 1 (.cons (.sub (.var 1) (.k (.int 0))) (.cons (.k (.int 0)) (.cons (.gl 16) .nil))))) .nil))) (.cons (.ret (.k (.bool false)))
 .nil) .nil)
 (.cons (.asg (.n 2) (.bin .sub (.sub (.var 0) (.k (.int 0))) (.k (.int 1))))
 (.cons (.ret (.bo true (.cons (.call 1 (.cons (.sub (.var 1) (.k (.int 1))) (.cons (.k (.int 0)) (.cons (.var 2) .nil)))) (.cons (.call 1 (.cons (.sub (.var 1) (.k (.int 2))) (.cons (.k (.int 0)) (.cons (.var 2) .nil)))) (.cons (.cmp .ne (.sub (.var 1) (.k (.int 1))) (.sub (.var 1) (.k (.int 2)))) .nil)))))
 .nil)))
def f_is_caller : FnD := ⟨"is_caller", ["house", "thing"], ["house", "thing", "top"], b_is_caller, none⟩
def e_raw_callers_1 : E := (.cmp .le (.sub (.var 2) (.k (.int 0))) (.sub (.var 3) (.k (.int 0))))
def x_raw_callers_2 : E := .lc e_raw_callers_1 (.t [2, 3]) (.zip (.var 1) (.slc (.var 1) (.so (.k (.int 1))) .no)) .no [2, 3]
def e_raw_callers_3 : E := (.call 16 (.cons (.var 0) (.cons (.var 2) .nil)))
def x_raw_callers_4 : E := .lc e_raw_callers_3 (.n 2) (.e (.var 1)) .no [2]
def b_raw_callers : Ss := (.cons (.ifs (.bo false (.cons (.not (.call 2 (.cons (.var 1) (.cons (.k (.int 0)) (.cons (.gl 15) .nil))))) (.cons (.not (.bi .all x_raw_callers_4)) .nil))) (.cons (.ret (.k (.bool false)))
 .nil) .nil)
 (.cons (.ret (.bi .all x_raw_callers_2))
 .nil))
def f_raw_callers : FnD := ⟨"raw_callers", ["house", "thing"], ["house", "thing", "one", "other"], b_raw_callers, none⟩
def b_is_callers : Ss := (.cons (.ex (.call 14 (.cons (.var 0) .nil)))
 (.cons (.ret (.call 17 (.cons (.var 0) (.cons (.var 1) .nil))))
 .nil))
def f_is_callers : FnD := ⟨"is_callers", ["house", "thing"], ["house", "thing"], b_is_callers, none⟩
def b_check_callers : Ss := (.cons (.ex (.call 14 (.cons (.var 0) .nil)))
 (.cons (.ifs (.not (.call 17 (.cons (.var 0) (.cons (.var 1) .nil)))) (.cons (.rai 2 .nil)
 .nil) .nil)
 .nil))
def f_check_callers : FnD := ⟨"check_callers", ["house", "callers"], ["house", "callers"], b_check_callers, none⟩
def b_callers_text : Ss := (.cons (.ex (.call 19 (.cons (.var 0) (.cons (.var 1) .nil))))
 (.cons (.ret .bad)
 .nil))
def f_callers_text : FnD := ⟨"callers_text", ["house", "callers"], ["house", "callers", "one", "caller"], b_callers_text, none⟩
abbrev f_can_carry : FnD := f_is_integer
abbrev f_raw_carriers : FnD := f_is_integer
def e_carriers_1 : E := .bad
def x_carriers_2 : E := .lc e_carriers_1 (.n 2) (.e (.var 1)) .no [2]
def b_carriers : Ss := (.cons (.ex (.call 19 (.cons (.var 0) (.cons (.var 1) .nil))))
 (.cons (.ret (.bi .tuple x_carriers_2))
 .nil))
def f_carriers : FnD := ⟨"carriers", ["house", "callers"], ["house", "callers", "caller"], b_carriers, none⟩
def b_stranded_1 : Ss := (.cons (.ifs (.not .bad) (.cons (.app 2 (.tup (.cons (.var 3) (.cons .bad .nil))))
 .nil) .nil)
 .nil)
def b_stranded : Ss := (.cons (.ex (.call 19 (.cons (.var 0) (.cons (.var 1) .nil))))
 (.cons (.asg (.n 2) (.lis .nil))
 (.cons (.for_ (.t [3, 4]) (.enu (.var 1)) b_stranded_1)
 (.cons (.ret (.bi .tuple (.var 2)))
 .nil))))
def f_stranded : FnD := ⟨"stranded", ["house", "callers"], ["house", "callers", "found", "number", "caller"], b_stranded, none⟩
def b_check_time : Ss := (.cons (.ifs (.not (.call 1 (.cons (.var 0) (.cons (.k (.int 0)) (.cons (.gl 17) .nil))))) (.cons (.rai 5 .nil)
 .nil) .nil)
 .nil)
def f_check_time : FnD := ⟨"check_time", ["time"], ["time"], b_check_time, none⟩
def e_coming_1 : E := (.var 3)
def c_coming_2 : Oe := (.so (.cmp .eq (.sub (.var 4) (.k (.int 0))) (.var 2)))
def x_coming_3 : E := .lc e_coming_1 (.t [3, 4]) (.enu (.var 1)) c_coming_2 [3, 4]
def b_coming : Ss := (.cons (.ex (.call 19 (.cons (.var 0) (.cons (.var 1) .nil))))
 (.cons (.ex (.call 25 (.cons (.var 2) .nil)))
 (.cons (.ret (.bi .tuple x_coming_3))
 .nil)))
def f_coming : FnD := ⟨"coming", ["house", "callers", "time"], ["house", "callers", "time", "number", "caller"], b_coming, none⟩
def e_put_in_1 : E := (.var 4)
def c_put_in_2 : Oe := (.so (.cmp .le (.sub (.var 4) (.k (.int 0))) (.sub (.var 2) (.k (.int 0)))))
def x_put_in_3 : E := .lc e_put_in_1 (.n 4) (.e (.var 1)) c_put_in_2 [4]
def b_put_in : Ss := (.cons (.ex (.call 19 (.cons (.var 0) (.cons (.var 1) .nil))))
 (.cons (.ifs (.not (.call 16 (.cons (.var 0) (.cons (.var 2) .nil)))) (.cons (.rai 1 .nil)
 .nil) .nil)
 (.cons (.ifs (.cmp .eq (.bi .len (.var 1)) (.gl 15)) (.cons (.rai 6 (.cons (.gl 15) .nil))
 .nil) .nil)
 (.cons (.asg (.n 3) (.bi .len x_put_in_3))
 (.cons (.ret (.tup (.cons (.bin .add (.bin .add (.slc (.var 1) .no (.so (.var 3))) (.tup (.cons (.var 2) .nil))) (.slc (.var 1) (.so (.var 3)) .no)) (.cons (.var 3) .nil))))
 .nil)))))
def f_put_in : FnD := ⟨"put_in", ["house", "callers", "caller"], ["house", "callers", "caller", "at", "one"], b_put_in, none⟩
def b_taken_out : Ss := (.cons (.ex (.call 19 (.cons (.var 0) (.cons (.var 1) .nil))))
 (.cons (.ifs (.not (.call 1 (.cons (.var 2) (.cons (.k (.int 0)) (.cons (.bin .sub (.bi .len (.var 1)) (.k (.int 1))) .nil))))) (.cons (.rai 4 .nil)
 .nil) .nil)
 (.cons (.ret (.bin .add (.slc (.var 1) .no (.so (.var 2))) (.slc (.var 1) (.so (.bin .add (.var 2) (.k (.int 1)))) .no)))
 .nil)))
def f_taken_out : FnD := ⟨"taken_out", ["house", "callers", "number"], ["house", "callers", "number"], b_taken_out, none⟩
def e_put_off_1 : E := (.tup (.cons (.bin .add (.var 4) (.var 2)) (.cons (.var 5) (.cons (.var 6) .nil))))
def x_put_off_2 : E := .lc e_put_off_1 (.t [4, 5, 6]) (.e (.var 1)) .no [4, 5, 6]
def b_put_off : Ss := (.cons (.ex (.call 19 (.cons (.var 0) (.cons (.var 1) .nil))))
 (.cons (.ifs (.not (.call 1 (.cons (.var 2) (.cons (.k (.int 0)) (.cons (.gl 16) .nil))))) (.cons (.rai 5 .nil)
 .nil) .nil)
 (.cons (.asg (.n 3) (.bi .tuple x_put_off_2))
 (.cons (.ret (.ite (.call 17 (.cons (.var 0) (.cons (.var 3) .nil))) (.var 3) (.k (.none))))
 .nil))))
def f_put_off : FnD := ⟨"put_off", ["house", "callers", "by"], ["house", "callers", "by", "found", "time", "one", "other"], b_put_off, none⟩
def e_least_time_1 : E := (.bin .add (.bin .add (.var 3) (.k (.int 2))) (.bi .abs (.bin .sub (.var 4) (.var 5))))
def x_least_time_2 : E := .lc e_least_time_1 (.t [3, 4, 5]) (.e (.var 1)) .no [3, 4, 5]
def e_least_time_3 : E := .bad
def x_least_time_4 : E := .lc e_least_time_3 (.n 2) (.e (.var 1)) .no [2]
def b_least_time : Ss := (.cons (.ex (.call 19 (.cons (.var 0) (.cons (.var 1) .nil))))
 (.cons (.ifs (.bo false (.cons (.not (.var 1)) (.cons (.not (.bi .all x_least_time_4)) .nil))) (.cons (.ret (.k (.none)))
 .nil) .nil)
 (.cons (.ret (.bi .maxl x_least_time_2))
 .nil)))
def f_least_time : FnD := ⟨"least_time", ["house", "callers"], ["house", "callers", "caller", "time", "one", "other"], b_least_time, none⟩
abbrev f_cut : FnD := f_is_integer
abbrev f_table_of : FnD := f_is_integer
abbrev f_asked_at : FnD := f_is_integer
abbrev f_asked_from : FnD := f_is_integer
abbrev f_own_of : FnD := f_is_integer
abbrev f_op_of : FnD := f_is_integer
abbrev f_worth_in : FnD := f_is_integer
abbrev f_put_cell : FnD := f_is_integer
abbrev f_made_by : FnD := f_is_integer
abbrev f_raw_decided : FnD := f_is_integer
abbrev f_raw_first : FnD := f_is_integer
abbrev f_with_comers : FnD := f_is_integer
abbrev f_raw_view : FnD := f_is_integer
abbrev f_raw_decisions : FnD := f_is_integer
abbrev f_opened : FnD := f_is_integer
abbrev f_moved : FnD := f_is_integer
abbrev f_told_deeds : FnD := f_is_integer
abbrev f_raw_told : FnD := f_is_integer
abbrev f_raw_run : FnD := f_is_integer
def b_check_run : Ss := (.cons (.ex (.call 19 (.cons (.var 0) (.cons (.var 1) .nil))))
 (.cons (.ex (.call 25 (.cons (.var 2) .nil)))
 .nil))
def f_check_run : FnD := ⟨"check_run", ["house", "callers", "time"], ["house", "callers", "time"], b_check_run, none⟩
def b_state_at : Ss := (.cons (.ex (.call 50 (.cons (.var 0) (.cons (.var 1) (.cons (.var 2) .nil)))))
 (.cons (.ret (.sub .bad (.k (.int 0))))
 .nil))
def f_state_at : FnD := ⟨"state_at", ["house", "callers", "time"], ["house", "callers", "time"], b_state_at, none⟩
def b_happenings : Ss := (.cons (.ex (.call 50 (.cons (.var 0) (.cons (.var 1) (.cons (.var 2) .nil)))))
 (.cons (.ret (.bi .tuple (.sub .bad (.k (.int 1)))))
 .nil))
def f_happenings : FnD := ⟨"happenings", ["house", "callers", "time"], ["house", "callers", "time"], b_happenings, none⟩
abbrev f_journeys_by : FnD := f_is_integer
def b_journeys : Ss := (.cons (.ex (.call 50 (.cons (.var 0) (.cons (.var 1) (.cons (.var 2) .nil)))))
 (.cons (.ret .bad)
 .nil))
def f_journeys : FnD := ⟨"journeys", ["house", "callers", "time"], ["house", "callers", "time"], b_journeys, none⟩
def e__law_hand_1 : E := (.bi .abs (.bi .int (.var 2)))
def x__law_hand_2 : E := .lc e__law_hand_1 (.n 2) (.e (.slc (.var 0) .no (.so (.k (.int 63))))) .no [2]
def b__law_hand : Ss := (.cons (.asg (.n 1) x__law_hand_2)
 (.cons (.ret (.lis (.cons (.var 1) (.cons (.k (.int 0)) (.cons (.k (.int 0)) (.cons (.bin .add (.k (.int 967)) (.bin .mul (.k (.int 190)) (.bi .len (.var 1)))) (.cons (.k (.int 0)) .nil)))))))
 .nil))
def f__law_hand : FnD := ⟨"_law_hand", ["script"], ["script", "cells", "cell"], b__law_hand, none⟩
def b__law_draw : Ss := (.cons (.ifs (.bo true (.cons (.cmp .eq (.sub (.var 0) (.k (.int 2))) (.k (.int 0))) (.cons (.cmp .lt (.sub (.var 0) (.k (.int 1))) (.bi .len (.sub (.var 0) (.k (.int 0))))) .nil))) (.cons (.asg (.n 2) (.sub (.sub (.var 0) (.k (.int 0))) (.sub (.var 0) (.k (.int 1)))))
 (.cons (.sti 0 (.k (.int 1)) (.bin .add (.sub (.var 0) (.k (.int 1))) (.k (.int 1))))
 (.cons (.sti 0 (.k (.int 3)) (.bin .mod (.bi .int (.bin .add (.bin .add (.bin .mul (.sub (.var 0) (.k (.int 3))) (.k (.int 69621))) (.var 2)) (.k (.int 103)))) (.k (.int 2147483629))))
 (.cons (.ifs (.cmp .ge (.var 2) (.bin .pow (.k (.int 10)) (.k (.int 18)))) (.cons (.sti 0 (.k (.int 2)) (.var 2))
 .nil) .nil)
 .nil)))) .nil)
 (.cons (.ifs (.cmp .gt (.sub (.var 0) (.k (.int 2))) (.k (.int 0))) (.cons (.asg (.n 3) (.bin .mod (.bi .int (.sub (.var 0) (.k (.int 2)))) (.var 1)))
 (.cons (.sti 0 (.k (.int 2)) (.bin .fdiv (.sub (.var 0) (.k (.int 2))) (.var 1)))
 (.cons (.ret (.var 3))
 .nil))) .nil)
 (.cons (.sti 0 (.k (.int 4)) (.bin .add (.sub (.var 0) (.k (.int 4))) (.k (.int 1))))
 (.cons (.asg (.n 4) (.bin .mod (.bi .int (.bin .mul (.bi .int (.bin .add (.sub (.var 0) (.k (.int 3))) (.bin .mul (.k (.int 7919)) (.sub (.var 0) (.k (.int 4)))))) (.k (.int 48271)))) (.k (.int 2147483647))))
 (.cons (.asg (.n 4) (.bin .mod (.bi .int (.bin .mul (.var 4) (.bin .add (.bin .fdiv (.var 4) (.k (.int 1009))) (.k (.int 69621))))) (.k (.int 2147483647))))
 (.cons (.asg (.n 4) (.bin .mod (.bi .int (.bin .mul (.var 4) (.bin .add (.bin .fdiv (.var 4) (.k (.int 2003))) (.k (.int 40692))))) (.k (.int 2147483399))))
 (.cons (.ret (.bin .mod (.bi .int (.bin .fdiv (.var 4) (.k (.int 16)))) (.var 1)))
 .nil)))))))
def f__law_draw : FnD := ⟨"_law_draw", ["hand", "many"], ["hand", "many", "cell", "digit", "number"], b__law_draw, none⟩
def b__law_some : Ss := (.cons (.ret (.sub (.var 1) (.call 56 (.cons (.var 0) (.cons (.bi .len (.var 1)) .nil)))))
 .nil)
def f__law_some : FnD := ⟨"_law_some", ["hand", "things"], ["hand", "things"], b__law_some, none⟩
def e__law_is_1 : E := (.call 58 (.cons (.sub (.var 0) (.var 2)) (.cons (.sub (.var 1) (.var 2)) .nil)))
def x__law_is_2 : E := .lc e__law_is_1 (.n 2) (.rng (.bi .len (.var 1))) .no [2]
def b__law_is : Ss := (.cons (.ifs (.bo false (.cons (.isi .tuple (.var 1)) (.cons (.isi .list (.var 1)) .nil))) (.cons (.ifs (.cmp .ne (.isi .tuple (.var 0)) (.isi .tuple (.var 1))) (.cons (.ret (.k (.bool false)))
 .nil) .nil)
 (.cons (.ifs (.cmp .ne (.isi .list (.var 0)) (.isi .list (.var 1))) (.cons (.ret (.k (.bool false)))
 .nil) .nil)
 (.cons (.ifs (.cmp .ne (.bi .len (.var 0)) (.bi .len (.var 1))) (.cons (.ret (.k (.bool false)))
 .nil) .nil)
 (.cons (.ret (.bi .all x__law_is_2))
 .nil)))) .nil)
 (.cons (.ifs (.cmp .is (.var 1) (.k (.none))) (.cons (.ret (.cmp .is (.var 0) (.k (.none))))
 .nil) .nil)
 (.cons (.ifs (.bo false (.cons (.cmp .ne (.isi .bool (.var 0)) (.isi .bool (.var 1))) (.cons (.cmp .ne (.isi .int (.var 0)) (.isi .int (.var 1))) .nil))) (.cons (.ret (.k (.bool false)))
 .nil) .nil)
 (.cons (.ret (.bo true (.cons (.cmp .eq (.isi .str (.var 0)) (.isi .str (.var 1))) (.cons (.cmp .eq (.var 0) (.var 1)) .nil))))
 .nil))))
def f__law_is : FnD := ⟨"_law_is", ["said", "due"], ["said", "due", "k"], b__law_is, none⟩
def b__law_deep_1 : Ss := (.cons (.asg (.n 1) (.ite (.cmp .eq (.call 56 (.cons (.var 0) (.cons (.k (.int 2)) .nil))) (.k (.int 0))) (.tup (.cons (.k (.str [63])) (.cons (.var 1) .nil))) (.lis (.cons (.var 1) .nil))))
 .nil)
def b__law_deep : Ss := (.cons (.asg (.n 1) (.k (.str [63])))
 (.cons (.for_ (.n 2) (.rng (.bin .add (.k (.int 5)) (.call 56 (.cons (.var 0) (.cons (.k (.int 20)) .nil))))) b__law_deep_1)
 (.cons (.ret (.var 1))
 .nil)))
def f__law_deep : FnD := ⟨"_law_deep", ["hand"], ["hand", "found", "turn"], b__law_deep, none⟩
def b__law_is_int : Ss := (.cons (.ret (.bo true (.cons (.isi .int (.var 0)) (.cons (.not (.isi .bool (.var 0))) .nil))))
 .nil)
def f__law_is_int : FnD := ⟨"_law_is_int", ["thing"], ["thing"], b__law_is_int, none⟩
def b__law_expr : Ss := (.cons (.asg (.n 2) (.call 56 (.cons (.var 0) (.cons (.k (.int 9)) .nil))))
 (.cons (.ifs (.bo false (.cons (.cmp .eq (.var 1) (.k (.int 0))) (.cons (.cmp .lt (.var 2) (.k (.int 3))) .nil))) (.cons (.asg (.n 3) (.lis (.cons (.tup (.cons (.k (.str [105, 110, 116])) (.cons (.call 56 (.cons (.var 0) (.cons (.k (.int 4)) .nil))) .nil))) (.cons (.tup (.cons (.k (.str [99, 101, 108, 108])) (.cons (.call 56 (.cons (.var 0) (.cons (.k (.int 2)) .nil))) .nil))) .nil))))
 (.cons (.app 3 (.tup (.cons (.k (.str [109, 121])) (.cons (.call 57 (.cons (.var 0) (.cons (.lis (.cons (.k (.str [97, 116])) (.cons (.k (.str [108, 111, 97, 100])) (.cons (.k (.str [108, 101, 102, 116])) (.cons (.k (.str [108, 111, 119])) (.cons (.k (.str [104, 105, 103, 104])) (.cons (.k (.str [109, 101])) (.cons (.k (.str [116, 111, 112])) .nil)))))))) .nil))) .nil))))
 (.cons (.ret (.call 57 (.cons (.var 0) (.cons (.var 3) .nil))))
 .nil))) .nil)
 (.cons (.ifs (.cmp .eq (.var 2) (.k (.int 3))) (.cons (.ret (.tup (.cons (.k (.str [110, 111, 116])) (.cons (.call 61 (.cons (.var 0) (.cons (.bin .sub (.var 1) (.k (.int 1))) .nil))) .nil))))
 .nil) .nil)
 (.cons (.ifs (.cmp .eq (.var 2) (.k (.int 4))) (.cons (.ret (.tup (.cons (.k (.str [97, 116])) (.cons (.call 57 (.cons (.var 0) (.cons (.lis (.cons (.k (.str [119, 97, 105, 116, 105, 110, 103])) (.cons (.k (.str [114, 105, 115, 105, 110, 103])) (.cons (.k (.str [119, 105, 115, 104, 105, 110, 103])) (.cons (.k (.str [102, 108, 111, 111, 114])) .nil))))) .nil))) (.cons (.call 61 (.cons (.var 0) (.cons (.bin .sub (.var 1) (.k (.int 1))) .nil))) .nil)))))
 .nil) .nil)
 (.cons (.ifs (.cmp .eq (.var 2) (.k (.int 5))) (.cons (.ret (.tup (.cons (.k (.str [102, 114, 111, 109])) (.cons (.call 57 (.cons (.var 0) (.cons (.lis (.cons (.k (.str [119, 97, 105, 116, 105, 110, 103])) (.cons (.k (.str [114, 105, 115, 105, 110, 103])) (.cons (.k (.str [119, 105, 115, 104, 105, 110, 103])) .nil)))) .nil))) (.cons (.call 61 (.cons (.var 0) (.cons (.bin .sub (.var 1) (.k (.int 1))) .nil))) (.cons (.call 61 (.cons (.var 0) (.cons (.bin .sub (.var 1) (.k (.int 1))) .nil))) .nil))))))
 .nil) .nil)
 (.cons (.asg (.n 4) (.call 57 (.cons (.var 0) (.cons (.lis (.cons (.k (.str [111, 114])) (.cons (.k (.str [97, 110, 100])) (.cons (.k (.str [60])) (.cons (.k (.str [60, 61])) (.cons (.k (.str [61, 61])) (.cons (.k (.str [43])) (.cons (.k (.str [45])) (.cons (.k (.str [42])) (.cons (.k (.str [109, 105, 110])) (.cons (.k (.str [109, 97, 120])) .nil))))))))))) .nil))))
 (.cons (.ret (.tup (.cons (.var 4) (.cons (.call 61 (.cons (.var 0) (.cons (.bin .sub (.var 1) (.k (.int 1))) .nil))) (.cons (.call 61 (.cons (.var 0) (.cons (.bin .sub (.var 1) (.k (.int 1))) .nil))) .nil)))))
 .nil)))))))
def f__law_expr : FnD := ⟨"_law_expr", ["hand", "depth"], ["hand", "depth", "kind", "some", "word"], b__law_expr, none⟩
def b__law_policy_1 : Ss := (.cons (.asg (.n 8) (.call 57 (.cons (.var 0) (.cons (.lis (.cons (.tup (.cons (.k (.str [103, 111])) (.cons (.k (.str [117, 112])) .nil))) (.cons (.tup (.cons (.k (.str [103, 111])) (.cons (.k (.str [100, 111, 119, 110])) .nil))) (.cons (.tup (.cons (.k (.str [103, 111])) (.cons (.k (.str [111, 112, 101, 110])) .nil))) (.cons (.tup (.cons (.k (.str [103, 111])) (.cons (.k (.str [115, 116, 97, 121])) .nil))) (.cons (.tup (.cons (.k (.str [112, 117, 116])) (.cons (.k (.int 1)) (.cons (.call 61 (.cons (.var 0) (.cons (.k (.int 2)) .nil))) .nil)))) .nil)))))) .nil))))
 (.cons (.app 6 (.call 57 (.cons (.var 0) (.cons (.lis (.cons (.tup (.cons (.k (.str [112, 117, 116])) (.cons (.call 56 (.cons (.var 0) (.cons (.k (.int 2)) .nil))) (.cons (.call 61 (.cons (.var 0) (.cons (.k (.int 2)) .nil))) .nil)))) (.cons (.tup (.cons (.k (.str [105, 102])) (.cons (.call 61 (.cons (.var 0) (.cons (.k (.int 2)) .nil))) (.cons (.tup (.cons (.var 8) .nil)) (.cons (.tup .nil) .nil))))) .nil))) .nil))))
 .nil))
def b__law_policy : Ss := (.cons (.asg (.n 1) (.tup (.cons (.k (.str [109, 121])) (.cons (.k (.str [97, 116])) .nil))))
 (.cons (.asg (.n 2) (.tup (.cons (.k (.str [111, 114])) (.cons (.tup (.cons (.k (.str [97, 116])) (.cons (.k (.str [119, 97, 105, 116, 105, 110, 103])) (.cons (.var 1) .nil)))) (.cons (.tup (.cons (.k (.str [97, 116])) (.cons (.k (.str [119, 105, 115, 104, 105, 110, 103])) (.cons (.var 1) .nil)))) .nil)))))
 (.cons (.asg (.n 3) (.tup (.cons (.k (.str [105, 102])) (.cons (.tup (.cons (.k (.str [61, 61])) (.cons (.var 1) (.cons (.tup (.cons (.k (.str [109, 121])) (.cons (.k (.str [104, 105, 103, 104])) .nil))) .nil)))) (.cons (.tup (.cons (.tup (.cons (.k (.str [112, 117, 116])) (.cons (.k (.int 0)) (.cons (.tup (.cons (.k (.str [105, 110, 116])) (.cons (.k (.int 1)) .nil))) .nil)))) .nil)) (.cons (.tup .nil) .nil))))))
 (.cons (.asg (.n 4) (.tup (.cons (.k (.str [105, 102])) (.cons (.tup (.cons (.k (.str [61, 61])) (.cons (.var 1) (.cons (.tup (.cons (.k (.str [109, 121])) (.cons (.k (.str [108, 111, 119])) .nil))) .nil)))) (.cons (.tup (.cons (.tup (.cons (.k (.str [112, 117, 116])) (.cons (.k (.int 0)) (.cons (.tup (.cons (.k (.str [105, 110, 116])) (.cons (.k (.int 0)) .nil))) .nil)))) .nil)) (.cons (.tup .nil) .nil))))))
 (.cons (.asg (.n 5) (.tup (.cons (.tup (.cons (.k (.str [105, 102])) (.cons (.var 2) (.cons (.tup (.cons (.tup (.cons (.k (.str [103, 111])) (.cons (.k (.str [111, 112, 101, 110])) .nil))) .nil)) (.cons (.tup .nil) .nil))))) (.cons (.var 3) (.cons (.var 4) (.cons (.tup (.cons (.k (.str [105, 102])) (.cons (.tup (.cons (.k (.str [99, 101, 108, 108])) (.cons (.k (.int 0)) .nil))) (.cons (.tup (.cons (.tup (.cons (.k (.str [103, 111])) (.cons (.k (.str [100, 111, 119, 110])) .nil))) .nil)) (.cons (.tup (.cons (.tup (.cons (.k (.str [103, 111])) (.cons (.k (.str [117, 112])) .nil))) .nil)) .nil))))) .nil))))))
 (.cons (.asg (.n 6) (.lis .nil))
 (.cons (.for_ (.n 7) (.rng (.call 56 (.cons (.var 0) (.cons (.k (.int 3)) .nil)))) b__law_policy_1)
 (.cons (.ret (.bin .add (.bi .tuple (.var 6)) (.call 57 (.cons (.var 0) (.cons (.lis (.cons (.var 5) (.cons (.var 5) (.cons (.bin .add (.slc (.var 5) .no (.so (.k (.int 1)))) (.tup (.cons (.tup (.cons (.k (.str [103, 111])) (.cons (.k (.str [117, 112])) .nil))) .nil))) (.cons (.slc (.var 5) (.so (.k (.int 1))) .no) .nil))))) .nil)))))
 .nil))))))))
def f__law_policy : FnD := ⟨"_law_policy", ["hand"], ["hand", "here", "asked", "turn", "back", "ride", "ahead", "step", "deed"], b__law_policy, none⟩
def b__law_house_1 : Ss := (.cons (.asg (.n 4) (.call 56 (.cons (.var 0) (.cons (.bin .sub (.var 1) (.k (.int 1))) .nil))))
 (.cons (.asg (.n 5) (.bin .add (.bin .add (.var 4) (.k (.int 1))) (.call 56 (.cons (.var 0) (.cons (.bin .sub (.bin .sub (.var 1) (.k (.int 1))) (.var 4)) .nil)))))
 (.cons (.asg (.t [4, 5]) (.call 57 (.cons (.var 0) (.cons (.lis (.cons (.tup (.cons (.var 4) (.cons (.var 5) .nil))) (.cons (.tup (.cons (.k (.int 0)) (.cons (.bin .sub (.var 1) (.k (.int 1))) .nil))) .nil))) .nil))))
 (.cons (.app 2 (.tup (.cons (.bin .add (.k (.int 1)) (.call 56 (.cons (.var 0) (.cons (.k (.int 2)) .nil)))) (.cons (.var 4) (.cons (.var 5) (.cons (.bin .add (.var 4) (.call 56 (.cons (.var 0) (.cons (.bin .add (.bin .sub (.var 5) (.var 4)) (.k (.int 1))) .nil)))) .nil))))))
 .nil))))
def b__law_house : Ss := (.cons (.par [1, 2] (.cons (.bin .add (.k (.int 2)) (.call 56 (.cons (.var 0) (.cons (.k (.int 3)) .nil)))) (.cons (.lis .nil) .nil)))
 (.cons (.for_ (.n 3) (.rng (.bin .add (.k (.int 1)) (.bi .int (.cmp .eq (.call 56 (.cons (.var 0) (.cons (.k (.int 3)) .nil))) (.k (.int 0)))))) b__law_house_1)
 (.cons (.ret (.tup (.cons (.var 1) (.cons (.bi .tuple (.var 2)) (.cons (.call 62 (.cons (.var 0) .nil)) .nil)))))
 .nil)))
def f__law_house : FnD := ⟨"_law_house", ["hand"], ["hand", "floors", "cars", "car", "low", "high"], b__law_house, none⟩
def b__law_callers_1 : Ss := (.cons (.asg (.n 4) (.bin .add (.var 4) (.call 57 (.cons (.var 0) (.cons (.lis (.cons (.k (.int 0)) (.cons (.k (.int 0)) (.cons (.k (.int 1)) (.cons (.k (.int 2)) (.cons (.k (.int 5)) .nil)))))) .nil)))))
 (.cons (.asg (.n 6) (.call 56 (.cons (.var 0) (.cons (.sub (.var 1) (.k (.int 0))) .nil))))
 (.cons (.app 3 (.tup (.cons (.var 4) (.cons (.var 6) (.cons (.bin .mod (.bi .int (.bin .add (.bin .add (.var 6) (.k (.int 1))) (.call 56 (.cons (.var 0) (.cons (.bin .sub (.sub (.var 1) (.k (.int 0))) (.k (.int 1))) .nil))))) (.sub (.var 1) (.k (.int 0)))) .nil)))))
 .nil)))
def b__law_callers : Ss := (.cons (.par [3, 4] (.cons (.lis .nil) (.cons (.k (.int 0)) .nil)))
 (.cons (.for_ (.n 5) (.rng (.call 56 (.cons (.var 0) (.cons (.bin .add (.var 2) (.k (.int 1))) .nil)))) b__law_callers_1)
 (.cons (.ret (.bi .tuple (.var 3)))
 .nil)))
def f__law_callers : FnD := ⟨"_law_callers", ["hand", "house", "most"], ["hand", "house", "most", "found", "time", "caller", "one"], b__law_callers, none⟩
def b__law_word : Ss := (.cons (.asg (.n 1) (.k (.str [116, 111, 108, 100])))
 (.cons (.try_ (.cons (.ex (.cloc 0))
 .nil) 0 2 (.cons (.asg (.n 3) (.lis (.cons (.isx 2 1) (.cons (.isx 2 2) (.cons (.isx 2 3) .nil)))))
 (.cons (.asg (.n 3) (.bin .add (.var 3) (.lis (.cons (.isx 2 4) (.cons (.isx 2 5) (.cons (.isx 2 6) .nil))))))
 (.cons (.asg (.n 1) (.k (.str [111, 116, 104, 101, 114])))
 (.cons (.ifs (.bo true (.cons (.cmp .eq (.cnt 3 (.bool true)) (.k (.int 1))) (.cons (.isx 2 7) .nil))) (.cons (.asg (.n 1) (.sub (.lis (.cons (.k (.str [99, 97, 108, 108, 101, 114])) (.cons (.k (.str [99, 97, 108, 108, 101, 114, 115])) (.cons (.k (.str [104, 111, 117, 115, 101])) (.cons (.k (.str [110, 117, 109, 98, 101, 114])) (.cons (.k (.str [116, 105, 109, 101])) (.cons (.k (.str [109, 97, 110, 121])) .nil))))))) (.idx 3 (.bool true))))
 .nil) .nil)
 .nil)))))
 (.cons (.ret (.var 1))
 .nil)))
def f__law_word : FnD := ⟨"_law_word", ["call"], ["call", "found", "error", "flags"], b__law_word, none⟩
def e__law_is_caller_1 : E := (.call 60 (.cons (.var 2) .nil))
def x__law_is_caller_2 : E := .lc e__law_is_caller_1 (.n 2) (.e (.var 1)) .no [2]
def b__law_is_caller : Ss := (.cons (.ifs (.bo false (.cons (.not (.isi .tuple (.var 1))) (.cons (.cmp .ne (.bi .len (.var 1)) (.k (.int 3))) (.cons (.not (.bi .all x__law_is_caller_2)) .nil)))) (.cons (.ret (.k (.bool false)))
 .nil) .nil)
 (.cons (.asg (.t [3, 2, 4]) (.var 1))
 (.cons (.ret (.bo true (.cons (.chn .le .le (.k (.int 0)) (.var 3) (.k (.int 200))) (.cons (.chn .le .lt (.k (.int 0)) (.var 2) (.sub (.var 0) (.k (.int 0)))) (.cons (.chn .le .lt (.k (.int 0)) (.var 4) (.sub (.var 0) (.k (.int 0)))) (.cons (.cmp .ne (.var 2) (.var 4)) .nil))))))
 .nil)))
def f__law_is_caller : FnD := ⟨"_law_is_caller", ["house", "thing"], ["house", "thing", "one", "time", "other"], b__law_is_caller, none⟩
def e__law_are_callers_1 : E := (.cmp .le (.sub (.var 2) (.k (.int 0))) (.sub (.var 3) (.k (.int 0))))
def x__law_are_callers_2 : E := .lc e__law_are_callers_1 (.t [2, 3]) (.zip (.var 1) (.slc (.var 1) (.so (.k (.int 1))) .no)) .no [2, 3]
def e__law_are_callers_3 : E := (.call 66 (.cons (.var 0) (.cons (.var 2) .nil)))
def x__law_are_callers_4 : E := .lc e__law_are_callers_3 (.n 2) (.e (.var 1)) .no [2]
def b__law_are_callers : Ss := (.cons (.ifs (.not (.isi .tuple (.var 1))) (.cons (.ret (.k (.bool false)))
 .nil) .nil)
 (.cons (.ifs (.cmp .gt (.bi .len (.var 1)) (.k (.int 20))) (.cons (.ret (.k (.bool false)))
 .nil) .nil)
 (.cons (.ifs (.not (.bi .all x__law_are_callers_4)) (.cons (.ret (.k (.bool false)))
 .nil) .nil)
 (.cons (.ret (.bi .all x__law_are_callers_2))
 .nil))))
def f__law_are_callers : FnD := ⟨"_law_are_callers", ["house", "thing"], ["house", "thing", "one", "other"], b__law_are_callers, none⟩
def b__law_no_caller : Ss := (.cons (.asg (.n 2) (.lis (.cons (.k (.none)) (.cons (.k (.str [63])) (.cons (.tup (.cons (.k (.int 0)) (.cons (.k (.int 0)) (.cons (.k (.int 0)) .nil)))) (.cons (.tup (.cons (.k (.int 0)) (.cons (.k (.int 0)) (.cons (.sub (.var 1) (.k (.int 0))) .nil)))) (.cons (.tup (.cons (.k (.int 201)) (.cons (.k (.int 0)) (.cons (.k (.int 1)) .nil)))) (.cons (.tup (.cons (.neg (.k (.int 1))) (.cons (.k (.int 0)) (.cons (.k (.int 1)) .nil)))) (.cons (.tup (.cons (.k (.int 0)) (.cons (.k (.int 0)) .nil))) (.cons (.tup (.cons (.k (.int 0)) (.cons (.k (.int 0)) (.cons (.k (.int 1)) (.cons (.k (.int 2)) .nil))))) (.cons (.lis (.cons (.k (.int 0)) (.cons (.k (.int 0)) (.cons (.k (.int 1)) .nil)))) (.cons (.tup (.cons (.k (.bool true)) (.cons (.k (.int 0)) (.cons (.k (.int 1)) .nil)))) (.cons (.tup (.cons (.k (.int 0)) (.cons (.neg (.k (.int 1))) (.cons (.k (.int 1)) .nil)))) (.cons (.k (.int 5)) .nil))))))))))))))
 (.cons (.ret (.call 57 (.cons (.var 0) (.cons (.bin .add (.var 2) (.lis (.cons (.tup (.cons (.k (.int 0)) (.cons (.k (.str [63])) (.cons (.k (.int 1)) .nil)))) (.cons (.tup (.cons (.tup (.cons (.k (.int 0)) (.cons (.k (.int 0)) (.cons (.k (.int 1)) .nil)))) .nil)) (.cons (.call 59 (.cons (.var 0) .nil)) .nil))))) .nil))))
 .nil))
def f__law_no_caller : FnD := ⟨"_law_no_caller", ["hand", "house"], ["hand", "house", "some"], b__law_no_caller, none⟩
def b__law_are_refused : Ss := (.cons (.par [3, 4] (.cons (.call 57 (.cons (.var 0) (.cons (.lis (.cons (.k (.none)) (.cons (.k (.str [63])) (.cons (.tup .nil) (.cons (.slc (.var 1) .no (.so (.k (.int 2)))) (.cons (.bi .list (.var 1)) .nil)))))) .nil))) (.cons (.call 57 (.cons (.var 0) (.cons (.lis (.cons (.k (.none)) (.cons (.k (.str [63])) (.cons (.tup (.cons (.k (.none)) .nil)) (.cons (.lis (.cons (.var 2) .nil)) (.cons (.tup (.cons (.tup (.cons (.k (.int 3)) (.cons (.k (.int 0)) (.cons (.k (.int 1)) .nil)))) (.cons (.tup (.cons (.k (.int 2)) (.cons (.k (.int 0)) (.cons (.k (.int 1)) .nil)))) .nil))) (.cons (.k (.int 5)) .nil))))))) .nil))) .nil)))
 (.cons (.asg (.n 5) (.call 57 (.cons (.var 0) (.cons (.lis (.cons (.neg (.k (.int 1))) (.cons (.k (.none)) (.cons (.k (.bool true)) (.cons (.k (.str [63])) (.cons (.k (.int 401)) (.cons (.tup (.cons (.k (.int 0)) .nil)) .nil))))))) .nil))))
 (.cons (.par [6, 7] (.cons (.bin .mul (.tup (.cons (.tup (.cons (.k (.int 0)) (.cons (.k (.int 0)) (.cons (.k (.int 1)) .nil)))) .nil)) (.k (.int 20))) (.cons (.tup (.cons (.k (.int 0)) (.cons (.k (.int 0)) (.cons (.k (.int 1)) .nil)))) .nil)))
 (.cons (.asg (.n 8) (.lis (.cons (.lam 65 none (.call 23 (.cons (.var 3) (.cons (.var 4) .nil)))) .nil)))
 (.cons (.app 8 (.lam 65 none (.call 23 (.cons (.var 1) (.cons (.var 4) .nil)))))
 (.cons (.app 8 (.lam 65 none (.call 24 (.cons (.var 1) (.cons (.var 4) .nil)))))
 (.cons (.app 8 (.lam 65 none (.call 26 (.cons (.var 1) (.cons (.var 4) (.cons (.var 5) .nil))))))
 (.cons (.app 8 (.lam 65 none (.call 26 (.cons (.var 1) (.cons (.var 2) (.cons (.var 5) .nil))))))
 (.cons (.app 8 (.lam 65 none (.call 20 (.cons (.var 1) (.cons (.var 4) .nil)))))
 (.cons (.app 8 (.lam 65 (some 0) (.call 27 (.cons (.var 1) (.cons (.var 4) (.cons (.call 68 (.cons (.var 0) (.cons (.var 1) .nil))) .nil))))))
 (.cons (.app 8 (.lam 65 (some 0) (.call 27 (.cons (.var 1) (.cons (.var 2) (.cons (.call 68 (.cons (.var 0) (.cons (.var 1) .nil))) .nil))))))
 (.cons (.app 8 (.lam 65 none (.call 27 (.cons (.var 1) (.cons (.var 6) (.cons (.var 7) .nil))))))
 (.cons (.app 8 (.lam 65 (some 0) (.call 28 (.cons (.var 1) (.cons (.var 2) (.cons (.call 57 (.cons (.var 0) (.cons (.lis (.cons (.neg (.k (.int 1))) (.cons (.bi .len (.var 2)) (.cons (.k (.none)) (.cons (.k (.bool true)) (.cons (.k (.str [63])) .nil)))))) .nil))) .nil))))))
 (.cons (.app 8 (.lam 65 (some 0) (.call 29 (.cons (.var 1) (.cons (.var 2) (.cons (.call 57 (.cons (.var 0) (.cons (.lis (.cons (.neg (.k (.int 1))) (.cons (.k (.int 201)) (.cons (.k (.none)) (.cons (.k (.bool true)) (.cons (.k (.str [63])) .nil)))))) .nil))) .nil))))))
 (.cons (.app 8 (.lam 65 none (.call 30 (.cons (.var 3) (.cons (.var 4) .nil)))))
 (.cons (.app 8 (.lam 65 none (.call 51 (.cons (.var 1) (.cons (.var 2) (.cons (.var 5) .nil))))))
 (.cons (.app 8 (.lam 65 none (.call 52 (.cons (.var 1) (.cons (.var 4) (.cons (.var 5) .nil))))))
 (.cons (.app 8 (.lam 65 none (.call 54 (.cons (.var 3) (.cons (.var 4) (.cons (.var 5) .nil))))))
 (.cons (.asg (.n 9) (.lis (.cons (.k (.str [104, 111, 117, 115, 101])) (.cons (.k (.str [99, 97, 108, 108, 101, 114, 115])) (.cons (.k (.str [99, 97, 108, 108, 101, 114, 115])) (.cons (.k (.str [99, 97, 108, 108, 101, 114, 115])) (.cons (.k (.str [116, 105, 109, 101])) (.cons (.k (.str [99, 97, 108, 108, 101, 114, 115])) (.cons (.k (.str [99, 97, 108, 108, 101, 114, 115])) (.cons (.k (.str [99, 97, 108, 108, 101, 114])) (.cons (.k (.str [109, 97, 110, 121])) (.cons (.k (.str [110, 117, 109, 98, 101, 114])) (.cons (.k (.str [116, 105, 109, 101])) (.cons (.k (.str [104, 111, 117, 115, 101])) (.cons (.k (.str [116, 105, 109, 101])) .nil)))))))))))))))
 (.cons (.ret (.cmp .eq (.var 8) (.bin .add (.var 9) (.lis (.cons (.k (.str [99, 97, 108, 108, 101, 114, 115])) (.cons (.k (.str [104, 111, 117, 115, 101])) .nil))))))
 .nil))))))))))))))))))))
def f__law_are_refused : FnD := ⟨"_law_are_refused", ["hand", "house", "callers"], ["hand", "house", "callers", "no", "bad", "odd", "full", "caller", "words", "due"], b__law_are_refused, none⟩
def b_law_1 : Ss := (.cons (.ifs (.not (.call 58 (.cons (.call 18 (.cons (.var 5) (.cons (.var 10) .nil))) (.cons (.call 67 (.cons (.var 5) (.cons (.var 10) .nil))) .nil)))) (.cons (.ret (.k (.bool false)))
 .nil) .nil)
 .nil)
def b_law_2 : Ss := (.cons (.asg (.n 5) (.call 63 (.cons (.var 1) .nil)))
 (.cons (.par [6, 7] (.cons (.call 64 (.cons (.var 1) (.cons (.var 5) (.cons (.k (.int 6)) .nil)))) (.cons (.call 68 (.cons (.var 1) (.cons (.var 5) .nil))) .nil)))
 (.cons (.asg (.n 8) (.call 56 (.cons (.var 1) (.cons (.bin .add (.bi .len (.var 6)) (.k (.int 1))) .nil))))
 (.cons (.asg (.n 9) (.lis (.cons (.var 6) (.cons (.bi .list (.var 6)) (.cons (.rev (.var 6)) (.cons (.bin .add (.bin .add (.slc (.var 6) .no (.so (.var 8))) (.tup (.cons (.var 7) .nil))) (.slc (.var 6) (.so (.var 8)) .no)) (.cons (.bin .add (.var 6) (.bin .mul (.tup (.cons (.tup (.cons (.k (.int 200)) (.cons (.k (.int 0)) (.cons (.k (.int 1)) .nil)))) .nil)) (.k (.int 15)))) (.cons (.bin .add (.var 6) (.var 6)) .nil))))))))
 (.cons (.for_ (.n 10) (.e (.bin .add (.var 9) (.lis (.cons (.bin .add (.tup (.cons (.tup (.cons (.k (.int 200)) (.cons (.k (.int 1)) (.cons (.k (.int 0)) .nil)))) .nil)) (.var 6)) (.cons (.k (.none)) (.cons (.k (.int 5)) (.cons .edc (.cons (.k (.str [63])) (.cons (.tup .nil) (.cons (.var 7) (.cons (.call 59 (.cons (.var 1) .nil)) .nil))))))))))) b_law_1)
 (.cons (.ifs (.not (.call 69 (.cons (.var 1) (.cons (.var 5) (.cons (.var 6) .nil))))) (.cons (.ret (.k (.bool false)))
 .nil) .nil)
 .nil))))))
def b_law : Ss := (.cons (.asg (.n 1) (.call 55 (.cons (.var 0) .nil)))
 (.cons (.asg (.n 2) (.tup (.cons (.k (.int 2)) (.cons (.tup (.cons (.tup (.cons (.k (.int 1)) (.cons (.k (.int 0)) (.cons (.k (.int 1)) (.cons (.k (.int 0)) .nil))))) .nil)) (.cons (.tup (.cons (.tup (.cons (.k (.str [103, 111])) (.cons (.k (.str [117, 112])) .nil))) .nil)) .nil)))))
 (.cons (.asg (.n 3) (.lis (.cons (.call 18 (.cons (.var 2) (.cons (.tup .nil) .nil))) (.cons (.call 18 (.cons (.var 2) (.cons (.tup (.cons (.tup (.cons (.k (.int 0)) (.cons (.k (.int 0)) (.cons (.k (.int 1)) .nil)))) (.cons (.tup (.cons (.k (.int 0)) (.cons (.k (.int 1)) (.cons (.k (.int 0)) .nil)))) .nil))) .nil))) (.cons (.call 18 (.cons (.var 2) (.cons (.tup (.cons (.tup (.cons (.k (.int 1)) (.cons (.k (.int 0)) (.cons (.k (.int 1)) .nil)))) (.cons (.tup (.cons (.k (.int 0)) (.cons (.k (.int 1)) (.cons (.k (.int 0)) .nil)))) .nil))) .nil))) (.cons (.call 18 (.cons (.var 2) (.cons (.tup (.cons (.tup (.cons (.k (.int 0)) (.cons (.k (.int 0)) (.cons (.k (.int 2)) .nil)))) .nil)) .nil))) .nil))))))
 (.cons (.ifs (.not (.call 58 (.cons (.var 3) (.cons (.lis (.cons (.k (.bool true)) (.cons (.k (.bool true)) (.cons (.k (.bool false)) (.cons (.k (.bool false)) .nil))))) .nil)))) (.cons (.ret (.k (.bool false)))
 .nil) .nil)
 (.cons (.for_ (.n 4) (.rng (.k (.int 3))) b_law_2)
 (.cons (.ret (.k (.bool true)))
 .nil))))))
def f_law : FnD := ⟨"law", ["script"], ["script", "hand", "known", "said", "turn", "house", "callers", "odd", "at", "things", "thing"], b_law, none⟩
def fns : List FnD := [f_is_integer, f_is_within, f_is_sized, f_is_word_of, f_inner, f_is_head, f_is_expr, f_parts_in, f_is_plain_statement, f_statements_in, f_exprs_of, f_is_policy] ++ [f_is_car, f_is_house, f_check_house, f_raw_rides, f_is_caller, f_raw_callers, f_is_callers, f_check_callers, f_callers_text, f_can_carry, f_raw_carriers, f_carriers] ++ [f_stranded, f_check_time, f_coming, f_put_in, f_taken_out, f_put_off, f_least_time, f_cut, f_table_of, f_asked_at, f_asked_from, f_own_of] ++ [f_op_of, f_worth_in, f_put_cell, f_made_by, f_raw_decided, f_raw_first, f_with_comers, f_raw_view, f_raw_decisions, f_opened, f_moved, f_told_deeds] ++ [f_raw_told, f_raw_run, f_check_run, f_state_at, f_happenings, f_journeys_by, f_journeys, f__law_hand, f__law_draw, f__law_some, f__law_is, f__law_deep] ++ [f__law_is_int, f__law_expr, f__law_policy, f__law_house, f__law_callers, f__law_word, f__law_is_caller, f__law_are_callers, f__law_no_caller, f__law_are_refused, f_law]
def g_OWN : Val := .tup [.str [97, 116], .str [108, 111, 97, 100], .str [108, 101, 102, 116], .str [108, 111, 119], .str [104, 105, 103, 104], .str [109, 101], .str [116, 111, 112]]
def g_COUNTS : Val := .tup [.str [119, 97, 105, 116, 105, 110, 103], .str [114, 105, 115, 105, 110, 103], .str [119, 105, 115, 104, 105, 110, 103]]
def g_ASKED : Val := .tup [.str [119, 97, 105, 116, 105, 110, 103], .str [114, 105, 115, 105, 110, 103], .str [119, 105, 115, 104, 105, 110, 103], .str [102, 108, 111, 111, 114]]
def g_PAIRS : Val := .tup [.str [111, 114], .str [97, 110, 100], .str [60], .str [60, 61], .str [61, 61], .str [43], .str [45], .str [42], .str [109, 105, 110], .str [109, 97, 120]]
def g_DEEDS : Val := .tup [.str [117, 112], .str [100, 111, 119, 110], .str [111, 112, 101, 110], .str [115, 116, 97, 121]]
def g_MOST_INT : Val := .int 99
def g_MOST_DEEP : Val := .int 10
def g_MOST_PARTS : Val := .int 30
def g_MOST_ALL : Val := .int 200
def g_MOST_STATEMENTS : Val := .int 40
def g_MOST_IFS : Val := .int 4
def g_FORMS : Val := .dct [.str [105, 110, 116], .str [109, 121], .str [99, 101, 108, 108], .str [97, 116], .str [102, 114, 111, 109], .str [110, 111, 116]] [.int 2, .int 2, .int 2, .int 3, .int 4, .int 2]
def g_MOST_FLOORS : Val := .int 8
def g_MOST_CARS : Val := .int 3
def g_MOST_ROOM : Val := .int 4
def g_MOST_CALLERS : Val := .int 20
def g_MOST_TIME : Val := .int 200
def g_MOST_TICKS : Val := .int 400
def g_LEAST : Val := .int (-99)
def g_MOST : Val := .int 99
def g_CELLS : Val := .int 8
def g_STAY : Val := .str [115, 116, 97, 121]
def g_COMES : Val := .str [99, 111, 109, 101, 115]
def g_IN : Val := .str [105, 110]
def g_OUT : Val := .str [111, 117, 116]
def gs : List (PySem.Str × Val) := [("OWN", g_OWN), ("COUNTS", g_COUNTS), ("ASKED", g_ASKED), ("PAIRS", g_PAIRS), ("DEEDS", g_DEEDS), ("MOST_INT", g_MOST_INT), ("MOST_DEEP", g_MOST_DEEP), ("MOST_PARTS", g_MOST_PARTS), ("MOST_ALL", g_MOST_ALL), ("MOST_STATEMENTS", g_MOST_STATEMENTS), ("MOST_IFS", g_MOST_IFS), ("FORMS", g_FORMS), ("MOST_FLOORS", g_MOST_FLOORS), ("MOST_CARS", g_MOST_CARS), ("MOST_ROOM", g_MOST_ROOM), ("MOST_CALLERS", g_MOST_CALLERS), ("MOST_TIME", g_MOST_TIME), ("MOST_TICKS", g_MOST_TICKS), ("LEAST", g_LEAST), ("MOST", g_MOST), ("CELLS", g_CELLS), ("STAY", g_STAY), ("COMES", g_COMES), ("IN", g_IN), ("OUT", g_OUT)]
def own : List PySem.Str := ["CallError", "NoCaller", "NoCallers", "NoHouse", "NoNumber", "NoTime", "TooMany"]
def bt : List String := ["ValueError"]
def subs : List (List Bool) := [[true, false, false, false, false, false, false, true], [true, true, false, false, false, false, false, true], [true, false, true, false, false, false, false, true], [true, false, false, true, false, false, false, true], [true, false, false, false, true, false, false, true], [true, false, false, false, false, true, false, true], [true, false, false, false, false, false, true, true]]
def sub (c d : Nat) : Bool := (subs.getD c []).getD d false
def prg (exs : List PySem.Str) : Pg := ⟨fns, gs, exs, sub, 100000⟩
def clsn : List PySem.Str := []
def fnm : List PySem.Str := []
abbrev i_is_integer : Nat := 0
abbrev i_is_within : Nat := 1
abbrev i_is_sized : Nat := 2
abbrev i_is_word_of : Nat := 3
abbrev i_inner : Nat := 4
abbrev i_is_head : Nat := 5
abbrev i_is_expr : Nat := 6
abbrev i_parts_in : Nat := 7
abbrev i_is_plain_statement : Nat := 8
abbrev i_statements_in : Nat := 9
abbrev i_exprs_of : Nat := 10
abbrev i_is_policy : Nat := 11
abbrev i_is_car : Nat := 12
abbrev i_is_house : Nat := 13
abbrev i_check_house : Nat := 14
abbrev i_raw_rides : Nat := 15
abbrev i_is_caller : Nat := 16
abbrev i_raw_callers : Nat := 17
abbrev i_is_callers : Nat := 18
abbrev i_check_callers : Nat := 19
abbrev i_callers_text : Nat := 20
abbrev i_can_carry : Nat := 21
abbrev i_raw_carriers : Nat := 22
abbrev i_carriers : Nat := 23
abbrev i_stranded : Nat := 24
abbrev i_check_time : Nat := 25
abbrev i_coming : Nat := 26
abbrev i_put_in : Nat := 27
abbrev i_taken_out : Nat := 28
abbrev i_put_off : Nat := 29
abbrev i_least_time : Nat := 30
abbrev i_cut : Nat := 31
abbrev i_table_of : Nat := 32
abbrev i_asked_at : Nat := 33
abbrev i_asked_from : Nat := 34
abbrev i_own_of : Nat := 35
abbrev i_op_of : Nat := 36
abbrev i_worth_in : Nat := 37
abbrev i_put_cell : Nat := 38
abbrev i_made_by : Nat := 39
abbrev i_raw_decided : Nat := 40
abbrev i_raw_first : Nat := 41
abbrev i_with_comers : Nat := 42
abbrev i_raw_view : Nat := 43
abbrev i_raw_decisions : Nat := 44
abbrev i_opened : Nat := 45
abbrev i_moved : Nat := 46
abbrev i_told_deeds : Nat := 47
abbrev i_raw_told : Nat := 48
abbrev i_raw_run : Nat := 49
abbrev i_check_run : Nat := 50
abbrev i_state_at : Nat := 51
abbrev i_happenings : Nat := 52
abbrev i_journeys_by : Nat := 53
abbrev i_journeys : Nat := 54
abbrev i__law_hand : Nat := 55
abbrev i__law_draw : Nat := 56
abbrev i__law_some : Nat := 57
abbrev i__law_is : Nat := 58
abbrev i__law_deep : Nat := 59
abbrev i__law_is_int : Nat := 60
abbrev i__law_expr : Nat := 61
abbrev i__law_policy : Nat := 62
abbrev i__law_house : Nat := 63
abbrev i__law_callers : Nat := 64
abbrev i__law_word : Nat := 65
abbrev i__law_is_caller : Nat := 66
abbrev i__law_are_callers : Nat := 67
abbrev i__law_no_caller : Nat := 68
abbrev i__law_are_refused : Nat := 69
abbrev i_law : Nat := 70
theorem u_is_integer (exs : List PySem.Str) (k : Nat) (ts : List T) (c : Option Clo) : (prg exs).call (k + 1) 0 ts c = (match Nat.beq ts.length 1 && fixOk [] 0 ts with | false => .no | true => (b_is_integer.ev ((prg exs).ec ((prg exs).call k) 1 c) (ts.map some ++ List.replicate 0 none)).cr ts) := rfl
theorem u_is_within (exs : List PySem.Str) (k : Nat) (ts : List T) (c : Option Clo) : (prg exs).call (k + 1) 1 ts c = (match Nat.beq ts.length 3 && fixOk [] 0 ts with | false => .no | true => (b_is_within.ev ((prg exs).ec ((prg exs).call k) 3 c) (ts.map some ++ List.replicate 0 none)).cr ts) := rfl
theorem u_is_sized (exs : List PySem.Str) (k : Nat) (ts : List T) (c : Option Clo) : (prg exs).call (k + 1) 2 ts c = (match Nat.beq ts.length 3 && fixOk [] 0 ts with | false => .no | true => (b_is_sized.ev ((prg exs).ec ((prg exs).call k) 3 c) (ts.map some ++ List.replicate 0 none)).cr ts) := rfl
theorem u_is_word_of (exs : List PySem.Str) (k : Nat) (ts : List T) (c : Option Clo) : (prg exs).call (k + 1) 3 ts c = (match Nat.beq ts.length 2 && fixOk [] 0 ts with | false => .no | true => (b_is_word_of.ev ((prg exs).ec ((prg exs).call k) 2 c) (ts.map some ++ List.replicate 0 none)).cr ts) := rfl
theorem u_inner (exs : List PySem.Str) (k : Nat) (ts : List T) (c : Option Clo) : (prg exs).call (k + 1) 4 ts c = (match Nat.beq ts.length 1 && fixOk [] 0 ts with | false => .no | true => (b_inner.ev ((prg exs).ec ((prg exs).call k) 1 c) (ts.map some ++ List.replicate 0 none)).cr ts) := rfl
theorem u_is_head (exs : List PySem.Str) (k : Nat) (ts : List T) (c : Option Clo) : (prg exs).call (k + 1) 5 ts c = (match Nat.beq ts.length 1 && fixOk [1] 0 ts with | false => .no | true => (b_is_head.ev ((prg exs).ec ((prg exs).call k) 1 c) (ts.map some ++ List.replicate 1 none)).cr ts) := rfl
theorem u_is_expr (exs : List PySem.Str) (k : Nat) (ts : List T) (c : Option Clo) : (prg exs).call (k + 1) 6 ts c = (match Nat.beq ts.length 1 && fixOk [1, 2, 3, 4, 2] 0 ts with | false => .no | true => (b_is_expr.ev ((prg exs).ec ((prg exs).call k) 1 c) (ts.map some ++ List.replicate 5 none)).cr ts) := rfl
theorem u_parts_in (exs : List PySem.Str) (k : Nat) (ts : List T) (c : Option Clo) : (prg exs).call (k + 1) 7 ts c = (match Nat.beq ts.length 1 && fixOk [] 0 ts with | false => .no | true => (b_parts_in.ev ((prg exs).ec ((prg exs).call k) 1 c) (ts.map some ++ List.replicate 1 none)).cr ts) := rfl
theorem u_is_plain_statement (exs : List PySem.Str) (k : Nat) (ts : List T) (c : Option Clo) : (prg exs).call (k + 1) 8 ts c = (match Nat.beq ts.length 1 && fixOk [] 0 ts with | false => .no | true => (b_is_plain_statement.ev ((prg exs).ec ((prg exs).call k) 1 c) (ts.map some ++ List.replicate 0 none)).cr ts) := rfl
theorem u_statements_in (exs : List PySem.Str) (k : Nat) (ts : List T) (c : Option Clo) : (prg exs).call (k + 1) 9 ts c = (match Nat.beq ts.length 1 && fixOk [1, 2, 3, 4, 5] 0 ts with | false => .no | true => (b_statements_in.ev ((prg exs).ec ((prg exs).call k) 1 c) (ts.map some ++ List.replicate 5 none)).cr ts) := rfl
theorem u_exprs_of (exs : List PySem.Str) (k : Nat) (ts : List T) (c : Option Clo) : (prg exs).call (k + 1) 10 ts c = (match Nat.beq ts.length 1 && fixOk [] 0 ts with | false => .no | true => (b_exprs_of.ev ((prg exs).ec ((prg exs).call k) 1 c) (ts.map some ++ List.replicate 0 none)).cr ts) := rfl
theorem u_is_policy (exs : List PySem.Str) (k : Nat) (ts : List T) (c : Option Clo) : (prg exs).call (k + 1) 11 ts c = (match Nat.beq ts.length 1 && fixOk [1] 0 ts with | false => .no | true => (b_is_policy.ev ((prg exs).ec ((prg exs).call k) 1 c) (ts.map some ++ List.replicate 3 none)).cr ts) := rfl
theorem u_is_car (exs : List PySem.Str) (k : Nat) (ts : List T) (c : Option Clo) : (prg exs).call (k + 1) 12 ts c = (match Nat.beq ts.length 2 && fixOk [2, 3] 0 ts with | false => .no | true => (b_is_car.ev ((prg exs).ec ((prg exs).call k) 2 c) (ts.map some ++ List.replicate 2 none)).cr ts) := rfl
theorem u_is_house (exs : List PySem.Str) (k : Nat) (ts : List T) (c : Option Clo) : (prg exs).call (k + 1) 13 ts c = (match Nat.beq ts.length 1 && fixOk [] 0 ts with | false => .no | true => (b_is_house.ev ((prg exs).ec ((prg exs).call k) 1 c) (ts.map some ++ List.replicate 1 none)).cr ts) := rfl
theorem u_check_house (exs : List PySem.Str) (k : Nat) (ts : List T) (c : Option Clo) : (prg exs).call (k + 1) 14 ts c = (match Nat.beq ts.length 1 && fixOk [] 0 ts with | false => .no | true => (b_check_house.ev ((prg exs).ec ((prg exs).call k) 1 c) (ts.map some ++ List.replicate 0 none)).cr ts) := rfl
theorem u_is_caller (exs : List PySem.Str) (k : Nat) (ts : List T) (c : Option Clo) : (prg exs).call (k + 1) 16 ts c = (match Nat.beq ts.length 2 && fixOk [2] 0 ts with | false => .no | true => (b_is_caller.ev ((prg exs).ec ((prg exs).call k) 2 c) (ts.map some ++ List.replicate 1 none)).cr ts) := rfl
theorem u_raw_callers (exs : List PySem.Str) (k : Nat) (ts : List T) (c : Option Clo) : (prg exs).call (k + 1) 17 ts c = (match Nat.beq ts.length 2 && fixOk [] 0 ts with | false => .no | true => (b_raw_callers.ev ((prg exs).ec ((prg exs).call k) 2 c) (ts.map some ++ List.replicate 2 none)).cr ts) := rfl
theorem u_is_callers (exs : List PySem.Str) (k : Nat) (ts : List T) (c : Option Clo) : (prg exs).call (k + 1) 18 ts c = (match Nat.beq ts.length 2 && fixOk [] 0 ts with | false => .no | true => (b_is_callers.ev ((prg exs).ec ((prg exs).call k) 2 c) (ts.map some ++ List.replicate 0 none)).cr ts) := rfl
theorem u_check_callers (exs : List PySem.Str) (k : Nat) (ts : List T) (c : Option Clo) : (prg exs).call (k + 1) 19 ts c = (match Nat.beq ts.length 2 && fixOk [] 0 ts with | false => .no | true => (b_check_callers.ev ((prg exs).ec ((prg exs).call k) 2 c) (ts.map some ++ List.replicate 0 none)).cr ts) := rfl
theorem u_callers_text (exs : List PySem.Str) (k : Nat) (ts : List T) (c : Option Clo) : (prg exs).call (k + 1) 20 ts c = (match Nat.beq ts.length 2 && fixOk [] 0 ts with | false => .no | true => (b_callers_text.ev ((prg exs).ec ((prg exs).call k) 2 c) (ts.map some ++ List.replicate 2 none)).cr ts) := rfl
theorem u_carriers (exs : List PySem.Str) (k : Nat) (ts : List T) (c : Option Clo) : (prg exs).call (k + 1) 23 ts c = (match Nat.beq ts.length 2 && fixOk [] 0 ts with | false => .no | true => (b_carriers.ev ((prg exs).ec ((prg exs).call k) 2 c) (ts.map some ++ List.replicate 1 none)).cr ts) := rfl
theorem u_stranded (exs : List PySem.Str) (k : Nat) (ts : List T) (c : Option Clo) : (prg exs).call (k + 1) 24 ts c = (match Nat.beq ts.length 2 && fixOk [2, 3, 4] 0 ts with | false => .no | true => (b_stranded.ev ((prg exs).ec ((prg exs).call k) 2 c) (ts.map some ++ List.replicate 3 none)).cr ts) := rfl
theorem u_check_time (exs : List PySem.Str) (k : Nat) (ts : List T) (c : Option Clo) : (prg exs).call (k + 1) 25 ts c = (match Nat.beq ts.length 1 && fixOk [] 0 ts with | false => .no | true => (b_check_time.ev ((prg exs).ec ((prg exs).call k) 1 c) (ts.map some ++ List.replicate 0 none)).cr ts) := rfl
theorem u_coming (exs : List PySem.Str) (k : Nat) (ts : List T) (c : Option Clo) : (prg exs).call (k + 1) 26 ts c = (match Nat.beq ts.length 3 && fixOk [] 0 ts with | false => .no | true => (b_coming.ev ((prg exs).ec ((prg exs).call k) 3 c) (ts.map some ++ List.replicate 2 none)).cr ts) := rfl
theorem u_put_in (exs : List PySem.Str) (k : Nat) (ts : List T) (c : Option Clo) : (prg exs).call (k + 1) 27 ts c = (match Nat.beq ts.length 3 && fixOk [3] 0 ts with | false => .no | true => (b_put_in.ev ((prg exs).ec ((prg exs).call k) 3 c) (ts.map some ++ List.replicate 2 none)).cr ts) := rfl
theorem u_taken_out (exs : List PySem.Str) (k : Nat) (ts : List T) (c : Option Clo) : (prg exs).call (k + 1) 28 ts c = (match Nat.beq ts.length 3 && fixOk [] 0 ts with | false => .no | true => (b_taken_out.ev ((prg exs).ec ((prg exs).call k) 3 c) (ts.map some ++ List.replicate 0 none)).cr ts) := rfl
theorem u_put_off (exs : List PySem.Str) (k : Nat) (ts : List T) (c : Option Clo) : (prg exs).call (k + 1) 29 ts c = (match Nat.beq ts.length 3 && fixOk [3] 0 ts with | false => .no | true => (b_put_off.ev ((prg exs).ec ((prg exs).call k) 3 c) (ts.map some ++ List.replicate 4 none)).cr ts) := rfl
theorem u_least_time (exs : List PySem.Str) (k : Nat) (ts : List T) (c : Option Clo) : (prg exs).call (k + 1) 30 ts c = (match Nat.beq ts.length 2 && fixOk [] 0 ts with | false => .no | true => (b_least_time.ev ((prg exs).ec ((prg exs).call k) 2 c) (ts.map some ++ List.replicate 4 none)).cr ts) := rfl
theorem u_check_run (exs : List PySem.Str) (k : Nat) (ts : List T) (c : Option Clo) : (prg exs).call (k + 1) 50 ts c = (match Nat.beq ts.length 3 && fixOk [] 0 ts with | false => .no | true => (b_check_run.ev ((prg exs).ec ((prg exs).call k) 3 c) (ts.map some ++ List.replicate 0 none)).cr ts) := rfl
theorem u_state_at (exs : List PySem.Str) (k : Nat) (ts : List T) (c : Option Clo) : (prg exs).call (k + 1) 51 ts c = (match Nat.beq ts.length 3 && fixOk [] 0 ts with | false => .no | true => (b_state_at.ev ((prg exs).ec ((prg exs).call k) 3 c) (ts.map some ++ List.replicate 0 none)).cr ts) := rfl
theorem u_happenings (exs : List PySem.Str) (k : Nat) (ts : List T) (c : Option Clo) : (prg exs).call (k + 1) 52 ts c = (match Nat.beq ts.length 3 && fixOk [] 0 ts with | false => .no | true => (b_happenings.ev ((prg exs).ec ((prg exs).call k) 3 c) (ts.map some ++ List.replicate 0 none)).cr ts) := rfl
theorem u_journeys (exs : List PySem.Str) (k : Nat) (ts : List T) (c : Option Clo) : (prg exs).call (k + 1) 54 ts c = (match Nat.beq ts.length 3 && fixOk [] 0 ts with | false => .no | true => (b_journeys.ev ((prg exs).ec ((prg exs).call k) 3 c) (ts.map some ++ List.replicate 0 none)).cr ts) := rfl
theorem u__law_hand (exs : List PySem.Str) (k : Nat) (ts : List T) (c : Option Clo) : (prg exs).call (k + 1) 55 ts c = (match Nat.beq ts.length 1 && fixOk [1] 0 ts with | false => .no | true => (b__law_hand.ev ((prg exs).ec ((prg exs).call k) 1 c) (ts.map some ++ List.replicate 2 none)).cr ts) := rfl
theorem u__law_draw (exs : List PySem.Str) (k : Nat) (ts : List T) (c : Option Clo) : (prg exs).call (k + 1) 56 ts c = (match Nat.beq ts.length 2 && fixOk [2, 3, 4, 4, 4] 0 ts with | false => .no | true => (b__law_draw.ev ((prg exs).ec ((prg exs).call k) 2 c) (ts.map some ++ List.replicate 3 none)).cr ts) := rfl
theorem u__law_some (exs : List PySem.Str) (k : Nat) (ts : List T) (c : Option Clo) : (prg exs).call (k + 1) 57 ts c = (match Nat.beq ts.length 2 && fixOk [] 0 ts with | false => .no | true => (b__law_some.ev ((prg exs).ec ((prg exs).call k) 2 c) (ts.map some ++ List.replicate 0 none)).cr ts) := rfl
theorem u__law_is (exs : List PySem.Str) (k : Nat) (ts : List T) (c : Option Clo) : (prg exs).call (k + 1) 58 ts c = (match Nat.beq ts.length 2 && fixOk [] 0 ts with | false => .no | true => (b__law_is.ev ((prg exs).ec ((prg exs).call k) 2 c) (ts.map some ++ List.replicate 1 none)).cr ts) := rfl
theorem u__law_deep (exs : List PySem.Str) (k : Nat) (ts : List T) (c : Option Clo) : (prg exs).call (k + 1) 59 ts c = (match Nat.beq ts.length 1 && fixOk [1, 2, 1] 0 ts with | false => .no | true => (b__law_deep.ev ((prg exs).ec ((prg exs).call k) 1 c) (ts.map some ++ List.replicate 2 none)).cr ts) := rfl
theorem u__law_is_int (exs : List PySem.Str) (k : Nat) (ts : List T) (c : Option Clo) : (prg exs).call (k + 1) 60 ts c = (match Nat.beq ts.length 1 && fixOk [] 0 ts with | false => .no | true => (b__law_is_int.ev ((prg exs).ec ((prg exs).call k) 1 c) (ts.map some ++ List.replicate 0 none)).cr ts) := rfl
theorem u__law_expr (exs : List PySem.Str) (k : Nat) (ts : List T) (c : Option Clo) : (prg exs).call (k + 1) 61 ts c = (match Nat.beq ts.length 2 && fixOk [2, 3, 4] 0 ts with | false => .no | true => (b__law_expr.ev ((prg exs).ec ((prg exs).call k) 2 c) (ts.map some ++ List.replicate 3 none)).cr ts) := rfl
theorem u__law_policy (exs : List PySem.Str) (k : Nat) (ts : List T) (c : Option Clo) : (prg exs).call (k + 1) 62 ts c = (match Nat.beq ts.length 1 && fixOk [1, 2, 3, 4, 5, 6, 7, 8] 0 ts with | false => .no | true => (b__law_policy.ev ((prg exs).ec ((prg exs).call k) 1 c) (ts.map some ++ List.replicate 8 none)).cr ts) := rfl
theorem u__law_house (exs : List PySem.Str) (k : Nat) (ts : List T) (c : Option Clo) : (prg exs).call (k + 1) 63 ts c = (match Nat.beq ts.length 1 && fixOk [1, 2, 3, 4, 5, 4, 5] 0 ts with | false => .no | true => (b__law_house.ev ((prg exs).ec ((prg exs).call k) 1 c) (ts.map some ++ List.replicate 5 none)).cr ts) := rfl
theorem u__law_callers (exs : List PySem.Str) (k : Nat) (ts : List T) (c : Option Clo) : (prg exs).call (k + 1) 64 ts c = (match Nat.beq ts.length 3 && fixOk [3, 4, 5, 4, 6] 0 ts with | false => .no | true => (b__law_callers.ev ((prg exs).ec ((prg exs).call k) 3 c) (ts.map some ++ List.replicate 4 none)).cr ts) := rfl
theorem u__law_word (exs : List PySem.Str) (k : Nat) (ts : List T) (c : Option Clo) : (prg exs).call (k + 1) 65 ts c = (match Nat.beq ts.length 1 && fixOk [1, 2, 3, 3, 1, 1] 0 ts with | false => .no | true => (b__law_word.ev ((prg exs).ec ((prg exs).call k) 1 c) (ts.map some ++ List.replicate 3 none)).cr ts) := rfl
theorem u__law_is_caller (exs : List PySem.Str) (k : Nat) (ts : List T) (c : Option Clo) : (prg exs).call (k + 1) 66 ts c = (match Nat.beq ts.length 2 && fixOk [3, 2, 4] 0 ts with | false => .no | true => (b__law_is_caller.ev ((prg exs).ec ((prg exs).call k) 2 c) (ts.map some ++ List.replicate 3 none)).cr ts) := rfl
theorem u__law_are_callers (exs : List PySem.Str) (k : Nat) (ts : List T) (c : Option Clo) : (prg exs).call (k + 1) 67 ts c = (match Nat.beq ts.length 2 && fixOk [] 0 ts with | false => .no | true => (b__law_are_callers.ev ((prg exs).ec ((prg exs).call k) 2 c) (ts.map some ++ List.replicate 2 none)).cr ts) := rfl
theorem u__law_no_caller (exs : List PySem.Str) (k : Nat) (ts : List T) (c : Option Clo) : (prg exs).call (k + 1) 68 ts c = (match Nat.beq ts.length 2 && fixOk [2] 0 ts with | false => .no | true => (b__law_no_caller.ev ((prg exs).ec ((prg exs).call k) 2 c) (ts.map some ++ List.replicate 1 none)).cr ts) := rfl
theorem u__law_are_refused (exs : List PySem.Str) (k : Nat) (ts : List T) (c : Option Clo) : (prg exs).call (k + 1) 69 ts c = (match Nat.beq ts.length 3 && fixOk [3, 4, 5, 6, 7, 8, 9] 0 ts with | false => .no | true => (b__law_are_refused.ev ((prg exs).ec ((prg exs).call k) 3 c) (ts.map some ++ List.replicate 7 none)).cr ts) := rfl
theorem u_law (exs : List PySem.Str) (k : Nat) (ts : List T) (c : Option Clo) : (prg exs).call (k + 1) 70 ts c = (match Nat.beq ts.length 1 && fixOk [1, 2, 3, 4, 5, 6, 7, 8, 9, 10] 0 ts with | false => .no | true => (b_law.ev ((prg exs).ec ((prg exs).call k) 1 c) (ts.map some ++ List.replicate 10 none)).cr ts) := rfl
theorem v_OWN (exs : List PySem.Str) (call : Nat → List T → Option Clo → CR) (np : Nat) (c : Option Clo) : ((prg exs).ec call np c).gv[0]? = some g_OWN := rfl
theorem v_COUNTS (exs : List PySem.Str) (call : Nat → List T → Option Clo → CR) (np : Nat) (c : Option Clo) : ((prg exs).ec call np c).gv[1]? = some g_COUNTS := rfl
theorem v_ASKED (exs : List PySem.Str) (call : Nat → List T → Option Clo → CR) (np : Nat) (c : Option Clo) : ((prg exs).ec call np c).gv[2]? = some g_ASKED := rfl
theorem v_PAIRS (exs : List PySem.Str) (call : Nat → List T → Option Clo → CR) (np : Nat) (c : Option Clo) : ((prg exs).ec call np c).gv[3]? = some g_PAIRS := rfl
theorem v_DEEDS (exs : List PySem.Str) (call : Nat → List T → Option Clo → CR) (np : Nat) (c : Option Clo) : ((prg exs).ec call np c).gv[4]? = some g_DEEDS := rfl
theorem v_MOST_INT (exs : List PySem.Str) (call : Nat → List T → Option Clo → CR) (np : Nat) (c : Option Clo) : ((prg exs).ec call np c).gv[5]? = some g_MOST_INT := rfl
theorem v_MOST_DEEP (exs : List PySem.Str) (call : Nat → List T → Option Clo → CR) (np : Nat) (c : Option Clo) : ((prg exs).ec call np c).gv[6]? = some g_MOST_DEEP := rfl
theorem v_MOST_PARTS (exs : List PySem.Str) (call : Nat → List T → Option Clo → CR) (np : Nat) (c : Option Clo) : ((prg exs).ec call np c).gv[7]? = some g_MOST_PARTS := rfl
theorem v_MOST_ALL (exs : List PySem.Str) (call : Nat → List T → Option Clo → CR) (np : Nat) (c : Option Clo) : ((prg exs).ec call np c).gv[8]? = some g_MOST_ALL := rfl
theorem v_MOST_STATEMENTS (exs : List PySem.Str) (call : Nat → List T → Option Clo → CR) (np : Nat) (c : Option Clo) : ((prg exs).ec call np c).gv[9]? = some g_MOST_STATEMENTS := rfl
theorem v_MOST_IFS (exs : List PySem.Str) (call : Nat → List T → Option Clo → CR) (np : Nat) (c : Option Clo) : ((prg exs).ec call np c).gv[10]? = some g_MOST_IFS := rfl
theorem v_FORMS (exs : List PySem.Str) (call : Nat → List T → Option Clo → CR) (np : Nat) (c : Option Clo) : ((prg exs).ec call np c).gv[11]? = some g_FORMS := rfl
theorem v_MOST_FLOORS (exs : List PySem.Str) (call : Nat → List T → Option Clo → CR) (np : Nat) (c : Option Clo) : ((prg exs).ec call np c).gv[12]? = some g_MOST_FLOORS := rfl
theorem v_MOST_CARS (exs : List PySem.Str) (call : Nat → List T → Option Clo → CR) (np : Nat) (c : Option Clo) : ((prg exs).ec call np c).gv[13]? = some g_MOST_CARS := rfl
theorem v_MOST_ROOM (exs : List PySem.Str) (call : Nat → List T → Option Clo → CR) (np : Nat) (c : Option Clo) : ((prg exs).ec call np c).gv[14]? = some g_MOST_ROOM := rfl
theorem v_MOST_CALLERS (exs : List PySem.Str) (call : Nat → List T → Option Clo → CR) (np : Nat) (c : Option Clo) : ((prg exs).ec call np c).gv[15]? = some g_MOST_CALLERS := rfl
theorem v_MOST_TIME (exs : List PySem.Str) (call : Nat → List T → Option Clo → CR) (np : Nat) (c : Option Clo) : ((prg exs).ec call np c).gv[16]? = some g_MOST_TIME := rfl
theorem v_MOST_TICKS (exs : List PySem.Str) (call : Nat → List T → Option Clo → CR) (np : Nat) (c : Option Clo) : ((prg exs).ec call np c).gv[17]? = some g_MOST_TICKS := rfl
theorem v_LEAST (exs : List PySem.Str) (call : Nat → List T → Option Clo → CR) (np : Nat) (c : Option Clo) : ((prg exs).ec call np c).gv[18]? = some g_LEAST := rfl
theorem v_MOST (exs : List PySem.Str) (call : Nat → List T → Option Clo → CR) (np : Nat) (c : Option Clo) : ((prg exs).ec call np c).gv[19]? = some g_MOST := rfl
theorem v_CELLS (exs : List PySem.Str) (call : Nat → List T → Option Clo → CR) (np : Nat) (c : Option Clo) : ((prg exs).ec call np c).gv[20]? = some g_CELLS := rfl
theorem v_STAY (exs : List PySem.Str) (call : Nat → List T → Option Clo → CR) (np : Nat) (c : Option Clo) : ((prg exs).ec call np c).gv[21]? = some g_STAY := rfl
theorem v_COMES (exs : List PySem.Str) (call : Nat → List T → Option Clo → CR) (np : Nat) (c : Option Clo) : ((prg exs).ec call np c).gv[22]? = some g_COMES := rfl
theorem v_IN (exs : List PySem.Str) (call : Nat → List T → Option Clo → CR) (np : Nat) (c : Option Clo) : ((prg exs).ec call np c).gv[23]? = some g_IN := rfl
theorem v_OUT (exs : List PySem.Str) (call : Nat → List T → Option Clo → CR) (np : Nat) (c : Option Clo) : ((prg exs).ec call np c).gv[24]? = some g_OUT := rfl
end K26
namespace K26
open Py
variable {exs : List PySem.Str}
section
variable (P : Pg) (call : Nat → List T → Option Clo → CR) (np : Nat) (c : Option Clo)
theorem ec_call : (P.ec call np c).call = call := rfl
theorem ec_gv : (P.ec call np c).gv = P.gs.map (·.2) := rfl
theorem ec_clo : (P.ec call np c).clo = c := rfl
theorem ec_np : (P.ec call np c).np = np := rfl
theorem ec_wl : (P.ec call np c).wl = P.wl := rfl
theorem ec_sub : (P.ec call np c).sub = P.sub := rfl
end
theorem bleC {n : Nat} (h : n ≤ 1114112) : Nat.ble n 1114112 = true := Nat.ble_eq_true_of_le h
theorem atK (l : List Val) (i : Nat) : atV l (i : Int) = l[i]? := by
  unfold atV L2.atI L2.ixN
  rw [if_pos (by omega)]
  by_cases h : (i : Int) < (l.length : Int)
  · rw [if_pos h]; rfl
  · rw [if_neg h, List.getElem?_eq_none (by omega)]; rfl
theorem at0 (l : List Val) : atV l 0 = l[0]? := atK l 0
theorem at1 (l : List Val) : atV l 1 = l[1]? := atK l 1
theorem at2 (l : List Val) : atV l 2 = l[2]? := atK l 2
theorem at3 (l : List Val) : atV l 3 = l[3]? := atK l 3
theorem at4 (l : List Val) : atV l 4 = l[4]? := atK l 4
theorem sm_mod (a b : Int) (h : 0 < b) (h2 : b ≤ 18446744073709551616) : sm (a % b) = true := by
  have h1 := Int.emod_nonneg a (show b ≠ 0 by omega)
  have h3 := Int.emod_lt_of_pos a h
  unfold sm
  simp only [Bool.and_eq_true, decide_eq_true_eq]
  omega
def n1 (m c : Int) : Int := (m + 7919 * c) * 48271 % 2147483647
def n2 (m c : Int) : Int := n1 m c * (n1 m c / 1009 + 69621) % 2147483647
def n3 (m c : Int) : Int := n2 m c * (n2 m c / 2003 + 40692) % 2147483399
/-- a hand -/
structure Hd (h : List Val) : Prop where
  ex : ∃ (cs : List Val) (p g m c : Int), h = [.lst cs, .int p, .int g, .int m, .int c] ∧ 0 ≤ p ∧ 0 ≤ g ∧ ∀ v ∈ cs, ∃ n : Int, 0 ≤ n ∧ v = .int n
theorem draw_ok {j : Nat} (hj : 1 ≤ j) {h : List Val} (H : Hd h) (many : Int) (hm : 1 ≤ many) (hm2 : many < 1073741824) :
    ∃ d h', Hd h' ∧ (0 ≤ d ∧ d < many) ∧ (prg exs).call j i__law_draw [.vl h, .v (.int many)] none = .ok (.v (.int d)) [.vl h', .v (.int many)] := by
  obtain ⟨cs, p, g, m, c, rfl, hp, hg, hc⟩ := H.ex
  obtain ⟨k, rfl⟩ := Nat.exists_eq_add_of_le' hj
  have h2 : 0 < many := by omega
  have rng : ∀ x : Int, 0 ≤ x % many ∧ x % many < many := fun x => ⟨Int.emod_nonneg x (by omega), Int.emod_lt_of_pos x h2⟩
  have s1 : sm 69621 = true := by decide
  have s2 : sm 7919 = true := by decide
  have s3 : sm 48271 = true := by decide
  have e10 : (10 : Int) ^ 18 = 1000000000000000000 := by decide
  by_cases g0 : g = 0
  · subst g0
    by_cases hlt : p < (cs.length : Int)
    · obtain ⟨n, hn0, hat⟩ : ∃ n : Int, 0 ≤ n ∧ atV cs p = some (.int n) := by
        obtain ⟨q, rfl⟩ := Int.eq_ofNat_of_zero_le hp
        have hq : q < cs.length := by omega
        obtain ⟨n, h0, hn⟩ := hc cs[q] (List.getElem_mem hq)
        exact ⟨n, h0, by rw [atK, List.getElem?_eq_getElem hq, hn]⟩
      by_cases hbig : 1000000000000000000 ≤ n
      · refine ⟨_, _, ⟨cs, p + 1, n / many, (m * 69621 + n + 103) % 2147483629, c, rfl, by omega, Int.ediv_nonneg (by omega) (by omega), hc⟩, rng n, ?_⟩
        have hpos : 0 < n := by omega
        rw [u__law_draw]
        simp [b__law_draw, Py.Ss.ev, Py.S.ev, Py.E.ev, Py.Es.ev, Py.Es.bo, Py.It.ev, Oe.pt, Oe.cond, Py.Ss.as, Py.S.as, Tg.asg, fixOk, Py.R.bind, SR.bind, R.sr, R.map, truthR, rd, rds, plsOf, ndup, putBack, gt, st, truth, cmpF, eqF, fz, subF, items, ec_call, ec_clo, ec_np, ec_wl, ec_sub, Val.isD, biF, asgV, asgN, esc, escs, Py.own, owns, asgTs, binF, SR.cr, backs, T.arg, isiF, slcF, wipe, putBackOwn, at0, at1, at2, at3, at4, fits, Nat.blt, Nat.succ_eq_add_one, bleC, dat, eqv, h2, hm2, hlt, hat, hbig, hpos, L2.ixN, s1, e10]
      · refine ⟨_, _, ⟨cs, p + 1, 0, (m * 69621 + n + 103) % 2147483629, c + 1, rfl, by omega, by omega, hc⟩, rng (n3 ((m * 69621 + n + 103) % 2147483629) (c + 1) / 16), ?_⟩
        rw [u__law_draw]
        simp [b__law_draw, Py.Ss.ev, Py.S.ev, Py.E.ev, Py.Es.ev, Py.Es.bo, Py.It.ev, Oe.pt, Oe.cond, Py.Ss.as, Py.S.as, Tg.asg, fixOk, Py.R.bind, SR.bind, R.sr, R.map, truthR, rd, rds, plsOf, ndup, putBack, gt, st, truth, cmpF, eqF, fz, subF, items, ec_call, ec_clo, ec_np, ec_wl, ec_sub, Val.isD, biF, asgV, asgN, esc, escs, Py.own, owns, asgTs, binF, SR.cr, backs, T.arg, isiF, slcF, wipe, putBackOwn, at0, at1, at2, at3, at4, fits, Nat.blt, Nat.succ_eq_add_one, bleC, dat, eqv, h2, hm2, hlt, hat, hbig, L2.ixN, s1, s2, s3, e10, sm_mod, n1, n2, n3]
    · refine ⟨_, _, ⟨cs, p, 0, m, c + 1, rfl, by omega, by omega, hc⟩, rng (n3 m (c + 1) / 16), ?_⟩
      rw [u__law_draw]
      simp [b__law_draw, Py.Ss.ev, Py.S.ev, Py.E.ev, Py.Es.ev, Py.Es.bo, Py.It.ev, Oe.pt, Oe.cond, Py.Ss.as, Py.S.as, Tg.asg, fixOk, Py.R.bind, SR.bind, R.sr, R.map, truthR, rd, rds, plsOf, ndup, putBack, gt, st, truth, cmpF, eqF, fz, subF, items, ec_call, ec_clo, ec_np, ec_wl, ec_sub, Val.isD, biF, asgV, asgN, esc, escs, Py.own, owns, asgTs, binF, SR.cr, backs, T.arg, isiF, slcF, wipe, putBackOwn, at0, at1, at2, at3, at4, fits, Nat.blt, Nat.succ_eq_add_one, bleC, dat, eqv, h2, hm2, hlt, L2.ixN, s1, s2, s3, sm_mod, n1, n2, n3]
  · have h1 : (g == 0) = false := by simp; omega
    have hpos : 0 < g := by omega
    refine ⟨_, _, ⟨cs, p, g / many, m, c, rfl, by omega, Int.ediv_nonneg (by omega) (by omega), hc⟩, rng g, ?_⟩
    rw [u__law_draw]
    simp [b__law_draw, Py.Ss.ev, Py.S.ev, Py.E.ev, Py.Es.ev, Py.Es.bo, Py.It.ev, Oe.pt, Oe.cond, Py.Ss.as, Py.S.as, Tg.asg, fixOk, Py.R.bind, SR.bind, R.sr, R.map, truthR, rd, rds, plsOf, ndup, putBack, gt, st, truth, cmpF, eqF, fz, subF, items, ec_call, ec_clo, ec_np, ec_wl, ec_sub, Val.isD, biF, asgV, asgN, esc, escs, Py.own, owns, asgTs, binF, SR.cr, backs, T.arg, isiF, slcF, wipe, putBackOwn, at0, at1, at2, at3, at4, fits, Nat.blt, Nat.succ_eq_add_one, bleC, dat, eqv, h1, h2, hm2, hpos, L2.ixN]
end K26
namespace K26
open Py
variable {exs : List PySem.Str}
theorem at_mem {l : List Val} {d : Int} (h0 : 0 ≤ d) (h1 : d < (l.length : Int)) : ∃ x, x ∈ l ∧ atV l d = some x := by
  obtain ⟨q, rfl⟩ := Int.eq_ofNat_of_zero_le h0
  have hq : q < l.length := by omega
  exact ⟨l[q], List.getElem_mem hq, by rw [atK, List.getElem?_eq_getElem hq]⟩
theorem some_ok {j : Nat} (hj : 2 ≤ j) {h : List Val} (H : Hd h) (t : T) (l : List Val) (ht : t = .vl l ∨ t = .v (.lst l) ∨ t = .v (.tup l)) (hl : 1 ≤ l.length) (hl2 : l.length < 1073741824) :
    ∃ x h', x ∈ l ∧ Hd h' ∧ (prg exs).call j i__law_some [.vl h, t] none = .ok (.v x) [.vl h', t] := by
  obtain ⟨k, rfl⟩ := Nat.exists_eq_add_of_le' hj
  obtain ⟨d, h', H', ⟨d0, d1⟩, e⟩ := draw_ok (exs := exs) (j := k + 1) (by omega) H (l.length : Int) (by omega) (by omega)
  obtain ⟨x, hx, ex⟩ := at_mem d0 d1
  refine ⟨x, h', hx, H', ?_⟩
  rw [show k + 2 = (k + 1) + 1 from rfl, u__law_some]
  rcases ht with rfl | rfl | rfl <;> simp [b__law_some, Py.Ss.ev, Py.S.ev, Py.E.ev, Py.Es.ev, Py.Es.bo, Py.It.ev, Oe.pt, Oe.cond, Py.Ss.as, Py.S.as, Tg.asg, fixOk, Py.R.bind, SR.bind, R.sr, R.map, truthR, rd, rds, plsOf, ndup, putBack, gt, st, truth, cmpF, eqF, fz, subF, items, ec_call, ec_clo, ec_np, ec_wl, ec_sub, Val.isD, biF, asgV, asgN, esc, escs, Py.own, owns, asgTs, binF, SR.cr, backs, T.arg, isiF, slcF, wipe, putBackOwn, at0, at1, at2, at3, at4, fits, Nat.blt, Nat.succ_eq_add_one, bleC, e, ex]
end K26
namespace K26
open Py
variable {exs : List PySem.Str}
theorem rng1 {j : Int} (h0 : 0 ≤ j) (h : j < 16777216) : rngF [.v (.int j)] = some (rngV 0 j) := by
  unfold rngF
  have h1 : decide (-(2 ^ 62) ≤ j) = true := decide_eq_true (by omega)
  have h2 : decide (j < 16777216) = true := decide_eq_true h
  simp only [h1, h2, Bool.and_true]
theorem rng_len (j : Int) : (rngV 0 j).length = j.toNat := by unfold rngV; simp
/-- what is deep -/
def DV (v : Val) : Prop := v = .str [63] ∨ (∃ x, v = .tup [.str [63], x]) ∨ ∃ x, v = .lst [x]
def Odd (t : T) : Prop := (∃ w, DV w ∧ t = .v (.tup [.str [63], w])) ∨ ∃ w, DV w ∧ t = .vl [w]
def Found (t : T) : Prop := t = .v (.str [63]) ∨ Odd t
theorem Odd.found {t : T} (h : Odd t) : Found t := .inr h
theorem Found.cases {t : T} (h : Found t) : (∃ v, DV v ∧ t = .v v) ∨ ∃ w, DV w ∧ t = .vl [w] := by
  rcases h with rfl | ⟨w, _, rfl⟩ | ⟨w, h, rfl⟩
  · exact .inl ⟨_, .inl rfl, rfl⟩
  · exact .inl ⟨_, .inr (.inl ⟨w, rfl⟩), rfl⟩
  · exact .inr ⟨w, h, rfl⟩
theorem deep_step {k : Nat} {np : Nat} {c : Option Clo} {h : List Val} (H : Hd h) {t : T} (ht : Found t) (u : Option T) :
    ∃ h' t', Hd h' ∧ Odd t' ∧ b__law_deep_1.ev ((prg exs).ec ((prg exs).call (k + 1)) np c) [some (.vl h), some t, u] = .nx [some (.vl h'), some t', u] := by
  obtain ⟨d, h', H', ⟨d0, d1⟩, e⟩ := draw_ok (exs := exs) (j := k + 1) (by omega) H 2 (by omega) (by omega)
  have e : (prg exs).call (k + 1) 56 [.vl h, .v (.int 2)] none = .ok (.v (.int d)) [.vl h', .v (.int 2)] := e
  have hd : d = 0 ∨ d = 1 := by omega
  rcases hd with rfl | rfl
  · rcases ht.cases with ⟨v, hv, rfl⟩ | ⟨w, hv, rfl⟩
    · refine ⟨h', _, H', .inl ⟨v, hv, rfl⟩, ?_⟩
      simp [b__law_deep_1, Py.Ss.ev, Py.S.ev, Py.E.ev, Py.Es.ev, Py.Es.bo, Py.It.ev, Oe.pt, Oe.cond, Py.Ss.as, Py.S.as, Tg.asg, fixOk, Py.R.bind, SR.bind, R.sr, R.map, truthR, rd, rds, plsOf, ndup, putBack, gt, st, truth, cmpF, eqF, fz, subF, items, ec_call, ec_clo, ec_np, ec_wl, ec_sub, Val.isD, biF, asgV, asgN, esc, escs, Py.own, owns, asgTs, binF, SR.cr, backs, T.arg, isiF, slcF, wipe, putBackOwn, at0, at1, at2, at3, at4, fits, Nat.blt, Nat.succ_eq_add_one, bleC, e, dat, eqv]
    · refine ⟨h', _, H', .inl ⟨.lst [w], .inr (.inr ⟨w, rfl⟩), rfl⟩, ?_⟩
      simp [b__law_deep_1, Py.Ss.ev, Py.S.ev, Py.E.ev, Py.Es.ev, Py.Es.bo, Py.It.ev, Oe.pt, Oe.cond, Py.Ss.as, Py.S.as, Tg.asg, fixOk, Py.R.bind, SR.bind, R.sr, R.map, truthR, rd, rds, plsOf, ndup, putBack, gt, st, truth, cmpF, eqF, fz, subF, items, ec_call, ec_clo, ec_np, ec_wl, ec_sub, Val.isD, biF, asgV, asgN, esc, escs, Py.own, owns, asgTs, binF, SR.cr, backs, T.arg, isiF, slcF, wipe, putBackOwn, at0, at1, at2, at3, at4, fits, Nat.blt, Nat.succ_eq_add_one, bleC, e, dat, eqv]
  · rcases ht.cases with ⟨v, hv, rfl⟩ | ⟨w, hv, rfl⟩
    · refine ⟨h', _, H', .inr ⟨v, hv, rfl⟩, ?_⟩
      simp [b__law_deep_1, Py.Ss.ev, Py.S.ev, Py.E.ev, Py.Es.ev, Py.Es.bo, Py.It.ev, Oe.pt, Oe.cond, Py.Ss.as, Py.S.as, Tg.asg, fixOk, Py.R.bind, SR.bind, R.sr, R.map, truthR, rd, rds, plsOf, ndup, putBack, gt, st, truth, cmpF, eqF, fz, subF, items, ec_call, ec_clo, ec_np, ec_wl, ec_sub, Val.isD, biF, asgV, asgN, esc, escs, Py.own, owns, asgTs, binF, SR.cr, backs, T.arg, isiF, slcF, wipe, putBackOwn, at0, at1, at2, at3, at4, fits, Nat.blt, Nat.succ_eq_add_one, bleC, e, dat, eqv]
    · refine ⟨h', _, H', .inr ⟨.lst [w], .inr (.inr ⟨w, rfl⟩), rfl⟩, ?_⟩
      simp [b__law_deep_1, Py.Ss.ev, Py.S.ev, Py.E.ev, Py.Es.ev, Py.Es.bo, Py.It.ev, Oe.pt, Oe.cond, Py.Ss.as, Py.S.as, Tg.asg, fixOk, Py.R.bind, SR.bind, R.sr, R.map, truthR, rd, rds, plsOf, ndup, putBack, gt, st, truth, cmpF, eqF, fz, subF, items, ec_call, ec_clo, ec_np, ec_wl, ec_sub, Val.isD, biF, asgV, asgN, esc, escs, Py.own, owns, asgTs, binF, SR.cr, backs, T.arg, isiF, slcF, wipe, putBackOwn, at0, at1, at2, at3, at4, fits, Nat.blt, Nat.succ_eq_add_one, bleC, e, dat, eqv]
theorem deep_loop {k : Nat} {np : Nat} {c : Option Clo} : ∀ (l : List Val) (h : List Val) (t : T) (u : Option T), Hd h → Found t →
    ∃ h' t' u', Hd h' ∧ (l ≠ [] → Odd t') ∧ forL (.n 2) (fun env => b__law_deep_1.ev ((prg exs).ec ((prg exs).call (k + 1)) np c) env) l [some (.vl h), some t, u] = .nx [some (.vl h'), some t', u']
  | [], h, t, u, H, ht => ⟨h, t, u, H, fun z => absurd rfl z, rfl⟩
  | x :: l, h, t, u, H, ht => by
    obtain ⟨h1, t1, H1, o1, e1⟩ := deep_step (exs := exs) (k := k) (np := np) (c := c) H ht (some (.v x))
    obtain ⟨h2, t2, u2, H2, o2, e2⟩ := deep_loop (k := k) (np := np) (c := c) l h1 t1 (some (.v x)) H1 o1.found
    refine ⟨h2, t2, u2, H2, fun _ => ?_, ?_⟩
    · cases l with
      | nil =>
        have e3 : SR.nx [some (.vl h1), some t1, some (.v x)] = SR.nx [some (.vl h2), some t2, u2] := e2
        injection e3 with e4
        injection e4 with _ e5
        injection e5 with e6 _
        injection e6 with e7
        rw [← e7]; exact o1
      | cons y l => exact o2 (fun z => nomatch z)
    · simp only [forL, asgV, st, e1, e2]
theorem deep_ok {j : Nat} (hj : 2 ≤ j) {h : List Val} (H : Hd h) : ∃ t h', Odd t ∧ Hd h' ∧ (prg exs).call j 59 [.vl h] none = .ok t [.vl h'] := by
  obtain ⟨k, rfl⟩ := Nat.exists_eq_add_of_le' hj
  obtain ⟨d, h1, H1, ⟨d0, d1⟩, e⟩ := draw_ok (exs := exs) (j := k + 1) (by omega) H 20 (by omega) (by omega)
  have e : (prg exs).call (k + 1) 56 [.vl h, .v (.int 20)] none = .ok (.v (.int d)) [.vl h1, .v (.int 20)] := e
  obtain ⟨h2, t2, u2, H2, o2, e2⟩ := deep_loop (exs := exs) (k := k) (np := 1) (c := none) (rngV 0 (5 + d)) h1 (.v (.str [63])) none H1 (.inl rfl)
  have hne : rngV 0 (5 + d) ≠ [] := fun z => by
    have := rng_len (5 + d)
    rw [z] at this
    simp at this
    omega
  refine ⟨t2, h2, o2 hne, H2, ?_⟩
  have er := rng1 (j := 5 + d) (by omega) (by omega)
  rw [show k + 2 = (k + 1) + 1 from rfl, u__law_deep]
  rcases o2 hne with ⟨w, _, rfl⟩ | ⟨w, _, rfl⟩ <;> simp [b__law_deep, Py.Ss.ev, Py.S.ev, Py.E.ev, Py.Es.ev, Py.Es.bo, Py.It.ev, Oe.pt, Oe.cond, Py.Ss.as, Py.S.as, Tg.asg, fixOk, Py.R.bind, SR.bind, R.sr, R.map, truthR, rd, rds, plsOf, ndup, putBack, gt, st, truth, cmpF, eqF, fz, subF, items, ec_call, ec_clo, ec_np, ec_wl, ec_sub, Val.isD, biF, asgV, asgN, esc, escs, Py.own, owns, asgTs, binF, SR.cr, backs, T.arg, isiF, slcF, wipe, putBackOwn, at0, at1, at2, at3, at4, fits, Nat.blt, Nat.succ_eq_add_one, bleC, e, er, e2]
end K26
namespace K26
open Py
variable {exs : List PySem.Str}
theorem dr {j : Nat} (hj : 1 ≤ j) {h : List Val} (H : Hd h) (many : Int) (hm : 1 ≤ many) (hm2 : many < 1073741824) :
    ∃ d h', Hd h' ∧ (0 ≤ d ∧ d < many) ∧ (prg exs).call j 56 [.vl h, .v (.int many)] none = .ok (.v (.int d)) [.vl h', .v (.int many)] := draw_ok hj H many hm hm2
theorem so {j : Nat} (hj : 2 ≤ j) {h : List Val} (H : Hd h) (l : List Val) (hl : 1 ≤ l.length) (hl2 : l.length < 1073741824) :
    ∃ x h', x ∈ l ∧ Hd h' ∧ (prg exs).call j 57 [.vl h, .vl l] none = .ok (.v x) [.vl h', .vl l] := some_ok hj H (.vl l) l (.inl rfl) hl hl2
theorem so_t {j : Nat} (hj : 2 ≤ j) {h : List Val} (H : Hd h) (l : List Val) (hl : 1 ≤ l.length) (hl2 : l.length < 1073741824) :
    ∃ x h', x ∈ l ∧ Hd h' ∧ (prg exs).call j 57 [.vl h, .v (.tup l)] none = .ok (.v x) [.vl h', .v (.tup l)] := some_ok hj H (.v (.tup l)) l (.inr (.inr rfl)) hl hl2
def wInt : Val := .str [105, 110, 116]
def wCell : Val := .str [99, 101, 108, 108]
def wMy : Val := .str [109, 121]
def wNot : Val := .str [110, 111, 116]
def wAt : Val := .str [97, 116]
def wFrom : Val := .str [102, 114, 111, 109]
def myL : List Val := [.str [97, 116], .str [108, 111, 97, 100], .str [108, 101, 102, 116], .str [108, 111, 119], .str [104, 105, 103, 104], .str [109, 101], .str [116, 111, 112]]
def atL : List Val := [.str [119, 97, 105, 116, 105, 110, 103], .str [114, 105, 115, 105, 110, 103], .str [119, 105, 115, 104, 105, 110, 103], .str [102, 108, 111, 111, 114]]
def fromL : List Val := [.str [119, 97, 105, 116, 105, 110, 103], .str [114, 105, 115, 105, 110, 103], .str [119, 105, 115, 104, 105, 110, 103]]
def pairL : List Val := [.str [111, 114], .str [97, 110, 100], .str [60], .str [60, 61], .str [61, 61], .str [43], .str [45], .str [42], .str [109, 105, 110], .str [109, 97, 120]]
def leafL : List Val := [.tup [wInt, .int 0], .tup [wInt, .int 1], .tup [wInt, .int 2], .tup [wInt, .int 3], .tup [wCell, .int 0], .tup [wCell, .int 1]] ++ myL.map fun x => .tup [wMy, x]
/-- a drawn expression -/
def DE : Nat → Val → Prop
  | 0, e => e ∈ leafL
  | n + 1, e => e ∈ leafL ∨ (∃ a, DE n a ∧ e = .tup [wNot, a]) ∨ (∃ w a, w ∈ atL ∧ DE n a ∧ e = .tup [wAt, w, a]) ∨ (∃ w a b, w ∈ fromL ∧ DE n a ∧ DE n b ∧ e = .tup [wFrom, w, a, b]) ∨ (∃ w a b, w ∈ pairL ∧ DE n a ∧ DE n b ∧ e = .tup [w, a, b])
/-- what a drawn expression's call gives -/
def EX (exs : List PySem.Str) (n : Nat) (D : Int) (m : Nat) : Prop := ∀ j, m ≤ j → ∀ h, Hd h → ∃ e h', DE n e ∧ Hd h' ∧ (prg exs).call j 61 [.vl h, .v (.int D)] none = .ok (.v e) [.vl h', .v (.int D)]
theorem leaf_mem {d1 d2 : Int} {x e : Val} (a1 : 0 ≤ d1) (a2 : d1 < 4) (b1 : 0 ≤ d2) (b2 : d2 < 2) (hx : x ∈ myL) (he : e ∈ [.tup [wInt, .int d1], .tup [wCell, .int d2], .tup [wMy, x]]) : e ∈ leafL := by
  simp only [List.mem_cons, List.not_mem_nil, or_false] at he
  rcases he with rfl | rfl | rfl
  · have : d1 = 0 ∨ d1 = 1 ∨ d1 = 2 ∨ d1 = 3 := by omega
    rcases this with rfl | rfl | rfl | rfl <;> simp [leafL]
  · have : d2 = 0 ∨ d2 = 1 := by omega
    rcases this with rfl | rfl <;> simp [leafL]
  · exact List.mem_append_right _ (List.mem_map.mpr ⟨x, hx, rfl⟩)
theorem expr_0 : EX exs 0 0 3 := by
  intro j hj h H
  obtain ⟨k, rfl⟩ := Nat.exists_eq_add_of_le' hj
  obtain ⟨kd, h1, H1, _, e1⟩ := dr (exs := exs) (j := k + 2) (by omega) H 9 (by omega) (by omega)
  obtain ⟨d1, h2, H2, ⟨a1, a2⟩, e2⟩ := dr (exs := exs) (j := k + 2) (by omega) H1 4 (by omega) (by omega)
  obtain ⟨d2, h3, H3, ⟨b1, b2⟩, e3⟩ := dr (exs := exs) (j := k + 2) (by omega) H2 2 (by omega) (by omega)
  obtain ⟨x, h4, hx, H4, e4⟩ := so (exs := exs) (j := k + 2) (by omega) H3 myL (by decide) (by decide)
  obtain ⟨e, h5, he, H5, e5⟩ := so (exs := exs) (j := k + 2) (by omega) H4 [.tup [wInt, .int d1], .tup [wCell, .int d2], .tup [wMy, x]] (by simp) (by simp)
  refine ⟨e, h5, leaf_mem a1 a2 b1 b2 hx he, H5, ?_⟩
  simp only [myL, wInt, wCell, wMy] at e4 e5
  rw [show k + 3 = (k + 2) + 1 from rfl, u__law_expr]
  simp [b__law_expr, Py.Ss.ev, Py.S.ev, Py.E.ev, Py.Es.ev, Py.Es.bo, Py.It.ev, Oe.pt, Oe.cond, Py.Ss.as, Py.S.as, Tg.asg, fixOk, Py.R.bind, SR.bind, R.sr, R.map, truthR, rd, rds, plsOf, ndup, putBack, gt, st, truth, cmpF, eqF, fz, subF, items, ec_call, ec_clo, ec_np, ec_wl, ec_sub, Val.isD, biF, asgV, asgN, esc, escs, Py.own, owns, asgTs, binF, SR.cr, backs, T.arg, isiF, slcF, wipe, putBackOwn, at0, at1, at2, at3, at4, fits, Nat.blt, Nat.succ_eq_add_one, bleC, e1, e2, e3, e4, e5, dat, eqv]
theorem expr_S {n : Nat} {D : Int} {m : Nat} (hm : 3 ≤ m) (hD : (D == 0) = false) (IH : EX exs n (D - 1) m) : EX exs (n + 1) D (m + 1) := by
  intro j hj h H
  obtain ⟨k, rfl⟩ := Nat.exists_eq_add_of_le' hj
  have hj' : m ≤ k + m := Nat.le_add_left m k
  obtain ⟨kd, h1, H1, ⟨c0, c1⟩, e1⟩ := dr (exs := exs) (j := k + m) (by omega) H 9 (by omega) (by omega)
  rw [show k + (m + 1) = (k + m) + 1 from rfl, u__law_expr]
  have hk : kd < 3 ∨ kd = 3 ∨ kd = 4 ∨ kd = 5 ∨ 5 < kd := by omega
  rcases hk with hk | rfl | rfl | rfl | hk
  · obtain ⟨d1, h2, H2, ⟨a1, a2⟩, e2⟩ := dr (exs := exs) (j := k + m) (by omega) H1 4 (by omega) (by omega)
    obtain ⟨d2, h3, H3, ⟨b1, b2⟩, e3⟩ := dr (exs := exs) (j := k + m) (by omega) H2 2 (by omega) (by omega)
    obtain ⟨x, h4, hx, H4, e4⟩ := so (exs := exs) (j := k + m) (by omega) H3 myL (by decide) (by decide)
    obtain ⟨e, h5, he, H5, e5⟩ := so (exs := exs) (j := k + m) (by omega) H4 [.tup [wInt, .int d1], .tup [wCell, .int d2], .tup [wMy, x]] (by simp) (by simp)
    refine ⟨e, h5, .inl (leaf_mem a1 a2 b1 b2 hx he), H5, ?_⟩
    simp only [myL, wInt, wCell, wMy] at e4 e5
    simp [b__law_expr, Py.Ss.ev, Py.S.ev, Py.E.ev, Py.Es.ev, Py.Es.bo, Py.It.ev, Oe.pt, Oe.cond, Py.Ss.as, Py.S.as, Tg.asg, fixOk, Py.R.bind, SR.bind, R.sr, R.map, truthR, rd, rds, plsOf, ndup, putBack, gt, st, truth, cmpF, eqF, fz, subF, items, ec_call, ec_clo, ec_np, ec_wl, ec_sub, Val.isD, biF, asgV, asgN, esc, escs, Py.own, owns, asgTs, binF, SR.cr, backs, T.arg, isiF, slcF, wipe, putBackOwn, at0, at1, at2, at3, at4, fits, Nat.blt, Nat.succ_eq_add_one, bleC, e1, e2, e3, e4, e5, dat, eqv, hD, hk]
  · obtain ⟨a, h2, ha, H2, e2⟩ := IH (k + m) hj' h1 H1
    refine ⟨_, h2, .inr (.inl ⟨a, ha, rfl⟩), H2, ?_⟩
    simp [b__law_expr, Py.Ss.ev, Py.S.ev, Py.E.ev, Py.Es.ev, Py.Es.bo, Py.It.ev, Oe.pt, Oe.cond, Py.Ss.as, Py.S.as, Tg.asg, fixOk, Py.R.bind, SR.bind, R.sr, R.map, truthR, rd, rds, plsOf, ndup, putBack, gt, st, truth, cmpF, eqF, fz, subF, items, ec_call, ec_clo, ec_np, ec_wl, ec_sub, Val.isD, biF, asgV, asgN, esc, escs, Py.own, owns, asgTs, binF, SR.cr, backs, T.arg, isiF, slcF, wipe, putBackOwn, at0, at1, at2, at3, at4, fits, Nat.blt, Nat.succ_eq_add_one, bleC, e1, e2, dat, eqv, hD, wNot]
  · obtain ⟨w, h2, hw, H2, e2⟩ := so (exs := exs) (j := k + m) (by omega) H1 atL (by decide) (by decide)
    obtain ⟨a, h3, ha, H3, e3⟩ := IH (k + m) hj' h2 H2
    refine ⟨_, h3, .inr (.inr (.inl ⟨w, a, hw, ha, rfl⟩)), H3, ?_⟩
    simp only [atL] at e2
    simp [b__law_expr, Py.Ss.ev, Py.S.ev, Py.E.ev, Py.Es.ev, Py.Es.bo, Py.It.ev, Oe.pt, Oe.cond, Py.Ss.as, Py.S.as, Tg.asg, fixOk, Py.R.bind, SR.bind, R.sr, R.map, truthR, rd, rds, plsOf, ndup, putBack, gt, st, truth, cmpF, eqF, fz, subF, items, ec_call, ec_clo, ec_np, ec_wl, ec_sub, Val.isD, biF, asgV, asgN, esc, escs, Py.own, owns, asgTs, binF, SR.cr, backs, T.arg, isiF, slcF, wipe, putBackOwn, at0, at1, at2, at3, at4, fits, Nat.blt, Nat.succ_eq_add_one, bleC, e1, e2, e3, dat, eqv, hD, wAt]
  · obtain ⟨w, h2, hw, H2, e2⟩ := so (exs := exs) (j := k + m) (by omega) H1 fromL (by decide) (by decide)
    obtain ⟨a, h3, ha, H3, e3⟩ := IH (k + m) hj' h2 H2
    obtain ⟨b, h4, hb, H4, e4⟩ := IH (k + m) hj' h3 H3
    refine ⟨_, h4, .inr (.inr (.inr (.inl ⟨w, a, b, hw, ha, hb, rfl⟩))), H4, ?_⟩
    simp only [fromL] at e2
    simp [b__law_expr, Py.Ss.ev, Py.S.ev, Py.E.ev, Py.Es.ev, Py.Es.bo, Py.It.ev, Oe.pt, Oe.cond, Py.Ss.as, Py.S.as, Tg.asg, fixOk, Py.R.bind, SR.bind, R.sr, R.map, truthR, rd, rds, plsOf, ndup, putBack, gt, st, truth, cmpF, eqF, fz, subF, items, ec_call, ec_clo, ec_np, ec_wl, ec_sub, Val.isD, biF, asgV, asgN, esc, escs, Py.own, owns, asgTs, binF, SR.cr, backs, T.arg, isiF, slcF, wipe, putBackOwn, at0, at1, at2, at3, at4, fits, Nat.blt, Nat.succ_eq_add_one, bleC, e1, e2, e3, e4, dat, eqv, hD, wFrom]
  · obtain ⟨w, h2, hw, H2, e2⟩ := so (exs := exs) (j := k + m) (by omega) H1 pairL (by decide) (by decide)
    obtain ⟨a, h3, ha, H3, e3⟩ := IH (k + m) hj' h2 H2
    obtain ⟨b, h4, hb, H4, e4⟩ := IH (k + m) hj' h3 H3
    refine ⟨_, h4, .inr (.inr (.inr (.inr ⟨w, a, b, hw, ha, hb, rfl⟩))), H4, ?_⟩
    have k3 : ¬ kd < 3 := by omega
    have n3 : ¬ kd = 3 := by omega
    have n4 : ¬ kd = 4 := by omega
    have n5 : ¬ kd = 5 := by omega
    have q3 : (kd == 3) = false := by simpa using n3
    have q4 : (kd == 4) = false := by simpa using n4
    have q5 : (kd == 5) = false := by simpa using n5
    simp only [pairL] at e2
    simp [b__law_expr, Py.Ss.ev, Py.S.ev, Py.E.ev, Py.Es.ev, Py.Es.bo, Py.It.ev, Oe.pt, Oe.cond, Py.Ss.as, Py.S.as, Tg.asg, fixOk, Py.R.bind, SR.bind, R.sr, R.map, truthR, rd, rds, plsOf, ndup, putBack, gt, st, truth, cmpF, eqF, fz, subF, items, ec_call, ec_clo, ec_np, ec_wl, ec_sub, Val.isD, biF, asgV, asgN, esc, escs, Py.own, owns, asgTs, binF, SR.cr, backs, T.arg, isiF, slcF, wipe, putBackOwn, at0, at1, at2, at3, at4, fits, Nat.blt, Nat.succ_eq_add_one, bleC, e1, e2, e3, e4, dat, eqv, hD, k3, q3, q4, q5]
theorem expr_1 : EX exs 1 1 4 := expr_S (by omega) rfl expr_0
theorem expr_2 : EX exs 2 2 5 := expr_S (by omega) rfl expr_1
end K26
namespace K26
open Py
variable {exs : List PySem.Str}
theorem head_leaf (k : Nat) : ∀ e ∈ leafL, (prg exs).call (k + 3) 5 [.v e] none = .ok (.v (.bool true)) [.v e] := by
  intro e he
  simp only [leafL, myL, List.map_cons, List.map_nil, List.cons_append, List.nil_append, List.mem_cons, List.not_mem_nil, or_false] at he
  rcases he with rfl | rfl | rfl | rfl | rfl | rfl | rfl | rfl | rfl | rfl | rfl | rfl | rfl <;> kernel_rfl
theorem head_ok {n j : Nat} (hj : 3 ≤ j) : ∀ e, DE n e → (prg exs).call j 5 [.v e] none = .ok (.v (.bool true)) [.v e] := by
  obtain ⟨k, rfl⟩ := Nat.exists_eq_add_of_le' hj
  intro e he
  cases n with
  | zero => exact head_leaf k e he
  | succ n =>
    rcases he with he | ⟨a, _, rfl⟩ | ⟨w, a, hw, _, rfl⟩ | ⟨w, a, b, hw, _, _, rfl⟩ | ⟨w, a, b, hw, _, _, rfl⟩
    · exact head_leaf k e he
    · kernel_rfl
    · simp only [atL, List.mem_cons, List.not_mem_nil, or_false] at hw
      rcases hw with rfl | rfl | rfl | rfl <;> kernel_rfl
    · simp only [fromL, List.mem_cons, List.not_mem_nil, or_false] at hw
      rcases hw with rfl | rfl | rfl <;> kernel_rfl
    · simp only [pairL, List.mem_cons, List.not_mem_nil, or_false] at hw
      rcases hw with rfl | rfl | rfl | rfl | rfl | rfl | rfl | rfl | rfl | rfl <;> kernel_rfl
end K26
namespace K26
open Py
variable {exs : List PySem.Str}
theorem inner_leaf (k : Nat) : ∀ e ∈ leafL, (prg exs).call (k + 1) 4 [.v e] none = .ok (.v (.tup [])) [.v e] := by
  intro e he
  simp only [leafL, myL, List.map_cons, List.map_nil, List.cons_append, List.nil_append, List.mem_cons, List.not_mem_nil, or_false] at he
  rcases he with rfl | rfl | rfl | rfl | rfl | rfl | rfl | rfl | rfl | rfl | rfl | rfl | rfl <;> kernel_rfl
/-- the parts of an expression -/
def Kids (n : Nat) (ks : List Val) : Prop := ks = [] ∨ ∃ m, n = m + 1 ∧ ((∃ a, DE m a ∧ ks = [a]) ∨ ∃ a b, DE m a ∧ DE m b ∧ ks = [a, b])
theorem inner_ok {n j : Nat} (hj : 1 ≤ j) : ∀ e, DE n e → ∃ ks, Kids n ks ∧ ∀ j, 1 ≤ j → (prg exs).call j 4 [.v e] none = .ok (.v (.tup ks)) [.v e] := by
  intro e he
  cases n with
  | zero =>
    refine ⟨[], .inl rfl, fun j hj => ?_⟩
    obtain ⟨k, rfl⟩ := Nat.exists_eq_add_of_le' hj
    exact inner_leaf k e he
  | succ n =>
    rcases he with he | ⟨a, ha, rfl⟩ | ⟨w, a, hw, ha, rfl⟩ | ⟨w, a, b, hw, ha, hb, rfl⟩ | ⟨w, a, b, hw, ha, hb, rfl⟩
    · refine ⟨[], .inl rfl, fun j hj => ?_⟩
      obtain ⟨k, rfl⟩ := Nat.exists_eq_add_of_le' hj
      exact inner_leaf k e he
    · refine ⟨[a], .inr ⟨n, rfl, .inl ⟨a, ha, rfl⟩⟩, fun j hj => ?_⟩
      obtain ⟨k, rfl⟩ := Nat.exists_eq_add_of_le' hj
      kernel_rfl
    · refine ⟨[a], .inr ⟨n, rfl, .inl ⟨a, ha, rfl⟩⟩, fun j hj => ?_⟩
      obtain ⟨k, rfl⟩ := Nat.exists_eq_add_of_le' hj
      simp only [atL, List.mem_cons, List.not_mem_nil, or_false] at hw
      rcases hw with rfl | rfl | rfl | rfl <;> kernel_rfl
    · refine ⟨[a, b], .inr ⟨n, rfl, .inr ⟨a, b, ha, hb, rfl⟩⟩, fun j hj => ?_⟩
      obtain ⟨k, rfl⟩ := Nat.exists_eq_add_of_le' hj
      simp only [fromL, List.mem_cons, List.not_mem_nil, or_false] at hw
      rcases hw with rfl | rfl | rfl <;> kernel_rfl
    · refine ⟨[a, b], .inr ⟨n, rfl, .inr ⟨a, b, ha, hb, rfl⟩⟩, fun j hj => ?_⟩
      obtain ⟨k, rfl⟩ := Nat.exists_eq_add_of_le' hj
      simp only [pairL, List.mem_cons, List.not_mem_nil, or_false] at hw
      rcases hw with rfl | rfl | rfl | rfl | rfl | rfl | rfl | rfl | rfl | rfl <;> kernel_rfl
/-! ### is_expr -/
def Wt : Nat → Nat
  | 0 => 1
  | n + 1 => 2 * Wt n + 1
/-- what stands on the pile: an expression, its class, its depth -/
structure Pl where
  e : Val
  n : Nat
  d : Int
def Pl.v (p : Pl) : Val := .tup [p.e, .int p.d]
def Pl.Ok (p : Pl) : Prop := DE p.n p.e ∧ 0 ≤ p.d ∧ p.d + p.n ≤ 3
def wts : List Pl → Nat
  | [] => 0
  | p :: r => Wt p.n + wts r
theorem wts_app (a b : List Pl) : wts (a ++ b) = wts a + wts b := by
  induction a with
  | nil => simp [wts]
  | cons x a ih => simp only [List.cons_append, wts, ih]; omega
theorem wt_pos (n : Nat) : 1 ≤ Wt n := by cases n <;> simp [Wt]
theorem wts_len (a : List Pl) : a.length ≤ wts a := by
  induction a with
  | nil => simp [wts]
  | cons x a ih => simp only [List.length_cons, wts]; have := wt_pos x.n; omega
theorem ble_ok {n : Nat} (h : n ≤ 16777216) : Nat.ble n 16777216 = true := Nat.ble_eq_true_of_le h
theorem ex_step {k np : Nat} {c : Option Clo} {n : Nat} {t0 o3 o4 o5 : Option T} {A : List Val} {e : Val} {d m : Int} {ks : List Val} (hA : A.length ≤ 1000) (hm : m + 1 ≤ 30) (hd : d ≤ 10)
    (hh : (prg exs).call (k + 3) 5 [.v e] none = .ok (.v (.bool true)) [.v e]) (hi : (prg exs).call (k + 3) 4 [.v e] none = .ok (.v (.tup ks)) [.v e]) (hk : Kids n ks) :
    ∃ o, b_is_expr_4.ev ((prg exs).ec ((prg exs).call (k + 3)) np c) [t0, some (.vl (A ++ [.tup [e, .int d]])), some (.v (.int m)), o3, o4, o5] =
      .nx [t0, some (.vl (A ++ ks.map fun a => .tup [a, .int (d + 1)])), some (.v (.int (m + 1))), some (.v e), some (.v (.int d)), o] := by
  have b1 : decide (30 < m + 1) = false := decide_eq_false (by omega)
  have b2 : decide (10 < d) = false := decide_eq_false (by omega)
  have f0 : Nat.ble A.length 16777216 = true := ble_ok (by omega)
  have f1 : Nat.ble (A.length + 1) 16777216 = true := ble_ok (by omega)
  have f2 : Nat.ble (A.length + 2) 16777216 = true := ble_ok (by omega)
  have c1 : ¬ (30 : Int) < m + 1 := by omega
  have c2 : ¬ (10 : Int) < d := by omega
  rcases hk with rfl | ⟨_, _, ⟨a, _, rfl⟩ | ⟨a, b, _, _, rfl⟩⟩
  · exact ⟨onlyV o5, by simp [b_is_expr_4, x_is_expr_3, e_is_expr_2, Py.Ss.ev, Py.S.ev, Py.E.ev, Py.Es.ev, Py.Es.bo, Py.It.ev, Oe.pt, Oe.cond, Py.Ss.as, Py.S.as, Tg.asg, fixOk, Py.R.bind, SR.bind, R.sr, R.map, truthR, rd, rds, plsOf, ndup, putBack, gt, st, truth, cmpF, eqF, fz, subF, items, ec_call, ec_clo, ec_np, ec_wl, ec_sub, Val.isD, biF, asgV, asgN, esc, escs, Py.own, owns, asgTs, binF, SR.cr, backs, T.arg, isiF, slcF, wipe, putBackOwn, at0, at1, at2, at3, at4, fits, Nat.blt, Nat.succ_eq_add_one, bleC, hh, hi, c1, c2, f0, f1, f2, v_MOST_PARTS, v_MOST_DEEP, g_MOST_PARTS, g_MOST_DEEP, augF, itemsE, lcL, extF]⟩
  · exact ⟨onlyV o5, by simp [b_is_expr_4, x_is_expr_3, e_is_expr_2, Py.Ss.ev, Py.S.ev, Py.E.ev, Py.Es.ev, Py.Es.bo, Py.It.ev, Oe.pt, Oe.cond, Py.Ss.as, Py.S.as, Tg.asg, fixOk, Py.R.bind, SR.bind, R.sr, R.map, truthR, rd, rds, plsOf, ndup, putBack, gt, st, truth, cmpF, eqF, fz, subF, items, ec_call, ec_clo, ec_np, ec_wl, ec_sub, Val.isD, biF, asgV, asgN, esc, escs, Py.own, owns, asgTs, binF, SR.cr, backs, T.arg, isiF, slcF, wipe, putBackOwn, at0, at1, at2, at3, at4, fits, Nat.blt, Nat.succ_eq_add_one, bleC, hh, hi, c1, c2, f0, f1, f2, v_MOST_PARTS, v_MOST_DEEP, g_MOST_PARTS, g_MOST_DEEP, augF, itemsE, lcL, extF]⟩
  · exact ⟨onlyV o5, by simp [b_is_expr_4, x_is_expr_3, e_is_expr_2, Py.Ss.ev, Py.S.ev, Py.E.ev, Py.Es.ev, Py.Es.bo, Py.It.ev, Oe.pt, Oe.cond, Py.Ss.as, Py.S.as, Tg.asg, fixOk, Py.R.bind, SR.bind, R.sr, R.map, truthR, rd, rds, plsOf, ndup, putBack, gt, st, truth, cmpF, eqF, fz, subF, items, ec_call, ec_clo, ec_np, ec_wl, ec_sub, Val.isD, biF, asgV, asgN, esc, escs, Py.own, owns, asgTs, binF, SR.cr, backs, T.arg, isiF, slcF, wipe, putBackOwn, at0, at1, at2, at3, at4, fits, Nat.blt, Nat.succ_eq_add_one, bleC, hh, hi, c1, c2, f0, f1, f2, v_MOST_PARTS, v_MOST_DEEP, g_MOST_PARTS, g_MOST_DEEP, augF, itemsE, lcL, extF]⟩
/-- the loop, all piles of a weight -/
theorem ex_loop {k np : Nat} {c : Option Clo} {t0 : Option T} : ∀ (s fuel : Nat) (ps : List Pl) (m : Int) (o3 o4 o5 : Option T), wts ps ≤ s → s < fuel → 0 ≤ m → m + s ≤ 30 → (∀ p ∈ ps, p.Ok) →
    ∃ env', whlL (fun env => truthR (e_is_expr_1.ev ((prg exs).ec ((prg exs).call (k + 3)) np c) env)) (fun env => b_is_expr_4.ev ((prg exs).ec ((prg exs).call (k + 3)) np c) env) fuel [t0, some (.vl (ps.map Pl.v)), some (.v (.int m)), o3, o4, o5] = .nx (t0 :: env')
  | s, 0, ps, m, o3, o4, o5, _, hf, _, _, _ => absurd hf (Nat.not_lt_zero s)
  | s, fuel + 1, ps, m, o3, o4, o5, hw, hf, h0, hm, hp => by
    rcases List.eq_nil_or_concat ps with rfl | ⟨qs, p, rfl⟩
    · exact ⟨_, by simp [whlL, e_is_expr_1, Py.Ss.ev, Py.S.ev, Py.E.ev, Py.Es.ev, Py.Es.bo, Py.It.ev, Oe.pt, Oe.cond, Py.Ss.as, Py.S.as, Tg.asg, fixOk, Py.R.bind, SR.bind, R.sr, R.map, truthR, rd, rds, plsOf, ndup, putBack, gt, st, truth, cmpF, eqF, fz, subF, items, ec_call, ec_clo, ec_np, ec_wl, ec_sub, Val.isD, biF, asgV, asgN, esc, escs, Py.own, owns, asgTs, binF, SR.cr, backs, T.arg, isiF, slcF, wipe, putBackOwn, at0, at1, at2, at3, at4, fits, Nat.blt, Nat.succ_eq_add_one, bleC]; rfl⟩
    · rw [List.concat_eq_append] at hw hp ⊢
      rw [wts_app] at hw
      obtain ⟨he, d0, d1⟩ := hp p (List.mem_append_right _ List.mem_cons_self)
      have hwp : wts [p] = Wt p.n := rfl
      have wp := wt_pos p.n
      have wl := wts_len qs
      obtain ⟨ks, hk, hi⟩ := inner_ok (exs := exs) (j := 1) (by omega) p.e he
      have hh := head_ok (exs := exs) (j := k + 3) (by omega) p.e he
      obtain ⟨o, es⟩ := ex_step (np := np) (c := c) (t0 := t0) (o3 := o3) (o4 := o4) (o5 := o5) (A := qs.map Pl.v) (e := p.e) (d := p.d) (m := m) (by rw [List.length_map]; omega) (by omega) (by omega) hh (hi (k + 3) (by omega)) hk
      have hs : s = (s - 1) + 1 := by omega
      obtain ⟨ms, e1, e2, e3⟩ : ∃ ms : List Pl, ks.map (fun a => Val.tup [a, .int (p.d + 1)]) = ms.map Pl.v ∧ wts ms + 1 ≤ Wt p.n ∧ ∀ q ∈ ms, q.Ok := by
        rcases hk with rfl | ⟨n', hn, ⟨a, ha, rfl⟩ | ⟨a, b, ha, hb, rfl⟩⟩
        · exact ⟨[], rfl, by simp [wts]; omega, fun q hq => nomatch hq⟩
        · refine ⟨[⟨a, n', p.d + 1⟩], rfl, ?_, fun q hq => ?_⟩
          · rw [hn]; simp only [wts, Wt]; omega
          · obtain rfl := List.mem_singleton.mp hq
            exact ⟨ha, by show (0 : Int) ≤ p.d + 1; omega, by show p.d + 1 + (n' : Int) ≤ 3; omega⟩
        · refine ⟨[⟨a, n', p.d + 1⟩, ⟨b, n', p.d + 1⟩], rfl, ?_, fun q hq => ?_⟩
          · rw [hn]; simp only [wts, Wt]; omega
          · simp only [List.mem_cons, List.not_mem_nil, or_false] at hq
            rcases hq with rfl | rfl
            · exact ⟨ha, by show (0 : Int) ≤ p.d + 1; omega, by show p.d + 1 + (n' : Int) ≤ 3; omega⟩
            · exact ⟨hb, by show (0 : Int) ≤ p.d + 1; omega, by show p.d + 1 + (n' : Int) ≤ 3; omega⟩
      rw [e1, ← List.map_append] at es
      obtain ⟨env', ef⟩ := ex_loop (k := k) (np := np) (c := c) (t0 := t0) (s - 1) fuel (qs ++ ms) (m + 1) (some (.v p.e)) (some (.v (.int p.d))) o (by rw [wts_app]; omega) (by omega) (by omega) (by omega) (fun q hq => by
        rcases List.mem_append.mp hq with hq | hq
        · exact hp q (List.mem_append_left _ hq)
        · exact e3 q hq)
      have et : truthR (e_is_expr_1.ev ((prg exs).ec ((prg exs).call (k + 3)) np c) [t0, some (.vl ((qs ++ [p]).map Pl.v)), some (.v (.int m)), o3, o4, o5]) = .ok true [t0, some (.vl ((qs ++ [p]).map Pl.v)), some (.v (.int m)), o3, o4, o5] := by
        simp [e_is_expr_1, Py.Ss.ev, Py.S.ev, Py.E.ev, Py.Es.ev, Py.Es.bo, Py.It.ev, Oe.pt, Oe.cond, Py.Ss.as, Py.S.as, Tg.asg, fixOk, Py.R.bind, SR.bind, R.sr, R.map, truthR, rd, rds, plsOf, ndup, putBack, gt, st, truth, cmpF, eqF, fz, subF, items, ec_call, ec_clo, ec_np, ec_wl, ec_sub, Val.isD, biF, asgV, asgN, esc, escs, Py.own, owns, asgTs, binF, SR.cr, backs, T.arg, isiF, slcF, wipe, putBackOwn, at0, at1, at2, at3, at4, fits, Nat.blt, Nat.succ_eq_add_one, bleC]
      have es2 : b_is_expr_4.ev ((prg exs).ec ((prg exs).call (k + 3)) np c) [t0, some (.vl ((qs ++ [p]).map Pl.v)), some (.v (.int m)), o3, o4, o5] = .nx [t0, some (.vl ((qs ++ ms).map Pl.v)), some (.v (.int (m + 1))), some (.v p.e), some (.v (.int p.d)), o] := by
        rw [List.map_append]; exact es
      exact ⟨env', by simp only [whlL, et, R.sr, es2, ef]⟩
theorem isexpr_ok {n j : Nat} (hn : n ≤ 2) (hj : 4 ≤ j) {e : Val} (he : DE n e) : (prg exs).call j 6 [.v e] none = .ok (.v (.bool true)) [.v e] := by
  obtain ⟨k, rfl⟩ := Nat.exists_eq_add_of_le' hj
  have hw : Wt n ≤ 7 := by
    have : n = 0 ∨ n = 1 ∨ n = 2 := by omega
    rcases this with rfl | rfl | rfl <;> decide
  obtain ⟨env', ef⟩ := ex_loop (exs := exs) (k := k) (np := 1) (c := none) (t0 := some (.v e)) 7 100000 [⟨e, n, 1⟩] 0 none none none (by simp only [wts]; omega) (by omega) (by omega) (by omega) (fun q hq => by
    obtain rfl := List.mem_singleton.mp hq
    exact ⟨he, by show (0 : Int) ≤ 1; omega, by show (1 : Int) + (n : Int) ≤ 3; omega⟩)
  have ef : whlL (fun env => truthR (e_is_expr_1.ev ((prg exs).ec ((prg exs).call (k + 3)) 1 none) env)) (fun env => b_is_expr_4.ev ((prg exs).ec ((prg exs).call (k + 3)) 1 none) env) 100000 [some (.v e), some (.vl [.tup [e, .int 1]]), some (.v (.int 0)), none, none, none] = .nx (some (.v e) :: env') := ef
  have hwl : (prg exs).wl = 100000 := rfl
  rw [show k + 4 = (k + 3) + 1 from rfl, u_is_expr]
  simp [b_is_expr, Py.Ss.ev, Py.S.ev, Py.E.ev, Py.Es.ev, Py.Es.bo, Py.It.ev, Oe.pt, Oe.cond, Py.Ss.as, Py.S.as, Tg.asg, fixOk, Py.R.bind, SR.bind, R.sr, R.map, rd, rds, plsOf, ndup, putBack, gt, st, truth, cmpF, eqF, fz, subF, items, ec_call, ec_clo, ec_np, ec_wl, ec_sub, Val.isD, biF, asgV, asgN, esc, escs, Py.own, owns, asgTs, binF, SR.cr, backs, T.arg, isiF, slcF, wipe, putBackOwn, at0, at1, at2, at3, at4, fits, Nat.blt, Nat.succ_eq_add_one, bleC, hwl, ef]
end K26
namespace K26
open Py
variable {exs : List PySem.Str}
/-! ### parts_in -/
theorem parts_step {k : Nat} {e : Val} {ks : List Val} {ws : List Int} (hi : (prg exs).call k 4 [.v e] none = .ok (.v (.tup ks)) [.v e])
    (hk : (ks = [] ∧ ws = []) ∨ (∃ a x, ks = [a] ∧ ws = [x] ∧ (prg exs).call k 7 [.v a] none = .ok (.v (.int x)) [.v a]) ∨ ∃ a b x y, ks = [a, b] ∧ ws = [x, y] ∧ (prg exs).call k 7 [.v a] none = .ok (.v (.int x)) [.v a] ∧ (prg exs).call k 7 [.v b] none = .ok (.v (.int y)) [.v b]) :
    (prg exs).call (k + 1) 7 [.v e] none = .ok (.v (.int (1 + ws.sum))) [.v e] := by
  rw [u_parts_in]
  rcases hk with ⟨rfl, rfl⟩ | ⟨a, x, rfl, rfl, h1⟩ | ⟨a, b, x, y, rfl, rfl, h1, h2⟩
  · simp [b_parts_in, x_parts_in_2, e_parts_in_1, Py.Ss.ev, Py.S.ev, Py.E.ev, Py.Es.ev, Py.Es.bo, Py.It.ev, Oe.pt, Oe.cond, Py.Ss.as, Py.S.as, Tg.asg, fixOk, Py.R.bind, SR.bind, R.sr, R.map, truthR, rd, rds, plsOf, ndup, putBack, gt, st, truth, cmpF, eqF, fz, subF, items, ec_call, ec_clo, ec_np, ec_wl, ec_sub, Val.isD, biF, asgV, asgN, esc, escs, Py.own, owns, asgTs, binF, SR.cr, backs, T.arg, isiF, slcF, wipe, putBackOwn, at0, at1, at2, at3, at4, fits, Nat.blt, Nat.succ_eq_add_one, bleC, hi, itemsE, lcL, intsOf]
  · simp [b_parts_in, x_parts_in_2, e_parts_in_1, Py.Ss.ev, Py.S.ev, Py.E.ev, Py.Es.ev, Py.Es.bo, Py.It.ev, Oe.pt, Oe.cond, Py.Ss.as, Py.S.as, Tg.asg, fixOk, Py.R.bind, SR.bind, R.sr, R.map, truthR, rd, rds, plsOf, ndup, putBack, gt, st, truth, cmpF, eqF, fz, subF, items, ec_call, ec_clo, ec_np, ec_wl, ec_sub, Val.isD, biF, asgV, asgN, esc, escs, Py.own, owns, asgTs, binF, SR.cr, backs, T.arg, isiF, slcF, wipe, putBackOwn, at0, at1, at2, at3, at4, fits, Nat.blt, Nat.succ_eq_add_one, bleC, hi, itemsE, lcL, intsOf, h1]
  · simp [b_parts_in, x_parts_in_2, e_parts_in_1, Py.Ss.ev, Py.S.ev, Py.E.ev, Py.Es.ev, Py.Es.bo, Py.It.ev, Oe.pt, Oe.cond, Py.Ss.as, Py.S.as, Tg.asg, fixOk, Py.R.bind, SR.bind, R.sr, R.map, truthR, rd, rds, plsOf, ndup, putBack, gt, st, truth, cmpF, eqF, fz, subF, items, ec_call, ec_clo, ec_np, ec_wl, ec_sub, Val.isD, biF, asgV, asgN, esc, escs, Py.own, owns, asgTs, binF, SR.cr, backs, T.arg, isiF, slcF, wipe, putBackOwn, at0, at1, at2, at3, at4, fits, Nat.blt, Nat.succ_eq_add_one, bleC, hi, itemsE, lcL, intsOf, h1, h2]
theorem parts_ok : ∀ (n : Nat) (e : Val), DE n e → ∃ w : Int, (0 ≤ w ∧ w ≤ Wt n) ∧ ∀ j, n + 2 ≤ j → (prg exs).call j 7 [.v e] none = .ok (.v (.int w)) [.v e] := by
  intro n
  induction n with
  | zero =>
    intro e he
    obtain ⟨ks, hk, hi⟩ := inner_ok (exs := exs) (j := 1) (by omega) e he
    rcases hk with rfl | ⟨m, hm, _⟩
    · refine ⟨1, ⟨by omega, by simp [Wt]⟩, fun j hj => ?_⟩
      obtain ⟨k, rfl⟩ := Nat.exists_eq_add_of_le' hj
      have := parts_step (exs := exs) (k := k + 1) (e := e) (hi (k + 1) (by omega)) (.inl ⟨rfl, rfl⟩)
      simpa using this
    · omega
  | succ n ih =>
    intro e he
    obtain ⟨ks, hk, hi⟩ := inner_ok (exs := exs) (j := 1) (by omega) e he
    have hW : ((Wt (n + 1) : Nat) : Int) = 2 * (Wt n : Nat) + 1 := by simp [Wt]
    have wp := wt_pos n
    rcases hk with rfl | ⟨m, hm, ⟨a, ha, rfl⟩ | ⟨a, b, ha, hb, rfl⟩⟩
    · refine ⟨1, ⟨by omega, by omega⟩, fun j hj => ?_⟩
      obtain ⟨k, rfl⟩ := Nat.exists_eq_add_of_le' hj
      have := parts_step (exs := exs) (k := k + n + 2) (e := e) (hi _ (by omega)) (.inl ⟨rfl, rfl⟩)
      simpa [show k + (n + 1 + 2) = k + n + 2 + 1 by omega] using this
    · have hmn : m = n := by omega
      subst hmn
      obtain ⟨x, ⟨x0, x1⟩, hx⟩ := ih a ha
      refine ⟨1 + x, ⟨by omega, by omega⟩, fun j hj => ?_⟩
      obtain ⟨k, rfl⟩ := Nat.exists_eq_add_of_le' hj
      have := parts_step (exs := exs) (k := k + m + 2) (e := e) (hi _ (by omega)) (.inr (.inl ⟨a, x, rfl, rfl, hx _ (by omega)⟩))
      simpa [show k + (m + 1 + 2) = k + m + 2 + 1 by omega] using this
    · have hmn : m = n := by omega
      subst hmn
      obtain ⟨x, ⟨x0, x1⟩, hx⟩ := ih a ha
      obtain ⟨y, ⟨y0, y1⟩, hy⟩ := ih b hb
      refine ⟨1 + (x + y), ⟨by omega, by omega⟩, fun j hj => ?_⟩
      obtain ⟨k, rfl⟩ := Nat.exists_eq_add_of_le' hj
      have := parts_step (exs := exs) (k := k + m + 2) (e := e) (hi _ (by omega)) (.inr (.inr ⟨a, b, x, y, rfl, rfl, hx _ (by omega), hy _ (by omega)⟩))
      simpa [show k + (m + 1 + 2) = k + m + 2 + 1 by omega] using this
/-! ### statements -/
def DX (e : Val) : Prop := ∃ n, n ≤ 2 ∧ DE n e
theorem DX.expr {e : Val} (h : DX e) {j : Nat} (hj : 4 ≤ j) : (prg exs).call j 6 [.v e] none = .ok (.v (.bool true)) [.v e] := let ⟨_, hn, he⟩ := h; isexpr_ok hn hj he
theorem DX.parts {e : Val} (h : DX e) : ∃ w : Int, (0 ≤ w ∧ w ≤ 7) ∧ ∀ j, 4 ≤ j → (prg exs).call j 7 [.v e] none = .ok (.v (.int w)) [.v e] := by
  obtain ⟨n, hn, he⟩ := h
  obtain ⟨w, ⟨w0, w1⟩, hw⟩ := parts_ok (exs := exs) n e he
  have hW : Wt n ≤ 7 := by
    have : n = 0 ∨ n = 1 ∨ n = 2 := by omega
    rcases this with rfl | rfl | rfl <;> decide
  exact ⟨w, ⟨w0, by omega⟩, fun j hj => hw j (by omega)⟩
def wGo : Val := .str [103, 111]
def wPut : Val := .str [112, 117, 116]
def wIf : Val := .str [105, 102]
def deedL : List Val := [.str [117, 112], .str [100, 111, 119, 110], .str [111, 112, 101, 110], .str [115, 116, 97, 121]]
def Plain (s : Val) : Prop := (∃ w, w ∈ deedL ∧ s = .tup [wGo, w]) ∨ ∃ p e, (p = 0 ∨ p = 1) ∧ DX e ∧ s = .tup [wPut, .int p, e]
theorem plain_ok {s : Val} (h : Plain s) {j : Nat} (hj : 5 ≤ j) : (prg exs).call j 8 [.v s] none = .ok (.v (.bool true)) [.v s] := by
  obtain ⟨k, rfl⟩ := Nat.exists_eq_add_of_le' hj
  rcases h with ⟨w, hw, rfl⟩ | ⟨p, e, hp, he, rfl⟩
  · simp only [deedL, List.mem_cons, List.not_mem_nil, or_false] at hw
    rcases hw with rfl | rfl | rfl | rfl <;> kernel_rfl
  · have h1 := he.expr (exs := exs) (j := k + 4) (by omega)
    have h2 : (prg exs).call (k + 4) 1 [.v (.int p), .v (.int 0), .v (.int 1)] none = .ok (.v (.bool true)) [.v (.int p), .v (.int 0), .v (.int 1)] := by
      rcases hp with rfl | rfl <;> kernel_rfl
    rw [show k + 5 = (k + 4) + 1 from rfl, u_is_plain_statement]
    simp [b_is_plain_statement, Py.Ss.ev, Py.S.ev, Py.E.ev, Py.Es.ev, Py.Es.bo, Py.It.ev, Oe.pt, Oe.cond, Py.Ss.as, Py.S.as, Tg.asg, fixOk, Py.R.bind, SR.bind, R.sr, R.map, truthR, rd, rds, plsOf, ndup, putBack, gt, st, truth, cmpF, eqF, fz, subF, items, ec_call, ec_clo, ec_np, ec_wl, ec_sub, Val.isD, biF, asgV, asgN, esc, escs, Py.own, owns, asgTs, binF, SR.cr, backs, T.arg, isiF, slcF, wipe, putBackOwn, at0, at1, at2, at3, at4, fits, Nat.blt, Nat.succ_eq_add_one, bleC, wPut, dat, eqv, h1, h2]
/-- a statement: plain, or an if of plain ones -/
def St (s : Val) : Prop := Plain s ∨ ∃ e b1 b2, DX e ∧ (∀ x ∈ b1, Plain x) ∧ (∀ x ∈ b2, Plain x) ∧ (b1.length ≤ 1 ∧ b2.length ≤ 1) ∧ s = .tup [wIf, e, .tup b1, .tup b2]
def kidsS : Val → List (List Val)
  | .tup [.str [105, 102], _, .tup b1, .tup b2] => [b1, b2]
  | _ => []
def push (d : Int) (s : Val) : List Val := (kidsS s).map fun b => .tup [.tup b, .int (d + 1)]
theorem plain_kids {s : Val} (h : Plain s) : kidsS s = [] := by
  rcases h with ⟨w, hw, rfl⟩ | ⟨p, e, hp, he, rfl⟩
  · rfl
  · rfl
theorem st_step {k np : Nat} {c : Option Clo} {t0 o3 : Option T} {F L : List Val} {d : Int} {s : Val} (hF : F.length ≤ 1000) (hL : L.length ≤ 1000) (hs : St s) :
    b_statements_in_2.ev ((prg exs).ec ((prg exs).call (k + 5)) np c) [t0, some (.vl F), some (.vl L), o3, some (.v (.int d)), some (.v s)] =
      .nx [t0, some (.vl (F ++ [s])), some (.vl (L ++ push d s)), o3, some (.v (.int d)), some (.v s)] := by
  have f1 : Nat.ble (F.length + 1) 16777216 = true := ble_ok (by omega)
  have f2 : Nat.ble (L.length + 2) 16777216 = true := ble_ok (by omega)
  rcases hs with hs | ⟨e, b1, b2, he, _, _, _, rfl⟩
  · have h1 := plain_ok (exs := exs) hs (j := k + 5) (by omega)
    have hp : push d s = [] := by unfold push; rw [plain_kids hs]; rfl
    rw [hp]
    rcases hs with ⟨w, hw, rfl⟩ | ⟨p, e, hp, he, rfl⟩
    · simp only [wGo] at h1 ⊢
      simp [b_statements_in_2, Py.Ss.ev, Py.S.ev, Py.E.ev, Py.Es.ev, Py.Es.bo, Py.It.ev, Oe.pt, Oe.cond, Py.Ss.as, Py.S.as, Tg.asg, fixOk, Py.R.bind, SR.bind, R.sr, R.map, truthR, rd, rds, plsOf, ndup, putBack, gt, st, truth, cmpF, eqF, fz, subF, items, ec_call, ec_clo, ec_np, ec_wl, ec_sub, Val.isD, biF, asgV, asgN, esc, escs, Py.own, owns, asgTs, binF, SR.cr, backs, T.arg, isiF, slcF, wipe, putBackOwn, at0, at1, at2, at3, at4, fits, Nat.blt, Nat.succ_eq_add_one, bleC, dat, eqv, h1, f1]
    · simp only [wPut] at h1 ⊢
      simp [b_statements_in_2, Py.Ss.ev, Py.S.ev, Py.E.ev, Py.Es.ev, Py.Es.bo, Py.It.ev, Oe.pt, Oe.cond, Py.Ss.as, Py.S.as, Tg.asg, fixOk, Py.R.bind, SR.bind, R.sr, R.map, truthR, rd, rds, plsOf, ndup, putBack, gt, st, truth, cmpF, eqF, fz, subF, items, ec_call, ec_clo, ec_np, ec_wl, ec_sub, Val.isD, biF, asgV, asgN, esc, escs, Py.own, owns, asgTs, binF, SR.cr, backs, T.arg, isiF, slcF, wipe, putBackOwn, at0, at1, at2, at3, at4, fits, Nat.blt, Nat.succ_eq_add_one, bleC, dat, eqv, h1, f1]
  · have h1 := he.expr (exs := exs) (j := k + 5) (by omega)
    have hp : push d (.tup [wIf, e, .tup b1, .tup b2]) = [.tup [.tup b1, .int (d + 1)], .tup [.tup b2, .int (d + 1)]] := rfl
    rw [hp]
    simp only [wIf]
    simp [b_statements_in_2, Py.Ss.ev, Py.S.ev, Py.E.ev, Py.Es.ev, Py.Es.bo, Py.It.ev, Oe.pt, Oe.cond, Py.Ss.as, Py.S.as, Tg.asg, fixOk, Py.R.bind, SR.bind, R.sr, R.map, truthR, rd, rds, plsOf, ndup, putBack, gt, st, truth, cmpF, eqF, fz, subF, items, ec_call, ec_clo, ec_np, ec_wl, ec_sub, Val.isD, biF, asgV, asgN, esc, escs, Py.own, owns, asgTs, binF, SR.cr, backs, T.arg, isiF, slcF, wipe, putBackOwn, at0, at1, at2, at3, at4, fits, Nat.blt, Nat.succ_eq_add_one, bleC, dat, eqv, h1, f1, f2, extF]
theorem st_for {k np : Nat} {c : Option Clo} {t0 o3 : Option T} {d : Int} : ∀ (l F L : List Val) (o5 : Option T), (∀ s ∈ l, St s) → F.length + l.length ≤ 1000 → L.length + 2 * l.length ≤ 1000 →
    ∃ o5', forL (.n 5) (fun env => b_statements_in_2.ev ((prg exs).ec ((prg exs).call (k + 5)) np c) env) l [t0, some (.vl F), some (.vl L), o3, some (.v (.int d)), o5] =
      .nx [t0, some (.vl (F ++ l)), some (.vl (L ++ l.flatMap (push d))), o3, some (.v (.int d)), o5']
  | [], F, L, o5, _, _, _ => ⟨o5, by simp [forL]⟩
  | s :: l, F, L, o5, hs, hF, hL => by
    rw [List.length_cons] at hF hL
    have e1 := st_step (exs := exs) (k := k) (np := np) (c := c) (t0 := t0) (o3 := o3) (F := F) (L := L) (d := d) (by omega) (by omega) (hs s List.mem_cons_self)
    have hp : (push d s).length ≤ 2 := by
      unfold push kidsS
      rw [List.length_map]
      split <;> simp
    obtain ⟨o5', e2⟩ := st_for (k := k) (np := np) (c := c) (t0 := t0) (o3 := o3) (d := d) l (F ++ [s]) (L ++ push d s) (some (.v s)) (fun x hx => hs x (List.mem_cons_of_mem _ hx)) (by rw [List.length_append, List.length_singleton]; omega) (by rw [List.length_append]; omega)
    refine ⟨o5', ?_⟩
    simp only [forL, asgV, st, e1, e2, List.append_assoc, List.singleton_append, List.flatMap_cons]
end K26
namespace K26
open Py
variable {exs : List PySem.Str}
/-! ### statements_in -/
structure Bo where
  l : List Val
  lev : Nat
  d : Int
def Bo.v (b : Bo) : Val := .tup [.tup b.l, .int b.d]
def kidsL (l : List Val) : List (List Val) := l.flatMap kidsS
def lens : List (List Val) → Nat
  | [] => 0
  | b :: r => 1 + b.length + lens r
def Bo.sz (b : Bo) : Nat := 1 + b.l.length + (match b.lev with | 0 => 0 | _ + 1 => lens (kidsL b.l))
def Bo.Ok (b : Bo) : Prop := (∀ s ∈ b.l, match b.lev with | 0 => Plain s | _ + 1 => St s) ∧ 0 ≤ b.d ∧ b.d + b.lev ≤ 1
def szs : List Bo → Nat
  | [] => 0
  | b :: r => b.sz + szs r
theorem szs_app (a b : List Bo) : szs (a ++ b) = szs a + szs b := by
  induction a with
  | nil => simp [szs]
  | cons x a ih => simp only [List.cons_append, szs, ih]; omega
theorem szs_len (a : List Bo) : a.length ≤ szs a := by
  induction a with
  | nil => simp [szs]
  | cons x a ih => simp only [List.length_cons, szs, Bo.sz]; omega
def mkB (d : Int) (b : List Val) : Bo := ⟨b, 0, d + 1⟩
theorem push_map (d : Int) (l : List Val) : l.flatMap (push d) = ((kidsL l).map (mkB d)).map Bo.v := by
  induction l with
  | nil => rfl
  | cons s l ih =>
    rw [List.flatMap_cons, ih]
    unfold kidsL
    rw [List.flatMap_cons, List.map_append, List.map_append]
    congr 1
    unfold push
    rw [List.map_map]; rfl
theorem szs_kids (d : Int) (ls : List (List Val)) : szs (ls.map (mkB d)) = lens ls := by
  induction ls with
  | nil => rfl
  | cons b r ih =>
    show (1 + b.length + 0) + szs (r.map (mkB d)) = 1 + b.length + lens r
    rw [ih]; rfl
theorem kids_plain {l : List Val} (h : ∀ s ∈ l, Plain s) : kidsL l = [] := by
  unfold kidsL
  induction l with
  | nil => rfl
  | cons s l ih =>
    rw [List.flatMap_cons, plain_kids (h s List.mem_cons_self), ih fun x hx => h x (List.mem_cons_of_mem _ hx)]; rfl
theorem kids_ok {l : List Val} (h : ∀ s ∈ l, St s) : ∀ b ∈ kidsL l, (∀ x ∈ b, Plain x) ∧ b.length ≤ 1 := by
  intro b hb
  obtain ⟨s, hs, hb⟩ := List.mem_flatMap.mp hb
  rcases h s hs with hp | ⟨e, b1, b2, _, h1, h2, ⟨l1, l2⟩, rfl⟩
  · rw [plain_kids hp] at hb; cases hb
  · have hb2 : b ∈ [b1, b2] := hb
    simp only [List.mem_cons, List.not_mem_nil, or_false] at hb2
    rcases hb2 with rfl | rfl
    · exact ⟨h1, l1⟩
    · exact ⟨h2, l2⟩
theorem st_iter {k np : Nat} {c : Option Clo} {t0 o3 o4 o5 : Option T} {A F l : List Val} {d : Int} (hs : ∀ s ∈ l, St s) (hF : F.length + l.length ≤ 40) (hA : A.length ≤ 100) (hd : d ≤ 4) :
    ∃ o5', b_statements_in_3.ev ((prg exs).ec ((prg exs).call (k + 5)) np c) [t0, some (.vl F), some (.vl (A ++ [.tup [.tup l, .int d]])), o3, o4, o5] =
      .nx [t0, some (.vl (F ++ l)), some (.vl (A ++ l.flatMap (push d))), some (.v (.tup l)), some (.v (.int d)), o5'] := by
  obtain ⟨o5', e⟩ := st_for (exs := exs) (k := k) (np := np) (c := c) (t0 := t0) (o3 := some (.v (.tup l))) (d := d) l F A o5 hs (by omega) (by omega)
  have c1 : ¬ (40 : Int) < (F.length : Int) + (l.length : Int) := by omega
  have c2 : ¬ (4 : Int) < d := by omega
  refine ⟨o5', ?_⟩
  simp [b_statements_in_3, Py.Ss.ev, Py.S.ev, Py.E.ev, Py.Es.ev, Py.Es.bo, Py.It.ev, Oe.pt, Oe.cond, Py.Ss.as, Py.S.as, Tg.asg, fixOk, Py.R.bind, SR.bind, R.sr, R.map, truthR, rd, rds, plsOf, ndup, putBack, gt, st, truth, cmpF, eqF, fz, subF, items, ec_call, ec_clo, ec_np, ec_wl, ec_sub, Val.isD, biF, asgV, asgN, esc, escs, Py.own, owns, asgTs, binF, SR.cr, backs, T.arg, isiF, slcF, wipe, putBackOwn, at0, at1, at2, at3, at4, fits, Nat.blt, Nat.succ_eq_add_one, bleC, c1, c2, v_MOST_STATEMENTS, v_MOST_IFS, g_MOST_STATEMENTS, g_MOST_IFS, itemsE, e]
theorem st_loop {k np : Nat} {c : Option Clo} {t0 : Option T} : ∀ (S fuel : Nat) (ps : List Bo) (F : List Val) (o3 o4 o5 : Option T), szs ps ≤ S → S < fuel → F.length + S ≤ 40 → (∀ p ∈ ps, p.Ok) → (∀ s ∈ F, St s) →
    ∃ F' env', whlL (fun env => truthR (e_statements_in_1.ev ((prg exs).ec ((prg exs).call (k + 5)) np c) env)) (fun env => b_statements_in_3.ev ((prg exs).ec ((prg exs).call (k + 5)) np c) env) fuel [t0, some (.vl F), some (.vl (ps.map Bo.v)), o3, o4, o5] = .nx (t0 :: some (.vl F') :: env') ∧
      (∀ s ∈ F', St s) ∧ F'.length ≤ F.length + S ∧ F.length ≤ F'.length ∧ ∀ p ∈ ps, F.length + p.l.length ≤ F'.length
  | S, 0, ps, F, o3, o4, o5, _, hf, _, _, _ => absurd hf (Nat.not_lt_zero S)
  | S, fuel + 1, ps, F, o3, o4, o5, hw, hf, hF, hp, hG => by
    rcases List.eq_nil_or_concat ps with rfl | ⟨qs, p, rfl⟩
    · exact ⟨F, _, by simp [whlL, e_statements_in_1, Py.Ss.ev, Py.S.ev, Py.E.ev, Py.Es.ev, Py.Es.bo, Py.It.ev, Oe.pt, Oe.cond, Py.Ss.as, Py.S.as, Tg.asg, fixOk, Py.R.bind, SR.bind, R.sr, R.map, truthR, rd, rds, plsOf, ndup, putBack, gt, st, truth, cmpF, eqF, fz, subF, items, ec_call, ec_clo, ec_np, ec_wl, ec_sub, Val.isD, biF, asgV, asgN, esc, escs, Py.own, owns, asgTs, binF, SR.cr, backs, T.arg, isiF, slcF, wipe, putBackOwn, at0, at1, at2, at3, at4, fits, Nat.blt, Nat.succ_eq_add_one, bleC]; rfl, hG, by omega, by omega, fun p hp => nomatch hp⟩
    · rw [List.concat_eq_append] at hw hp ⊢
      rw [szs_app] at hw
      obtain ⟨hl, d0, d1⟩ := hp p (List.mem_append_right _ List.mem_cons_self)
      have hws : szs [p] = p.sz := rfl
      have wl := szs_len qs
      have hst : ∀ s ∈ p.l, St s := fun s hs => by
        have := hl s hs
        split at this
        · exact .inl this
        · exact this
      have hsz : p.sz = 1 + p.l.length + lens (kidsL p.l) := by
        unfold Bo.sz
        cases hv : p.lev with
        | zero =>
          have : kidsL p.l = [] := kids_plain fun s hs => by
            have := hl s hs
            rw [hv] at this
            exact this
          rw [this]; rfl
        | succ n => rfl
      obtain ⟨o, es⟩ := st_iter (exs := exs) (k := k) (np := np) (c := c) (t0 := t0) (o3 := o3) (o4 := o4) (o5 := o5) (A := qs.map Bo.v) (F := F) (l := p.l) (d := p.d) hst (by omega) (by rw [List.length_map]; omega) (by omega)
      rw [push_map, ← List.map_append] at es
      obtain ⟨F', env', e1, e2, e3, e4, e5⟩ := st_loop (k := k) (np := np) (c := c) (t0 := t0) (S - 1 - p.l.length) fuel (qs ++ (kidsL p.l).map (mkB p.d)) (F ++ p.l) (some (.v (.tup p.l))) (some (.v (.int p.d))) o (by rw [szs_app, szs_kids]; omega) (by omega) (by rw [List.length_append]; omega) (fun q hq => by
        rcases List.mem_append.mp hq with hq | hq
        · exact hp q (List.mem_append_left _ hq)
        · obtain ⟨b, hb, rfl⟩ := List.mem_map.mp hq
          have hlev : p.lev ≠ 0 := fun z => by
            have : kidsL p.l = [] := kids_plain fun s hs => by
              have := hl s hs
              rw [z] at this
              exact this
            rw [this] at hb; cases hb
          exact ⟨(kids_ok hst b hb).1, by show (0 : Int) ≤ p.d + 1; omega, by show p.d + 1 + ((0 : Nat) : Int) ≤ 1; omega⟩) (fun s hs => by
        rcases List.mem_append.mp hs with hs | hs
        · exact hG s hs
        · exact hst s hs)
      rw [List.length_append] at e3 e4 e5
      have et : truthR (e_statements_in_1.ev ((prg exs).ec ((prg exs).call (k + 5)) np c) [t0, some (.vl F), some (.vl ((qs ++ [p]).map Bo.v)), o3, o4, o5]) = .ok true [t0, some (.vl F), some (.vl ((qs ++ [p]).map Bo.v)), o3, o4, o5] := by
        simp [e_statements_in_1, Py.Ss.ev, Py.S.ev, Py.E.ev, Py.Es.ev, Py.Es.bo, Py.It.ev, Oe.pt, Oe.cond, Py.Ss.as, Py.S.as, Tg.asg, fixOk, Py.R.bind, SR.bind, R.sr, R.map, truthR, rd, rds, plsOf, ndup, putBack, gt, st, truth, cmpF, eqF, fz, subF, items, ec_call, ec_clo, ec_np, ec_wl, ec_sub, Val.isD, biF, asgV, asgN, esc, escs, Py.own, owns, asgTs, binF, SR.cr, backs, T.arg, isiF, slcF, wipe, putBackOwn, at0, at1, at2, at3, at4, fits, Nat.blt, Nat.succ_eq_add_one, bleC]
      have es2 : b_statements_in_3.ev ((prg exs).ec ((prg exs).call (k + 5)) np c) [t0, some (.vl F), some (.vl ((qs ++ [p]).map Bo.v)), o3, o4, o5] = .nx [t0, some (.vl (F ++ p.l)), some (.vl ((qs ++ (kidsL p.l).map (mkB p.d)).map Bo.v)), some (.v (.tup p.l)), some (.v (.int p.d)), o] := by
        rw [List.map_append (l₁ := qs) (l₂ := [p])]; exact es
      refine ⟨F', env', by simp only [whlL, et, R.sr, es2, e1], e2, by omega, by omega, fun q hq => ?_⟩
      rcases List.mem_append.mp hq with hq | hq
      · have := e5 q (List.mem_append_left _ hq)
        omega
      · obtain rfl := List.mem_singleton.mp hq
        omega
/-- a policy: statements, not too many -/
structure Pol (l : List Val) : Prop where
  st : ∀ s ∈ l, St s
  ne : 1 ≤ l.length
  le : 1 + l.length + lens (kidsL l) ≤ 28
theorem stats_ok {j : Nat} (hj : 6 ≤ j) {l : List Val} (hl : Pol l) : ∃ F, (∀ s ∈ F, St s) ∧ F.length ≤ 28 ∧ 1 ≤ F.length ∧ (prg exs).call j 9 [.v (.tup l)] none = .ok (.vl F) [.v (.tup l)] := by
  obtain ⟨k, rfl⟩ := Nat.exists_eq_add_of_le' hj
  have h3 := hl.le
  obtain ⟨F, env', e1, e2, e3, _, e5⟩ := st_loop (exs := exs) (k := k) (np := 1) (c := none) (t0 := some (.v (.tup l))) 28 100000 [⟨l, 1, 0⟩] [] none none none (by
    show (1 + l.length + lens (kidsL l)) + 0 ≤ 28
    omega) (by omega) (by simp) (fun p hp => by
    obtain rfl := List.mem_singleton.mp hp
    exact ⟨hl.st, by show (0 : Int) ≤ 0; omega, by show (0 : Int) + ((1 : Nat) : Int) ≤ 1; omega⟩) (fun s hs => nomatch hs)
  have e1 : whlL (fun env => truthR (e_statements_in_1.ev ((prg exs).ec ((prg exs).call (k + 5)) 1 none) env)) (fun env => b_statements_in_3.ev ((prg exs).ec ((prg exs).call (k + 5)) 1 none) env) 100000 [some (.v (.tup l)), some (.vl []), some (.vl [.tup [.tup l, .int 0]]), none, none, none] = .nx (some (.v (.tup l)) :: some (.vl F) :: env') := e1
  have hwl : (prg exs).wl = 100000 := rfl
  have h5 := e5 _ List.mem_cons_self
  have h6 := hl.ne
  simp only [List.length_nil] at h5 e3
  refine ⟨F, e2, by omega, by omega, ?_⟩
  rw [show k + 6 = (k + 5) + 1 from rfl, u_statements_in]
  simp [b_statements_in, Py.Ss.ev, Py.S.ev, Py.E.ev, Py.Es.ev, Py.Es.bo, Py.It.ev, Oe.pt, Oe.cond, Py.Ss.as, Py.S.as, Tg.asg, fixOk, Py.R.bind, SR.bind, R.sr, R.map, rd, rds, plsOf, ndup, putBack, gt, st, truth, cmpF, eqF, fz, subF, items, ec_call, ec_clo, ec_np, ec_wl, ec_sub, Val.isD, biF, asgV, asgN, esc, escs, Py.own, owns, asgTs, binF, SR.cr, backs, T.arg, isiF, slcF, wipe, putBackOwn, at0, at1, at2, at3, at4, fits, Nat.blt, Nat.succ_eq_add_one, bleC, hwl, e1]
end K26
namespace K26
open Py
variable {exs : List PySem.Str}
/-! ### is_policy -/
theorem exprs_ok {s : Val} (h : St s) : ∃ es, (∀ e ∈ es, DX e) ∧ es.length ≤ 1 ∧ ∀ j, 1 ≤ j → (prg exs).call j 10 [.v s] none = .ok (.v (.lst es)) [.v s] := by
  rcases h with (⟨w, hw, rfl⟩ | ⟨p, e, hp, he, rfl⟩) | ⟨e, b1, b2, he, _, _, _, rfl⟩
  · refine ⟨[], fun e he => (nomatch he), by simp, fun j hj => ?_⟩
    obtain ⟨k, rfl⟩ := Nat.exists_eq_add_of_le' hj
    kernel_rfl
  · refine ⟨[e], fun x hx => by rw [List.mem_singleton.mp hx]; exact he, by simp, fun j hj => ?_⟩
    obtain ⟨k, rfl⟩ := Nat.exists_eq_add_of_le' hj
    kernel_rfl
  · refine ⟨[e], fun x hx => by rw [List.mem_singleton.mp hx]; exact he, by simp, fun j hj => ?_⟩
    obtain ⟨k, rfl⟩ := Nat.exists_eq_add_of_le' hj
    kernel_rfl
theorem pol_lc {c c1 : Py.Env → Py.R Bool} {it1 : Py.Env → Py.R (List Val)} {el : Py.Env → Py.R Val} {t0 t1 : Option T} (hc : ∀ env, c env = .ok true env) (hc1 : ∀ env, c1 env = .ok true env)
    (hi : ∀ s, St s → ∃ es, (∀ e ∈ es, DX e) ∧ es.length ≤ 1 ∧ it1 [t0, t1, some (.v s), none] = .ok es [t0, t1, some (.v s), none])
    (he : ∀ s e, DX e → ∃ w : Int, (0 ≤ w ∧ w ≤ 7) ∧ el [t0, t1, some (.v s), some (.v e)] = .ok (.int w) [t0, t1, some (.v s), some (.v e)]) :
    ∀ (F acc : List Val), (∀ s ∈ F, St s) → ∃ ns : List Int, (ns.length ≤ F.length ∧ 0 ≤ ns.sum ∧ ns.sum ≤ 7 * F.length) ∧ lc2L (.n 2) [2, 3] c it1 (.n 3) [3] c1 el F acc [t0, t1, none, none] = .ok (acc ++ ns.map Val.int) [t0, t1, none, none]
  | [], acc, _ => ⟨[], ⟨by simp, by simp, by simp⟩, by simp [lc2L]⟩
  | s :: F, acc, hF => by
    obtain ⟨es, h1, h2, h3⟩ := hi s (hF s List.mem_cons_self)
    have hFF : ∀ x ∈ F, St x := fun x hx => hF x (List.mem_cons_of_mem _ hx)
    cases es with
    | nil =>
      obtain ⟨ns, ⟨nl, n0, n1⟩, e⟩ := pol_lc hc hc1 hi he F acc hFF
      refine ⟨ns, ⟨by rw [List.length_cons]; omega, n0, by rw [List.length_cons]; omega⟩, ?_⟩
      simp only [lc2L, asgV, st, hc, h3, lcL, wipe, e]
    | cons x es =>
      cases es with
      | cons y es => simp at h2
      | nil =>
        obtain ⟨w, ⟨w0, w1⟩, hw⟩ := he s x (h1 x List.mem_cons_self)
        obtain ⟨ns, ⟨nl, n0, n1⟩, e⟩ := pol_lc hc hc1 hi he F (acc ++ [.int w]) hFF
        refine ⟨w :: ns, ⟨by rw [List.length_cons, List.length_cons]; omega, by rw [List.sum_cons]; omega, by rw [List.length_cons, List.sum_cons]; omega⟩, ?_⟩
        simp only [lc2L, asgV, st, hc, hc1, h3, lcL, wipe, hw, e, List.map_cons, List.append_assoc, List.singleton_append]
theorem intsOf_map (ns : List Int) : intsOf (ns.map Val.int) = some ns := by
  induction ns with
  | nil => rfl
  | cons n ns ih => simp only [List.map_cons, intsOf, ih, Option.map_some]
theorem pol_x {k : Nat} {c : Option Clo} {t0 : Option T} {F : List Val} (hF : ∀ s ∈ F, St s) (hl : F.length ≤ 28) : ∃ ns : List Int, (0 ≤ ns.sum ∧ ns.sum ≤ 200) ∧
    x_is_policy_2.ev ((prg exs).ec ((prg exs).call (k + 4)) 1 c) [t0, some (.vl F), none, none] = .ok (.t (.vl (ns.map Val.int))) [t0, some (.v (.lst F)), none, none] := by
  obtain ⟨ns, ⟨n0, n1, n2⟩, e⟩ := pol_lc (t0 := t0) (t1 := some (.v (.lst F))) (c := fun env => Oe.cond ((prg exs).ec ((prg exs).call (k + 4)) 1 c) .no env) (c1 := fun env => Oe.cond ((prg exs).ec ((prg exs).call (k + 4)) 1 c) .no env)
    (it1 := fun env => Py.It.ev ((prg exs).ec ((prg exs).call (k + 4)) 1 c) (.e (.call 10 (.cons (.var 2) .nil))) env) (el := fun env => (e_is_policy_1.ev ((prg exs).ec ((prg exs).call (k + 4)) 1 c) env).bind fun o env => esc env o)
    (fun env => rfl) (fun env => rfl) (fun s hs => by
      obtain ⟨es, h1, h2, h3⟩ := exprs_ok (exs := exs) hs
      have h4 := h3 (k + 4) (by omega)
      exact ⟨es, h1, h2, by simp [Py.Ss.ev, Py.S.ev, Py.E.ev, Py.Es.ev, Py.Es.bo, Py.It.ev, Oe.pt, Oe.cond, Py.Ss.as, Py.S.as, Tg.asg, fixOk, Py.R.bind, SR.bind, R.sr, R.map, truthR, rd, rds, plsOf, ndup, putBack, gt, st, truth, cmpF, eqF, fz, subF, items, ec_call, ec_clo, ec_np, ec_wl, ec_sub, Val.isD, biF, asgV, asgN, esc, escs, Py.own, owns, asgTs, binF, SR.cr, backs, T.arg, isiF, slcF, wipe, putBackOwn, at0, at1, at2, at3, at4, fits, Nat.blt, Nat.succ_eq_add_one, bleC, h4, itemsE]⟩) (fun s e he => by
      obtain ⟨w, hw, h3⟩ := he.parts (exs := exs)
      have h4 := h3 (k + 4) (by omega)
      exact ⟨w, hw, by simp [e_is_policy_1, Py.Ss.ev, Py.S.ev, Py.E.ev, Py.Es.ev, Py.Es.bo, Py.It.ev, Oe.pt, Oe.cond, Py.Ss.as, Py.S.as, Tg.asg, fixOk, Py.R.bind, SR.bind, R.sr, R.map, truthR, rd, rds, plsOf, ndup, putBack, gt, st, truth, cmpF, eqF, fz, subF, items, ec_call, ec_clo, ec_np, ec_wl, ec_sub, Val.isD, biF, asgV, asgN, esc, escs, Py.own, owns, asgTs, binF, SR.cr, backs, T.arg, isiF, slcF, wipe, putBackOwn, at0, at1, at2, at3, at4, fits, Nat.blt, Nat.succ_eq_add_one, bleC, h4]⟩) F [] hF
  refine ⟨ns, ⟨n1, by omega⟩, ?_⟩
  have h1 : Py.It.ev ((prg exs).ec ((prg exs).call (k + 4)) 1 c) (.e (.var 1)) [t0, some (.vl F), none, none] = .ok F [t0, some (.v (.lst F)), none, none] := by simp [Py.Ss.ev, Py.S.ev, Py.E.ev, Py.Es.ev, Py.Es.bo, Py.It.ev, Oe.pt, Oe.cond, Py.Ss.as, Py.S.as, Tg.asg, fixOk, Py.R.bind, SR.bind, R.sr, R.map, truthR, rd, rds, plsOf, ndup, putBack, gt, st, truth, cmpF, eqF, fz, subF, items, ec_call, ec_clo, ec_np, ec_wl, ec_sub, Val.isD, biF, asgV, asgN, esc, escs, Py.own, owns, asgTs, binF, SR.cr, backs, T.arg, isiF, slcF, wipe, putBackOwn, at0, at1, at2, at3, at4, fits, Nat.blt, Nat.succ_eq_add_one, bleC, itemsE]
  have hf : fits (ns.map Val.int).length = true := ble_ok (by rw [List.length_map]; omega)
  have hwp : wipe [t0, some (.v (.lst F)), none, none] [2, 3] = [t0, some (.v (.lst F)), none, none] := rfl
  have hpb : putBackOwn [t0, some (.v (.lst F)), none, none] [t0, some (.v (.lst F)), none, none] [2, 3] = [t0, some (.v (.lst F)), none, none] := rfl
  rw [List.nil_append] at e
  unfold x_is_policy_2
  simp only [Py.E.ev, h1, Py.R.bind, hwp]
  simp only [Py.R.bind] at e
  rw [e]
  simp only [hf, hpb]
theorem policy_ok {j : Nat} (hj : 7 ≤ j) {l : List Val} (hl : Pol l) : (prg exs).call j 11 [.v (.tup l)] none = .ok (.v (.bool true)) [.v (.tup l)] := by
  obtain ⟨k, rfl⟩ := Nat.exists_eq_add_of_le' hj
  obtain ⟨F, h1, h2, h3, h4⟩ := stats_ok (exs := exs) (j := k + 6) (by omega) hl
  obtain ⟨ns, ⟨n0, n1⟩, e⟩ := pol_x (exs := exs) (k := k + 2) (c := none) (t0 := some (.v (.tup l))) h1 h2
  have e : x_is_policy_2.ev ((prg exs).ec ((prg exs).call (k + 6)) 1 none) [some (.v (.tup l)), some (.vl F), none, none] = .ok (.t (.vl (ns.map Val.int))) [some (.v (.tup l)), some (.v (.lst F)), none, none] := e
  have hz : ((F.length : Int) == 0) = false := by simp; intro z; rw [z] at h3; simp at h3
  have h5 : intsOf (ns.map Val.int) = some ns := intsOf_map ns
  rw [show k + 7 = (k + 6) + 1 from rfl, u_is_policy]
  simp [b_is_policy, Py.Ss.ev, Py.S.ev, Py.E.ev, Py.Es.ev, Py.Es.bo, Py.It.ev, Oe.pt, Oe.cond, Py.Ss.as, Py.S.as, Tg.asg, fixOk, Py.R.bind, SR.bind, R.sr, R.map, truthR, rd, rds, plsOf, ndup, putBack, gt, st, truth, cmpF, eqF, fz, subF, items, ec_call, ec_clo, ec_np, ec_wl, ec_sub, Val.isD, biF, asgV, asgN, esc, escs, Py.own, owns, asgTs, binF, SR.cr, backs, T.arg, isiF, slcF, wipe, putBackOwn, at0, at1, at2, at3, at4, fits, Nat.blt, Nat.succ_eq_add_one, bleC, h4, dat, eqv, hz, e, h5, v_MOST_ALL, g_MOST_ALL, n1]
end K26
namespace K26
open Py
variable {exs : List PySem.Str}
/-! ### drawn policies -/
def As (s : Val) : Prop := St s ∧ lens (kidsS s) ≤ 3
def As.all (l : List Val) : Prop := ∀ s ∈ l, As s
theorem lens_app (a b : List (List Val)) : lens (a ++ b) = lens a + lens b := by
  induction a with
  | nil => simp [lens]
  | cons x a ih => simp only [List.cons_append, lens, ih]; omega
theorem pol_step {k np : Nat} {c : Option Clo} {h : List Val} (H : Hd h) {o1 o2 o3 o4 o5 o7 o8 : Option T} {A : List Val} (hA : A.length ≤ 100) :
    ∃ s h' o, As s ∧ Hd h' ∧ b__law_policy_1.ev ((prg exs).ec ((prg exs).call (k + 5)) np c) [some (.vl h), o1, o2, o3, o4, o5, some (.vl A), o7, o8] = .nx [some (.vl h'), o1, o2, o3, o4, o5, some (.vl (A ++ [s])), o7, o] := by
  obtain ⟨e0, h1, he0, H1, q1⟩ := expr_2 (exs := exs) (k + 5) (by omega) h H
  obtain ⟨deed, h2, hd, H2, q2⟩ := so (exs := exs) (j := k + 5) (by omega) H1 [.tup [wGo, .str [117, 112]], .tup [wGo, .str [100, 111, 119, 110]], .tup [wGo, .str [111, 112, 101, 110]], .tup [wGo, .str [115, 116, 97, 121]], .tup [wPut, .int 1, e0]] (by simp) (by simp)
  obtain ⟨d, h3, H3, ⟨d0, d1⟩, q3⟩ := dr (exs := exs) (j := k + 5) (by omega) H2 2 (by omega) (by omega)
  obtain ⟨e1, h4, he1, H4, q4⟩ := expr_2 (exs := exs) (k + 5) (by omega) h3 H3
  obtain ⟨e2, h5, he2, H5, q5⟩ := expr_2 (exs := exs) (k + 5) (by omega) h4 H4
  obtain ⟨s, h6, hs, H6, q6⟩ := so (exs := exs) (j := k + 5) (by omega) H5 [.tup [wPut, .int d, e1], .tup [wIf, e2, .tup [deed], .tup []]] (by simp) (by simp)
  have hdeed : Plain deed := by
    simp only [List.mem_cons, List.not_mem_nil, or_false] at hd
    rcases hd with rfl | rfl | rfl | rfl | rfl
    · exact .inl ⟨_, by simp [deedL], rfl⟩
    · exact .inl ⟨_, by simp [deedL], rfl⟩
    · exact .inl ⟨_, by simp [deedL], rfl⟩
    · exact .inl ⟨_, by simp [deedL], rfl⟩
    · exact .inr ⟨1, e0, .inr rfl, ⟨2, by omega, he0⟩, rfl⟩
  have f1 : Nat.ble (A.length + 1) 16777216 = true := ble_ok (by omega)
  refine ⟨s, h6, some (.v deed), ?_, H6, ?_⟩
  · simp only [List.mem_cons, List.not_mem_nil, or_false] at hs
    rcases hs with rfl | rfl
    · exact ⟨.inl (.inr ⟨d, e1, by omega, ⟨2, by omega, he1⟩, rfl⟩), by show (0 : Nat) ≤ 3; omega⟩
    · exact ⟨.inr ⟨e2, [deed], [], ⟨2, by omega, he2⟩, fun x hx => by rw [List.mem_singleton.mp hx]; exact hdeed, fun x hx => (nomatch hx), by simp, rfl⟩, by show (1 + 1 + (1 + 0 + 0) : Nat) ≤ 3; omega⟩
  · simp only [wGo, wPut] at q2
    simp only [wPut, wIf] at q6
    simp [b__law_policy_1, Py.Ss.ev, Py.S.ev, Py.E.ev, Py.Es.ev, Py.Es.bo, Py.It.ev, Oe.pt, Oe.cond, Py.Ss.as, Py.S.as, Tg.asg, fixOk, Py.R.bind, SR.bind, R.sr, R.map, truthR, rd, rds, plsOf, ndup, putBack, gt, st, truth, cmpF, eqF, fz, subF, items, ec_call, ec_clo, ec_np, ec_wl, ec_sub, Val.isD, biF, asgV, asgN, esc, escs, Py.own, owns, asgTs, binF, SR.cr, backs, T.arg, isiF, slcF, wipe, putBackOwn, at0, at1, at2, at3, at4, fits, Nat.blt, Nat.succ_eq_add_one, bleC, q1, q2, q3, q4, q5, q6, f1]
theorem pol_for {k np : Nat} {c : Option Clo} {o1 o2 o3 o4 o5 : Option T} : ∀ (l : List Val) (h : List Val) (A : List Val) (o7 o8 : Option T), Hd h → A.length + l.length ≤ 100 →
    ∃ B h' o7' o8', As.all B ∧ B.length = l.length ∧ Hd h' ∧ forL (.n 7) (fun env => b__law_policy_1.ev ((prg exs).ec ((prg exs).call (k + 5)) np c) env) l [some (.vl h), o1, o2, o3, o4, o5, some (.vl A), o7, o8] = .nx [some (.vl h'), o1, o2, o3, o4, o5, some (.vl (A ++ B)), o7', o8']
  | [], h, A, o7, o8, H, _ => ⟨[], h, o7, o8, fun s hs => (nomatch hs), rfl, H, by simp [forL]⟩
  | x :: l, h, A, o7, o8, H, hA => by
    rw [List.length_cons] at hA
    obtain ⟨s, h1, o, hs, H1, e1⟩ := pol_step (exs := exs) (k := k) (np := np) (c := c) H (o1 := o1) (o2 := o2) (o3 := o3) (o4 := o4) (o5 := o5) (o7 := some (.v x)) (o8 := o8) (A := A) (by omega)
    obtain ⟨B, h2, o7', o8', hB, hl, H2, e2⟩ := pol_for (k := k) (np := np) (c := c) (o1 := o1) (o2 := o2) (o3 := o3) (o4 := o4) (o5 := o5) l h1 (A ++ [s]) (some (.v x)) o H1 (by rw [List.length_append, List.length_singleton]; omega)
    refine ⟨s :: B, h2, o7', o8', fun y hy => ?_, by rw [List.length_cons, List.length_cons, hl], H2, ?_⟩
    · rcases List.mem_cons.mp hy with rfl | hy
      · exact hs
      · exact hB y hy
    · simp only [forL, asgV, st, e1, e2, List.append_assoc, List.singleton_append]
def hereV : Val := .tup [wMy, .str [97, 116]]
def askedV : Val := .tup [.str [111, 114], .tup [wAt, .str [119, 97, 105, 116, 105, 110, 103], hereV], .tup [wAt, .str [119, 105, 115, 104, 105, 110, 103], hereV]]
def turnV : Val := .tup [wIf, .tup [.str [61, 61], hereV, .tup [wMy, .str [104, 105, 103, 104]]], .tup [.tup [wPut, .int 0, .tup [wInt, .int 1]]], .tup []]
def backV : Val := .tup [wIf, .tup [.str [61, 61], hereV, .tup [wMy, .str [108, 111, 119]]], .tup [.tup [wPut, .int 0, .tup [wInt, .int 0]]], .tup []]
def rideA : Val := .tup [wIf, askedV, .tup [.tup [wGo, .str [111, 112, 101, 110]]], .tup []]
def rideD : Val := .tup [wIf, .tup [wCell, .int 0], .tup [.tup [wGo, .str [100, 111, 119, 110]]], .tup [.tup [wGo, .str [117, 112]]]]
def rideL : List Val := [rideA, turnV, backV, rideD]
theorem de_leaf {e : Val} (h : e ∈ leafL) : DE 0 e := h
theorem dx_here : DE 0 hereV := by show hereV ∈ leafL; simp [leafL, hereV, myL]
theorem go_plain {w : Val} (h : w ∈ deedL) : Plain (.tup [wGo, w]) := .inl ⟨w, h, rfl⟩
theorem dx_eq {a b : Val} (ha : DE 0 a) (hb : DE 0 b) : DX (.tup [.str [61, 61], a, b]) := ⟨1, by omega, .inr (.inr (.inr (.inr ⟨_, a, b, by simp [pairL], ha, hb, rfl⟩)))⟩
theorem ride_A : St rideA := by
  refine .inr ⟨askedV, [.tup [wGo, .str [111, 112, 101, 110]]], [], ⟨2, by omega, .inr (.inr (.inr (.inr ⟨.str [111, 114], _, _, by simp [pairL], .inr (.inr (.inl ⟨_, hereV, by simp [atL], dx_here, rfl⟩)), .inr (.inr (.inl ⟨_, hereV, by simp [atL], dx_here, rfl⟩)), rfl⟩)))⟩, fun x hx => ?_, fun x hx => (nomatch hx), by simp, rfl⟩
  rw [List.mem_singleton.mp hx]; exact go_plain (by simp [deedL])
theorem ride_T : St turnV := by
  refine .inr ⟨_, [.tup [wPut, .int 0, .tup [wInt, .int 1]]], [], dx_eq dx_here (by show _ ∈ leafL; simp [leafL, myL]), fun x hx => ?_, fun x hx => (nomatch hx), by simp, rfl⟩
  rw [List.mem_singleton.mp hx]; exact .inr ⟨0, _, .inl rfl, ⟨0, by omega, by show _ ∈ leafL; simp [leafL]⟩, rfl⟩
theorem ride_B : St backV := by
  refine .inr ⟨_, [.tup [wPut, .int 0, .tup [wInt, .int 0]]], [], dx_eq dx_here (by show _ ∈ leafL; simp [leafL, myL]), fun x hx => ?_, fun x hx => (nomatch hx), by simp, rfl⟩
  rw [List.mem_singleton.mp hx]; exact .inr ⟨0, _, .inl rfl, ⟨0, by omega, by show _ ∈ leafL; simp [leafL]⟩, rfl⟩
theorem ride_D : St rideD := by
  refine .inr ⟨_, [.tup [wGo, .str [100, 111, 119, 110]]], [.tup [wGo, .str [117, 112]]], ⟨0, by omega, by show _ ∈ leafL; simp [leafL]⟩, fun x hx => ?_, fun x hx => ?_, by simp, rfl⟩
  · rw [List.mem_singleton.mp hx]; exact go_plain (by simp [deedL])
  · rw [List.mem_singleton.mp hx]; exact go_plain (by simp [deedL])
theorem kids_lens {B : List Val} (h : As.all B) : lens (kidsL B) ≤ 3 * B.length := by
  induction B with
  | nil => simp [kidsL, lens]
  | cons s B ih =>
    have h1 := (h s List.mem_cons_self).2
    have h2 := ih fun x hx => h x (List.mem_cons_of_mem _ hx)
    unfold kidsL at h2 ⊢
    rw [List.flatMap_cons, lens_app, List.length_cons]
    omega
theorem pol_of {B R : List Val} (hB : As.all B) (hb : B.length ≤ 2) (hR : ∀ s ∈ R, St s) (hr : 1 ≤ R.length ∧ R.length ≤ 4 ∧ lens (kidsL R) ≤ 13) : Pol (B ++ R) := by
  refine ⟨fun s hs => ?_, by rw [List.length_append]; omega, ?_⟩
  · rcases List.mem_append.mp hs with hs | hs
    · exact (hB s hs).1
    · exact hR s hs
  · have h1 := kids_lens hB
    have h2 : kidsL (B ++ R) = kidsL B ++ kidsL R := by unfold kidsL; rw [List.flatMap_append]
    rw [h2, lens_app, List.length_append]
    omega
theorem lawpol_ok {j : Nat} (hj : 6 ≤ j) {h : List Val} (H : Hd h) : ∃ l h', Pol l ∧ Hd h' ∧ (prg exs).call j 62 [.vl h] none = .ok (.v (.tup l)) [.vl h'] := by
  obtain ⟨k, rfl⟩ := Nat.exists_eq_add_of_le' hj
  obtain ⟨d, h1, H1, ⟨d0, d1⟩, q1⟩ := dr (exs := exs) (j := k + 5) (by omega) H 3 (by omega) (by omega)
  have hlen := rng_len d
  obtain ⟨B, h2, o7, o8, hB, hl, H2, q2⟩ := pol_for (exs := exs) (k := k) (np := 1) (c := none) (o1 := some (.v hereV)) (o2 := some (.v askedV)) (o3 := some (.v turnV)) (o4 := some (.v backV)) (o5 := some (.v (.tup rideL))) (rngV 0 d) h1 [] none none H1 (by rw [hlen]; simp; omega)
  obtain ⟨R, h3, hR, H3, q3⟩ := so (exs := exs) (j := k + 5) (by omega) H2 [.tup rideL, .tup rideL, .tup [rideA, .tup [wGo, .str [117, 112]]], .tup [turnV, backV, rideD]] (by simp) (by simp)
  have er := rng1 (j := d) (by omega) (by omega)
  have hb : B.length ≤ 2 := by rw [hl, hlen]; omega
  obtain ⟨r, rfl, hr⟩ : ∃ r, R = .tup r ∧ (∀ s ∈ r, St s) ∧ 1 ≤ r.length ∧ r.length ≤ 4 ∧ lens (kidsL r) ≤ 13 := by
    have all4 : ∀ s ∈ rideL, St s := fun s hs => by
      simp only [rideL, List.mem_cons, List.not_mem_nil, or_false] at hs
      rcases hs with rfl | rfl | rfl | rfl
      · exact ride_A
      · exact ride_T
      · exact ride_B
      · exact ride_D
    simp only [List.mem_cons, List.not_mem_nil, or_false] at hR
    rcases hR with rfl | rfl | rfl | rfl
    · exact ⟨_, rfl, all4, by decide, by decide, by decide⟩
    · exact ⟨_, rfl, all4, by decide, by decide, by decide⟩
    · refine ⟨_, rfl, fun s hs => ?_, by simp, by simp, by decide⟩
      simp only [List.mem_cons, List.not_mem_nil, or_false] at hs
      rcases hs with rfl | rfl
      · exact ride_A
      · exact .inl (go_plain (by simp [deedL]))
    · refine ⟨_, rfl, fun s hs => all4 s ?_, by simp, by simp, by decide⟩
      exact List.mem_cons_of_mem _ hs
  refine ⟨B ++ r, h3, pol_of hB hb hr.1 hr.2, H3, ?_⟩
  have c1 : cutL rideL none (some 1) = [rideA] := rfl
  have c2 : cutL rideL (some 1) none = [turnV, backV, rideD] := rfl
  have f1 : Nat.ble (B.length + r.length) 16777216 = true := ble_ok (by omega)
  rw [List.nil_append] at q2
  simp only [rideL, rideA, rideD, turnV, backV, askedV, hereV, wIf, wMy, wAt, wGo, wPut, wInt, wCell] at q2 q3 c1 c2
  rw [show k + 6 = (k + 5) + 1 from rfl, u__law_policy]
  simp [b__law_policy, Py.Ss.ev, Py.S.ev, Py.E.ev, Py.Es.ev, Py.Es.bo, Py.It.ev, Oe.pt, Oe.cond, Py.Ss.as, Py.S.as, Tg.asg, fixOk, Py.R.bind, SR.bind, R.sr, R.map, rd, rds, plsOf, ndup, putBack, gt, st, truth, cmpF, eqF, fz, subF, items, ec_call, ec_clo, ec_np, ec_wl, ec_sub, Val.isD, biF, asgV, asgN, esc, escs, Py.own, owns, asgTs, binF, SR.cr, backs, T.arg, isiF, slcF, wipe, putBackOwn, at0, at1, at2, at3, at4, fits, Nat.blt, Nat.succ_eq_add_one, bleC, q1, q2, q3, er, c1, c2, f1]
end K26
namespace K26
open Py
variable {exs : List PySem.Str}
/-! ### drawn houses -/
def Car (f : Int) (v : Val) : Prop := ∃ r lo hi ho : Int, v = .tup [.int r, .int lo, .int hi, .int ho] ∧ (1 ≤ r ∧ r ≤ 2) ∧ (0 ≤ lo ∧ lo < hi ∧ hi < f) ∧ lo ≤ ho ∧ ho ≤ hi
theorem car_step {k np : Nat} {c : Option Clo} {h : List Val} (H : Hd h) {f : Int} (f0 : 2 ≤ f) (f1 : f ≤ 4) {o3 o4 o5 : Option T} {A : List Val} (hA : A.length ≤ 100) :
    ∃ v h' o4' o5', Car f v ∧ Hd h' ∧ b__law_house_1.ev ((prg exs).ec ((prg exs).call (k + 2)) np c) [some (.vl h), some (.v (.int f)), some (.vl A), o3, o4, o5] = .nx [some (.vl h'), some (.v (.int f)), some (.vl (A ++ [v])), o3, o4', o5'] := by
  obtain ⟨lo, h1, H1, ⟨a0, a1⟩, q1⟩ := dr (exs := exs) (j := k + 2) (by omega) H (f - 1) (by omega) (by omega)
  obtain ⟨hd, h2, H2, ⟨b0, b1⟩, q2⟩ := dr (exs := exs) (j := k + 2) (by omega) H1 (f - 1 - lo) (by omega) (by omega)
  obtain ⟨x, h3, hx, H3, q3⟩ := so (exs := exs) (j := k + 2) (by omega) H2 [.tup [.int lo, .int (lo + 1 + hd)], .tup [.int 0, .int (f - 1)]] (by simp) (by simp)
  obtain ⟨r, h4, H4, ⟨c0, c1⟩, q4⟩ := dr (exs := exs) (j := k + 2) (by omega) H3 2 (by omega) (by omega)
  have g1 : Nat.ble (A.length + 1) 16777216 = true := ble_ok (by omega)
  simp only [List.mem_cons, List.not_mem_nil, or_false] at hx
  rcases hx with rfl | rfl
  · obtain ⟨ho, h5, H5, ⟨d0, d1⟩, q5⟩ := dr (exs := exs) (j := k + 2) (by omega) H4 (lo + 1 + hd - lo + 1) (by omega) (by omega)
    refine ⟨.tup [.int (1 + r), .int lo, .int (lo + 1 + hd), .int (lo + ho)], h5, some (.v (.int lo)), some (.v (.int (lo + 1 + hd))), ⟨_, _, _, _, rfl, by omega, by omega, by omega⟩, H5, ?_⟩
    simp [b__law_house_1, Py.Ss.ev, Py.S.ev, Py.E.ev, Py.Es.ev, Py.Es.bo, Py.It.ev, Oe.pt, Oe.cond, Py.Ss.as, Py.S.as, Tg.asg, fixOk, Py.R.bind, SR.bind, R.sr, R.map, truthR, rd, rds, plsOf, ndup, putBack, gt, st, truth, cmpF, eqF, fz, subF, items, ec_call, ec_clo, ec_np, ec_wl, ec_sub, Val.isD, biF, asgV, asgN, esc, escs, Py.own, owns, asgTs, binF, SR.cr, backs, T.arg, isiF, slcF, wipe, putBackOwn, at0, at1, at2, at3, at4, fits, Nat.blt, Nat.succ_eq_add_one, bleC, q1, q2, q3, q4, q5, g1]
  · obtain ⟨ho, h5, H5, ⟨d0, d1⟩, q5⟩ := dr (exs := exs) (j := k + 2) (by omega) H4 (f - 1 - 0 + 1) (by omega) (by omega)
    have q5' : (prg exs).call (k + 2) 56 [.vl h4, .v (.int f)] none = .ok (.v (.int ho)) [.vl h5, .v (.int f)] := by
      have e : f - 1 - 0 + 1 = f := by omega
      rw [e] at q5; exact q5
    refine ⟨.tup [.int (1 + r), .int 0, .int (f - 1), .int (0 + ho)], h5, some (.v (.int 0)), some (.v (.int (f - 1))), ⟨_, _, _, _, rfl, by omega, by omega, by omega⟩, H5, ?_⟩
    simp [b__law_house_1, Py.Ss.ev, Py.S.ev, Py.E.ev, Py.Es.ev, Py.Es.bo, Py.It.ev, Oe.pt, Oe.cond, Py.Ss.as, Py.S.as, Tg.asg, fixOk, Py.R.bind, SR.bind, R.sr, R.map, truthR, rd, rds, plsOf, ndup, putBack, gt, st, truth, cmpF, eqF, fz, subF, items, ec_call, ec_clo, ec_np, ec_wl, ec_sub, Val.isD, biF, asgV, asgN, esc, escs, Py.own, owns, asgTs, binF, SR.cr, backs, T.arg, isiF, slcF, wipe, putBackOwn, at0, at1, at2, at3, at4, fits, Nat.blt, Nat.succ_eq_add_one, bleC, q1, q2, q3, q4, q5', g1]
theorem car_for {k np : Nat} {c : Option Clo} {f : Int} (f0 : 2 ≤ f) (f1 : f ≤ 4) : ∀ (l : List Val) (h A : List Val) (o3 o4 o5 : Option T), Hd h → A.length + l.length ≤ 100 →
    ∃ B h' o3' o4' o5', (∀ v ∈ B, Car f v) ∧ B.length = l.length ∧ Hd h' ∧ forL (.n 3) (fun env => b__law_house_1.ev ((prg exs).ec ((prg exs).call (k + 2)) np c) env) l [some (.vl h), some (.v (.int f)), some (.vl A), o3, o4, o5] = .nx [some (.vl h'), some (.v (.int f)), some (.vl (A ++ B)), o3', o4', o5']
  | [], h, A, o3, o4, o5, H, _ => ⟨[], h, o3, o4, o5, fun s hs => (nomatch hs), rfl, H, by simp [forL]⟩
  | x :: l, h, A, o3, o4, o5, H, hA => by
    rw [List.length_cons] at hA
    obtain ⟨v, h1, p4, p5, hv, H1, e1⟩ := car_step (exs := exs) (k := k) (np := np) (c := c) H f0 f1 (o3 := some (.v x)) (o4 := o4) (o5 := o5) (A := A) (by omega)
    obtain ⟨B, h2, o3', o4', o5', hB, hl, H2, e2⟩ := car_for (k := k) (np := np) (c := c) f0 f1 l h1 (A ++ [v]) (some (.v x)) p4 p5 H1 (by rw [List.length_append, List.length_singleton]; omega)
    refine ⟨v :: B, h2, o3', o4', o5', fun y hy => ?_, by rw [List.length_cons, List.length_cons, hl], H2, ?_⟩
    · rcases List.mem_cons.mp hy with rfl | hy
      · exact hv
      · exact hB y hy
    · simp only [forL, asgV, st, e1, e2, List.append_assoc, List.singleton_append]
/-- a drawn house -/
structure Hs (f : Int) (cs l : List Val) : Prop where
  f0 : 2 ≤ f
  f1 : f ≤ 4
  c0 : 1 ≤ cs.length
  c1 : cs.length ≤ 2
  car : ∀ v ∈ cs, Car f v
  pol : Pol l
def hsV (f : Int) (cs l : List Val) : Val := .tup [.int f, .tup cs, .tup l]
theorem lawhouse_ok {j : Nat} (hj : 7 ≤ j) {h : List Val} (H : Hd h) : ∃ f cs l h', Hs f cs l ∧ Hd h' ∧ (prg exs).call j 63 [.vl h] none = .ok (.v (hsV f cs l)) [.vl h'] := by
  obtain ⟨k, rfl⟩ := Nat.exists_eq_add_of_le' hj
  obtain ⟨d, h1, H1, ⟨d0, d1⟩, q1⟩ := dr (exs := exs) (j := k + 6) (by omega) H 3 (by omega) (by omega)
  obtain ⟨e, h2, H2, ⟨e0, e1⟩, q2⟩ := dr (exs := exs) (j := k + 6) (by omega) H1 3 (by omega) (by omega)
  have key : ∀ b : Bool, (e == 0) = b → ∃ f cs l h', Hs f cs l ∧ Hd h' ∧ (prg exs).call (k + 7) 63 [.vl h] none = .ok (.v (hsV f cs l)) [.vl h'] := by
    intro b hb
    have hn : (1 : Int) ≤ 1 + (if b then 1 else 0) ∧ 1 + (if b then 1 else 0) ≤ (2 : Int) := by cases b <;> decide
    generalize hm : (1 : Int) + (if b then 1 else 0) = n at hn
    have hlen := rng_len n
    have er := rng1 (j := n) (by omega) (by omega)
    obtain ⟨B, h3, o3, o4, o5, hB, hl, H3, q3⟩ := car_for (exs := exs) (k := k + 4) (np := 1) (c := none) (f := 2 + d) (by omega) (by omega) (rngV 0 n) h2 [] none none none H2 (by rw [hlen]; simp; omega)
    obtain ⟨l, h4, hP, H4, q4⟩ := lawpol_ok (exs := exs) (j := k + 6) (by omega) H3
    refine ⟨2 + d, B, l, h4, ⟨by omega, by omega, by omega, by omega, hB, hP⟩, H4, ?_⟩
    rw [List.nil_append] at q3
    have q3 : forL (.n 3) (fun env => b__law_house_1.ev ((prg exs).ec ((prg exs).call (k + 6)) 1 none) env) (rngV 0 n) [some (.vl h2), some (.v (.int (2 + d))), some (.vl []), none, none, none] = .nx [some (.vl h3), some (.v (.int (2 + d))), some (.vl B), o3, o4, o5] := q3
    rw [show k + 7 = (k + 6) + 1 from rfl, u__law_house]
    cases b with
    | false =>
      simp at hm
      subst hm
      simp [b__law_house, Py.Ss.ev, Py.S.ev, Py.E.ev, Py.Es.ev, Py.Es.bo, Py.It.ev, Oe.pt, Oe.cond, Py.Ss.as, Py.S.as, Tg.asg, fixOk, Py.R.bind, SR.bind, R.sr, R.map, rd, rds, plsOf, ndup, putBack, gt, st, truth, cmpF, eqF, fz, subF, items, ec_call, ec_clo, ec_np, ec_wl, ec_sub, Val.isD, biF, asgV, asgN, esc, escs, Py.own, owns, asgTs, binF, SR.cr, backs, T.arg, isiF, slcF, wipe, putBackOwn, at0, at1, at2, at3, at4, fits, Nat.blt, Nat.succ_eq_add_one, bleC, q1, q2, hb, dat, eqv, er, q3, q4, hsV]
    | true =>
      simp at hm
      subst hm
      simp [b__law_house, Py.Ss.ev, Py.S.ev, Py.E.ev, Py.Es.ev, Py.Es.bo, Py.It.ev, Oe.pt, Oe.cond, Py.Ss.as, Py.S.as, Tg.asg, fixOk, Py.R.bind, SR.bind, R.sr, R.map, rd, rds, plsOf, ndup, putBack, gt, st, truth, cmpF, eqF, fz, subF, items, ec_call, ec_clo, ec_np, ec_wl, ec_sub, Val.isD, biF, asgV, asgN, esc, escs, Py.own, owns, asgTs, binF, SR.cr, backs, T.arg, isiF, slcF, wipe, putBackOwn, at0, at1, at2, at3, at4, fits, Nat.blt, Nat.succ_eq_add_one, bleC, q1, q2, hb, dat, eqv, er, q3, q4, hsV]
  exact key _ rfl
end K26
namespace K26
open Py
variable {exs : List PySem.Str}
/-! ### cars judged -/
def OkV : Val → Prop
  | .lck _ => False
  | .fn _ => False
  | _ => True
def isInt : Val → Bool
  | .int _ => true
  | _ => false
def Wn (v : Val) (lo hi : Int) : Bool := match v with
  | .int i => decide (lo ≤ i) && decide (i ≤ hi)
  | _ => false
theorem isint_ok {j : Nat} (hj : 1 ≤ j) {v : Val} (h : OkV v) : (prg exs).call j 0 [.v v] none = .ok (.v (.bool (isInt v))) [.v v] := by
  obtain ⟨k, rfl⟩ := Nat.exists_eq_add_of_le' hj
  cases v <;> first | exact h.elim | kernel_rfl
theorem lisint_ok {j : Nat} (hj : 1 ≤ j) {v : Val} (h : OkV v) : (prg exs).call j 60 [.v v] none = .ok (.v (.bool (isInt v))) [.v v] := by
  obtain ⟨k, rfl⟩ := Nat.exists_eq_add_of_le' hj
  cases v <;> first | exact h.elim | kernel_rfl
theorem within_ok {j : Nat} (hj : 2 ≤ j) {v : Val} (h : OkV v) (lo hi : Int) : (prg exs).call j 1 [.v v, .v (.int lo), .v (.int hi)] none = .ok (.v (.bool (Wn v lo hi))) [.v v, .v (.int lo), .v (.int hi)] := by
  obtain ⟨k, rfl⟩ := Nat.exists_eq_add_of_le' hj
  have h1 := isint_ok (exs := exs) (j := k + 1) (by omega) h
  cases v with
  | int i =>
    have h1 : (prg exs).call (k + 1) 0 [.v (.int i)] none = .ok (.v (.bool true)) [.v (.int i)] := h1
    rw [show k + 2 = (k + 1) + 1 from rfl, u_is_within]
    by_cases hl : lo ≤ i
    · simp [b_is_within, Py.Ss.ev, Py.S.ev, Py.E.ev, Py.Es.ev, Py.Es.bo, Py.It.ev, Oe.pt, Oe.cond, Py.Ss.as, Py.S.as, Tg.asg, fixOk, Py.R.bind, SR.bind, R.sr, R.map, truthR, rd, rds, plsOf, ndup, putBack, gt, st, truth, cmpF, eqF, fz, subF, items, ec_call, ec_clo, ec_np, ec_wl, ec_sub, Val.isD, biF, asgV, asgN, esc, escs, Py.own, owns, asgTs, binF, SR.cr, backs, T.arg, isiF, slcF, wipe, putBackOwn, at0, at1, at2, at3, at4, fits, Nat.blt, Nat.succ_eq_add_one, bleC, h1, hl, Wn]
    · simp [b_is_within, Py.Ss.ev, Py.S.ev, Py.E.ev, Py.Es.ev, Py.Es.bo, Py.It.ev, Oe.pt, Oe.cond, Py.Ss.as, Py.S.as, Tg.asg, fixOk, Py.R.bind, SR.bind, R.sr, R.map, truthR, rd, rds, plsOf, ndup, putBack, gt, st, truth, cmpF, eqF, fz, subF, items, ec_call, ec_clo, ec_np, ec_wl, ec_sub, Val.isD, biF, asgV, asgN, esc, escs, Py.own, owns, asgTs, binF, SR.cr, backs, T.arg, isiF, slcF, wipe, putBackOwn, at0, at1, at2, at3, at4, fits, Nat.blt, Nat.succ_eq_add_one, bleC, h1, hl, Wn]
  | _ => first | exact h.elim | kernel_rfl
def Sz (v : Val) (lo hi : Int) : Bool := match v with
  | .tup l => decide (lo ≤ (l.length : Int)) && decide ((l.length : Int) ≤ hi)
  | _ => false
theorem sized_ok {j : Nat} (hj : 1 ≤ j) {v : Val} (h : OkV v) (lo hi : Int) : (prg exs).call j 2 [.v v, .v (.int lo), .v (.int hi)] none = .ok (.v (.bool (Sz v lo hi))) [.v v, .v (.int lo), .v (.int hi)] := by
  obtain ⟨k, rfl⟩ := Nat.exists_eq_add_of_le' hj
  cases v with
  | tup l =>
    rw [u_is_sized]
    by_cases hl : lo ≤ (l.length : Int)
    · simp [b_is_sized, Py.Ss.ev, Py.S.ev, Py.E.ev, Py.Es.ev, Py.Es.bo, Py.It.ev, Oe.pt, Oe.cond, Py.Ss.as, Py.S.as, Tg.asg, fixOk, Py.R.bind, SR.bind, R.sr, R.map, truthR, rd, rds, plsOf, ndup, putBack, gt, st, truth, cmpF, eqF, fz, subF, items, ec_call, ec_clo, ec_np, ec_wl, ec_sub, Val.isD, biF, asgV, asgN, esc, escs, Py.own, owns, asgTs, binF, SR.cr, backs, T.arg, isiF, slcF, wipe, putBackOwn, at0, at1, at2, at3, at4, fits, Nat.blt, Nat.succ_eq_add_one, bleC, hl, Sz]
    · simp [b_is_sized, Py.Ss.ev, Py.S.ev, Py.E.ev, Py.Es.ev, Py.Es.bo, Py.It.ev, Oe.pt, Oe.cond, Py.Ss.as, Py.S.as, Tg.asg, fixOk, Py.R.bind, SR.bind, R.sr, R.map, truthR, rd, rds, plsOf, ndup, putBack, gt, st, truth, cmpF, eqF, fz, subF, items, ec_call, ec_clo, ec_np, ec_wl, ec_sub, Val.isD, biF, asgV, asgN, esc, escs, Py.own, owns, asgTs, binF, SR.cr, backs, T.arg, isiF, slcF, wipe, putBackOwn, at0, at1, at2, at3, at4, fits, Nat.blt, Nat.succ_eq_add_one, bleC, hl, Sz]
  | _ => first | exact h.elim | kernel_rfl
/-- a row of four is a car -/
def carB (f : Int) (a b c d : Val) : Bool := match Wn a 1 4 with
  | false => false
  | true => match b with
    | .int lo => match Wn (.int lo) 0 (f - 1) with
      | false => false
      | true => match c with
        | .int hi => match Wn (.int hi) (lo + 1) (f - 1) with
          | false => false
          | true => Wn d lo hi
        | _ => false
    | _ => false
def CarV (f : Int) : Val → Bool
  | .tup [a, b, c, d] => carB f a b c d
  | _ => false
theorem iscar_ok {j : Nat} (hj : 3 ≤ j) {f : Int} {a b c d : Val} (ha : OkV a) (hb : OkV b) (hc : OkV c) (hd : OkV d) : (prg exs).call j 12 [.v (.int f), .v (.tup [a, b, c, d])] none = .ok (.v (.bool (carB f a b c d))) [.v (.int f), .v (.tup [a, b, c, d])] := by
  obtain ⟨k, rfl⟩ := Nat.exists_eq_add_of_le' hj
  have s1 := sized_ok (exs := exs) (j := k + 2) (by omega) (v := .tup [a, b, c, d]) trivial 4 4
  have s1 : (prg exs).call (k + 2) 2 [.v (.tup [a, b, c, d]), .v (.int 4), .v (.int 4)] none = .ok (.v (.bool true)) [.v (.tup [a, b, c, d]), .v (.int 4), .v (.int 4)] := s1
  have w1 := within_ok (exs := exs) (j := k + 2) (by omega) ha 1 4
  have w2 := within_ok (exs := exs) (j := k + 2) (by omega) hb 0 (f - 1)
  rw [show k + 3 = (k + 2) + 1 from rfl, u_is_car]
  unfold carB
  cases h1 : Wn a 1 4 with
  | false => rw [h1] at w1; simp [b_is_car, Py.Ss.ev, Py.S.ev, Py.E.ev, Py.Es.ev, Py.Es.bo, Py.It.ev, Oe.pt, Oe.cond, Py.Ss.as, Py.S.as, Tg.asg, fixOk, Py.R.bind, SR.bind, R.sr, R.map, truthR, rd, rds, plsOf, ndup, putBack, gt, st, truth, cmpF, eqF, fz, subF, items, ec_call, ec_clo, ec_np, ec_wl, ec_sub, Val.isD, biF, asgV, asgN, esc, escs, Py.own, owns, asgTs, binF, SR.cr, backs, T.arg, isiF, slcF, wipe, putBackOwn, at0, at1, at2, at3, at4, fits, Nat.blt, Nat.succ_eq_add_one, bleC, s1, w1, v_MOST_ROOM, g_MOST_ROOM]
  | true =>
    rw [h1] at w1
    cases b with
    | int lo =>
      cases h2 : Wn (.int lo) 0 (f - 1) with
      | false => rw [h2] at w2; simp [b_is_car, Py.Ss.ev, Py.S.ev, Py.E.ev, Py.Es.ev, Py.Es.bo, Py.It.ev, Oe.pt, Oe.cond, Py.Ss.as, Py.S.as, Tg.asg, fixOk, Py.R.bind, SR.bind, R.sr, R.map, truthR, rd, rds, plsOf, ndup, putBack, gt, st, truth, cmpF, eqF, fz, subF, items, ec_call, ec_clo, ec_np, ec_wl, ec_sub, Val.isD, biF, asgV, asgN, esc, escs, Py.own, owns, asgTs, binF, SR.cr, backs, T.arg, isiF, slcF, wipe, putBackOwn, at0, at1, at2, at3, at4, fits, Nat.blt, Nat.succ_eq_add_one, bleC, s1, w1, w2, v_MOST_ROOM, g_MOST_ROOM, h2]
      | true =>
        rw [h2] at w2
        have w3 := within_ok (exs := exs) (j := k + 2) (by omega) hc (lo + 1) (f - 1)
        cases c with
        | int hi =>
          cases h3 : Wn (.int hi) (lo + 1) (f - 1) with
          | false => rw [h3] at w3; simp [b_is_car, Py.Ss.ev, Py.S.ev, Py.E.ev, Py.Es.ev, Py.Es.bo, Py.It.ev, Oe.pt, Oe.cond, Py.Ss.as, Py.S.as, Tg.asg, fixOk, Py.R.bind, SR.bind, R.sr, R.map, truthR, rd, rds, plsOf, ndup, putBack, gt, st, truth, cmpF, eqF, fz, subF, items, ec_call, ec_clo, ec_np, ec_wl, ec_sub, Val.isD, biF, asgV, asgN, esc, escs, Py.own, owns, asgTs, binF, SR.cr, backs, T.arg, isiF, slcF, wipe, putBackOwn, at0, at1, at2, at3, at4, fits, Nat.blt, Nat.succ_eq_add_one, bleC, s1, w1, w2, w3, v_MOST_ROOM, g_MOST_ROOM, h2, h3]
          | true =>
            rw [h3] at w3
            have w4 := within_ok (exs := exs) (j := k + 2) (by omega) hd lo hi
            simp [b_is_car, Py.Ss.ev, Py.S.ev, Py.E.ev, Py.Es.ev, Py.Es.bo, Py.It.ev, Oe.pt, Oe.cond, Py.Ss.as, Py.S.as, Tg.asg, fixOk, Py.R.bind, SR.bind, R.sr, R.map, truthR, rd, rds, plsOf, ndup, putBack, gt, st, truth, cmpF, eqF, fz, subF, items, ec_call, ec_clo, ec_np, ec_wl, ec_sub, Val.isD, biF, asgV, asgN, esc, escs, Py.own, owns, asgTs, binF, SR.cr, backs, T.arg, isiF, slcF, wipe, putBackOwn, at0, at1, at2, at3, at4, fits, Nat.blt, Nat.succ_eq_add_one, bleC, s1, w1, w2, w3, w4, v_MOST_ROOM, g_MOST_ROOM, h2, h3]
        | _ => first | exact hc.elim | (simp only [Wn] at w3; simp [b_is_car, Py.Ss.ev, Py.S.ev, Py.E.ev, Py.Es.ev, Py.Es.bo, Py.It.ev, Oe.pt, Oe.cond, Py.Ss.as, Py.S.as, Tg.asg, fixOk, Py.R.bind, SR.bind, R.sr, R.map, truthR, rd, rds, plsOf, ndup, putBack, gt, st, truth, cmpF, eqF, fz, subF, items, ec_call, ec_clo, ec_np, ec_wl, ec_sub, Val.isD, biF, asgV, asgN, esc, escs, Py.own, owns, asgTs, binF, SR.cr, backs, T.arg, isiF, slcF, wipe, putBackOwn, at0, at1, at2, at3, at4, fits, Nat.blt, Nat.succ_eq_add_one, bleC, s1, w1, w2, w3, v_MOST_ROOM, g_MOST_ROOM, h2])
    | _ => first | exact hb.elim | (simp only [Wn] at w2; simp [b_is_car, Py.Ss.ev, Py.S.ev, Py.E.ev, Py.Es.ev, Py.Es.bo, Py.It.ev, Oe.pt, Oe.cond, Py.Ss.as, Py.S.as, Tg.asg, fixOk, Py.R.bind, SR.bind, R.sr, R.map, truthR, rd, rds, plsOf, ndup, putBack, gt, st, truth, cmpF, eqF, fz, subF, items, ec_call, ec_clo, ec_np, ec_wl, ec_sub, Val.isD, biF, asgV, asgN, esc, escs, Py.own, owns, asgTs, binF, SR.cr, backs, T.arg, isiF, slcF, wipe, putBackOwn, at0, at1, at2, at3, at4, fits, Nat.blt, Nat.succ_eq_add_one, bleC, s1, w1, w2, v_MOST_ROOM, g_MOST_ROOM])
theorem carB_ints (f r lo hi ho : Int) : carB f (.int r) (.int lo) (.int hi) (.int ho) = (decide (1 ≤ r ∧ r ≤ 4) && (decide (0 ≤ lo ∧ lo < hi ∧ hi < f) && decide (lo ≤ ho ∧ ho ≤ hi))) := by
  show (match decide (1 ≤ r) && decide (r ≤ 4) with
    | false => false
    | true => match decide (0 ≤ lo) && decide (lo ≤ f - 1) with
      | false => false
      | true => match decide (lo + 1 ≤ hi) && decide (hi ≤ f - 1) with
        | false => false
        | true => decide (lo ≤ ho) && decide (ho ≤ hi)) = _
  by_cases h1 : 1 ≤ r ∧ r ≤ 4
  · have e1 : (decide (1 ≤ r) && decide (r ≤ 4)) = true := by simp [h1]
    rw [e1]
    by_cases h2 : 0 ≤ lo ∧ lo ≤ f - 1
    · have e2 : (decide (0 ≤ lo) && decide (lo ≤ f - 1)) = true := by simp [h2]
      simp only [e2]
      by_cases h3 : lo + 1 ≤ hi ∧ hi ≤ f - 1
      · have e3 : (decide (lo + 1 ≤ hi) && decide (hi ≤ f - 1)) = true := by simp [h3]
        have e4 : (0 ≤ lo ∧ lo < hi ∧ hi < f) := by omega
        simp only [e3, h1, e4]
        simp
      · have e3 : (decide (lo + 1 ≤ hi) && decide (hi ≤ f - 1)) = false := by
          rw [Bool.and_eq_false_iff, decide_eq_false_iff_not, decide_eq_false_iff_not]; omega
        have e4 : ¬ (0 ≤ lo ∧ lo < hi ∧ hi < f) := by omega
        simp only [e3, decide_eq_false e4]
        simp
    · have e2 : (decide (0 ≤ lo) && decide (lo ≤ f - 1)) = false := by
        rw [Bool.and_eq_false_iff, decide_eq_false_iff_not, decide_eq_false_iff_not]; omega
      have e4 : ¬ (0 ≤ lo ∧ lo < hi ∧ hi < f) := by omega
      simp only [e2, decide_eq_false e4]
      simp
  · have e1 : (decide (1 ≤ r) && decide (r ≤ 4)) = false := by
      rw [Bool.and_eq_false_iff, decide_eq_false_iff_not, decide_eq_false_iff_not]; omega
    simp only [e1, decide_eq_false h1]
    simp
end K26
namespace K26
open Py
variable {exs : List PySem.Str}
/-! ### houses judged -/
theorem lc_bools {c : Py.Env → Py.R Bool} {el : Py.Env → Py.R Val} {t0 : Option T} {Q : Val → Bool} (hc : ∀ env, c env = .ok true env) : ∀ (cs acc : List Val), (∀ x ∈ cs, el [t0, some (.v x)] = .ok (.bool (Q x)) [t0, some (.v x)]) →
    lcL (.n 1) [1] c el cs acc [t0, none] = .ok (acc ++ cs.map fun x => .bool (Q x)) [t0, none]
  | [], acc, _ => by simp [lcL]
  | x :: cs, acc, h => by
    have e := lc_bools hc cs (acc ++ [.bool (Q x)]) fun y hy => h y (List.mem_cons_of_mem _ hy)
    simp only [lcL, asgV, st, hc, h x List.mem_cons_self, wipe, e, List.map_cons, List.append_assoc, List.singleton_append]
theorem boolsOf_map {Q : Val → Bool} (cs : List Val) : boolsOf (cs.map fun x => Val.bool (Q x)) = some (cs.map Q) := by
  induction cs with
  | nil => rfl
  | cons x cs ih => simp only [List.map_cons, boolsOf, ih, Option.map_some]
theorem car_true {f : Int} {v : Val} (h : Car f v) : ∃ a b c d, v = .tup [a, b, c, d] ∧ OkV a ∧ OkV b ∧ OkV c ∧ OkV d ∧ carB f a b c d = true := by
  obtain ⟨r, lo, hi, ho, rfl, h1, h2, h3⟩ := h
  refine ⟨_, _, _, _, rfl, trivial, trivial, trivial, trivial, ?_⟩
  rw [carB_ints, decide_eq_true (by omega), decide_eq_true (by omega), decide_eq_true (by omega)]; rfl
theorem car_ok {j : Nat} (hj : 3 ≤ j) {f : Int} {v : Val} (h : Car f v) : (prg exs).call j 12 [.v (.int f), .v v] none = .ok (.v (.bool true)) [.v (.int f), .v v] := by
  obtain ⟨a, b, c, d, rfl, ha, hb, hc, hd, e⟩ := car_true h
  have := iscar_ok (exs := exs) hj (f := f) ha hb hc hd
  rw [e] at this
  exact this
theorem house_ok {j : Nat} (hj : 10 ≤ j) {f : Int} {cs l : List Val} (hs : Hs f cs l) : (prg exs).call j 13 [.v (hsV f cs l)] none = .ok (.v (.bool true)) [.v (hsV f cs l)] := by
  obtain ⟨k, rfl⟩ := Nat.exists_eq_add_of_le' hj
  have f0 := hs.f0
  have f1 := hs.f1
  have c0 := hs.c0
  have c1 := hs.c1
  unfold hsV
  have s1 : (prg exs).call (k + 9) 2 [.v (.tup [.int f, .tup cs, .tup l]), .v (.int 3), .v (.int 3)] none = .ok (.v (.bool true)) [.v (.tup [.int f, .tup cs, .tup l]), .v (.int 3), .v (.int 3)] := sized_ok (exs := exs) (j := k + 9) (by omega) (v := .tup [.int f, .tup cs, .tup l]) trivial 3 3
  have w1 := within_ok (exs := exs) (j := k + 9) (by omega) (v := .int f) trivial 2 8
  have e1 : Wn (.int f) 2 8 = true := by
    show (decide (2 ≤ f) && decide (f ≤ 8)) = true
    rw [decide_eq_true f0, decide_eq_true (by omega)]; rfl
  have s2 := sized_ok (exs := exs) (j := k + 9) (by omega) (v := .tup cs) trivial 1 3
  have e2 : Sz (.tup cs) 1 3 = true := by
    show (decide ((1 : Int) ≤ (cs.length : Int)) && decide ((cs.length : Int) ≤ 3)) = true
    rw [decide_eq_true (by omega), decide_eq_true (by omega)]; rfl
  rw [e1] at w1
  rw [e2] at s2
  have p1 := policy_ok (exs := exs) (j := k + 9) (by omega) hs.pol
  have hall : biF .all (.vl (cs.map fun x => Val.bool ((fun _ => true) x))) = some (.v (.bool true)) := by
    show (boolsOf (cs.map fun x => Val.bool ((fun _ => true) x))).map (fun ns => T.v (.bool (ns.all id))) = _
    rw [boolsOf_map]
    simp [List.all_map]
  have hx : x_is_house_2.ev ((prg exs).ec ((prg exs).call (k + 9)) 1 none) [some (.v (.tup [.int f, .tup cs, .tup l])), none] = .ok (.t (.vl (cs.map fun x => Val.bool ((fun _ => true) x)))) [some (.v (.tup [.int f, .tup cs, .tup l])), none] := by
    have el := lc_bools (t0 := some (.v (.tup [.int f, .tup cs, .tup l]))) (Q := fun _ => true) (c := fun env => Oe.cond ((prg exs).ec ((prg exs).call (k + 9)) 1 none) .no env) (el := fun env => (e_is_house_1.ev ((prg exs).ec ((prg exs).call (k + 9)) 1 none) env).bind fun o env => esc env o) (fun env => rfl) cs [] (fun x hx => by
      have := car_ok (exs := exs) (j := k + 9) (by omega) (hs.car x hx)
      simp [e_is_house_1, Py.Ss.ev, Py.S.ev, Py.E.ev, Py.Es.ev, Py.Es.bo, Py.It.ev, Oe.pt, Oe.cond, Py.Ss.as, Py.S.as, Tg.asg, fixOk, Py.R.bind, SR.bind, R.sr, R.map, truthR, rd, rds, plsOf, ndup, putBack, gt, st, truth, cmpF, eqF, fz, subF, items, ec_call, ec_clo, ec_np, ec_wl, ec_sub, Val.isD, biF, asgV, asgN, esc, escs, Py.own, owns, asgTs, binF, SR.cr, backs, T.arg, isiF, slcF, wipe, putBackOwn, at0, at1, at2, at3, at4, fits, Nat.blt, Nat.succ_eq_add_one, bleC, this])
    have h1 : Py.It.ev ((prg exs).ec ((prg exs).call (k + 9)) 1 none) (.e (.sub (.var 0) (.k (.int 1)))) [some (.v (.tup [.int f, .tup cs, .tup l])), none] = .ok cs [some (.v (.tup [.int f, .tup cs, .tup l])), none] := by simp [Py.Ss.ev, Py.S.ev, Py.E.ev, Py.Es.ev, Py.Es.bo, Py.It.ev, Oe.pt, Oe.cond, Py.Ss.as, Py.S.as, Tg.asg, fixOk, Py.R.bind, SR.bind, R.sr, R.map, truthR, rd, rds, plsOf, ndup, putBack, gt, st, truth, cmpF, eqF, fz, subF, items, ec_call, ec_clo, ec_np, ec_wl, ec_sub, Val.isD, biF, asgV, asgN, esc, escs, Py.own, owns, asgTs, binF, SR.cr, backs, T.arg, isiF, slcF, wipe, putBackOwn, at0, at1, at2, at3, at4, fits, Nat.blt, Nat.succ_eq_add_one, bleC, itemsE]
    rw [List.nil_append] at el
    unfold x_is_house_2
    simp only [Py.E.ev, h1, Py.R.bind, wipe, st]
    simp only [Py.R.bind] at el
    rw [el]
    simp [putBackOwn, st, onlyV, gt]
  rw [show k + 10 = (k + 9) + 1 from rfl, u_is_house]
  simp [b_is_house, Py.Ss.ev, Py.S.ev, Py.E.ev, Py.Es.ev, Py.Es.bo, Py.It.ev, Oe.pt, Oe.cond, Py.Ss.as, Py.S.as, Tg.asg, fixOk, Py.R.bind, SR.bind, R.sr, R.map, truthR, rd, rds, plsOf, ndup, putBack, gt, st, truth, cmpF, eqF, fz, subF, items, ec_call, ec_clo, ec_np, ec_wl, ec_sub, Val.isD, asgV, asgN, esc, escs, Py.own, owns, asgTs, binF, SR.cr, backs, T.arg, isiF, slcF, wipe, putBackOwn, at0, at1, at2, at3, at4, fits, Nat.blt, Nat.succ_eq_add_one, bleC, s1, w1, s2, hx, hall, p1, v_MOST_FLOORS, g_MOST_FLOORS, v_MOST_CARS, g_MOST_CARS]
/-- no house -/
def NoH (v : Val) : Prop := OkV v ∧ Sz v 3 3 = false
theorem house_no {j : Nat} (hj : 10 ≤ j) {v : Val} (h : NoH v) : (prg exs).call j 13 [.v v] none = .ok (.v (.bool false)) [.v v] := by
  obtain ⟨k, rfl⟩ := Nat.exists_eq_add_of_le' hj
  have s1 := sized_ok (exs := exs) (j := k + 9) (by omega) h.1 3 3
  rw [h.2] at s1
  rw [show k + 10 = (k + 9) + 1 from rfl, u_is_house]
  simp [b_is_house, Py.Ss.ev, Py.S.ev, Py.E.ev, Py.Es.ev, Py.Es.bo, Py.It.ev, Oe.pt, Oe.cond, Py.Ss.as, Py.S.as, Tg.asg, fixOk, Py.R.bind, SR.bind, R.sr, R.map, truthR, rd, rds, plsOf, ndup, putBack, gt, st, truth, cmpF, eqF, fz, subF, items, ec_call, ec_clo, ec_np, ec_wl, ec_sub, Val.isD, biF, asgV, asgN, esc, escs, Py.own, owns, asgTs, binF, SR.cr, backs, T.arg, isiF, slcF, wipe, putBackOwn, at0, at1, at2, at3, at4, fits, Nat.blt, Nat.succ_eq_add_one, bleC, s1]
theorem chk_yes {j : Nat} (hj : 11 ≤ j) {f : Int} {cs l : List Val} (hs : Hs f cs l) : (prg exs).call j 14 [.v (hsV f cs l)] none = .ok (.v .none) [.v (hsV f cs l)] := by
  obtain ⟨k, rfl⟩ := Nat.exists_eq_add_of_le' hj
  have e := house_ok (exs := exs) (j := k + 10) (by omega) hs
  rw [show k + 11 = (k + 10) + 1 from rfl, u_check_house]
  simp [b_check_house, Py.Ss.ev, Py.S.ev, Py.E.ev, Py.Es.ev, Py.Es.bo, Py.It.ev, Oe.pt, Oe.cond, Py.Ss.as, Py.S.as, Tg.asg, fixOk, Py.R.bind, SR.bind, R.sr, R.map, truthR, rd, rds, plsOf, ndup, putBack, gt, st, truth, cmpF, eqF, fz, subF, items, ec_call, ec_clo, ec_np, ec_wl, ec_sub, Val.isD, biF, asgV, asgN, esc, escs, Py.own, owns, asgTs, binF, SR.cr, backs, T.arg, isiF, slcF, wipe, putBackOwn, at0, at1, at2, at3, at4, fits, Nat.blt, Nat.succ_eq_add_one, bleC, e]
theorem chk_no {j : Nat} (hj : 11 ≤ j) {v : Val} (h : NoH v) : (prg exs).call j 14 [.v v] none = .ex ⟨3, []⟩ [.v v] := by
  obtain ⟨k, rfl⟩ := Nat.exists_eq_add_of_le' hj
  have e := house_no (exs := exs) (j := k + 10) (by omega) h
  rw [show k + 11 = (k + 10) + 1 from rfl, u_check_house]
  simp [b_check_house, Py.Ss.ev, Py.S.ev, Py.E.ev, Py.Es.ev, Py.Es.bo, Py.It.ev, Oe.pt, Oe.cond, Py.Ss.as, Py.S.as, Tg.asg, fixOk, Py.R.bind, SR.bind, R.sr, R.map, truthR, rd, rds, plsOf, ndup, putBack, gt, st, truth, cmpF, eqF, fz, subF, items, ec_call, ec_clo, ec_np, ec_wl, ec_sub, Val.isD, biF, asgV, asgN, esc, escs, Py.own, owns, asgTs, binF, SR.cr, backs, T.arg, isiF, slcF, wipe, putBackOwn, at0, at1, at2, at3, at4, fits, Nat.blt, Nat.succ_eq_add_one, bleC, e]
theorem no_mem {f : Int} {cs l : List Val} {v : Val} (h : v ∈ [.none, .str [63], .tup [], .tup [.int f, .tup cs], .lst [.int f, .tup cs, .tup l]]) : NoH v := by
  simp only [List.mem_cons, List.not_mem_nil, or_false] at h
  rcases h with rfl | rfl | rfl | rfl | rfl <;> exact ⟨trivial, by rfl⟩
/-! ### callers judged -/
def OkX (v : Val) : Prop := OkV v ∧ ∀ a b c, v = .tup [a, b, c] → OkV a ∧ OkV b ∧ OkV c
/-- a row of three is a caller -/
def calB (f : Int) (a b c : Val) : Bool := match Wn a 0 200 with
  | false => false
  | true => match Wn b 0 (f - 1) with
    | false => false
    | true => match Wn c 0 (f - 1) with
      | false => false
      | true => !(eqv b c)
def CalV (f : Int) : Val → Bool
  | .tup [a, b, c] => calB f a b c
  | _ => false
theorem wn_int {v : Val} {lo hi : Int} (h : Wn v lo hi = true) : ∃ i : Int, v = .int i ∧ lo ≤ i ∧ i ≤ hi := by
  cases v with
  | int i =>
    have h' : (decide (lo ≤ i) && decide (i ≤ hi)) = true := h
    rw [Bool.and_eq_true, decide_eq_true_eq, decide_eq_true_eq] at h'
    exact ⟨i, rfl, h'⟩
  | _ => cases h
theorem wn_of {i lo hi : Int} (h0 : lo ≤ i) (h1 : i ≤ hi) : Wn (.int i) lo hi = true := by
  show (decide (lo ≤ i) && decide (i ≤ hi)) = true
  rw [decide_eq_true h0, decide_eq_true h1]; rfl
section
variable {k : Nat} {f : Int} {cs l : List Val}
theorem iscal_three {a b c : Val} (ha : OkV a) (hb : OkV b) (hc : OkV c) : (prg exs).call (k + 3) 16 [.v (hsV f cs l), .v (.tup [a, b, c])] none = .ok (.v (.bool (calB f a b c))) [.v (hsV f cs l), .v (.tup [a, b, c])] := by
  have s1 : (prg exs).call (k + 2) 2 [.v (.tup [a, b, c]), .v (.int 3), .v (.int 3)] none = .ok (.v (.bool true)) [.v (.tup [a, b, c]), .v (.int 3), .v (.int 3)] := sized_ok (exs := exs) (j := k + 2) (by omega) (v := .tup [a, b, c]) trivial 3 3
  have w1 := within_ok (exs := exs) (j := k + 2) (by omega) ha 0 200
  have w2 := within_ok (exs := exs) (j := k + 2) (by omega) hb 0 (f - 1)
  have w3 := within_ok (exs := exs) (j := k + 2) (by omega) hc 0 (f - 1)
  rw [show k + 3 = (k + 2) + 1 from rfl, u_is_caller]
  unfold calB hsV
  cases h1 : Wn a 0 200 with
  | false => rw [h1] at w1; simp [b_is_caller, Py.Ss.ev, Py.S.ev, Py.E.ev, Py.Es.ev, Py.Es.bo, Py.It.ev, Oe.pt, Oe.cond, Py.Ss.as, Py.S.as, Tg.asg, fixOk, Py.R.bind, SR.bind, R.sr, R.map, truthR, rd, rds, plsOf, ndup, putBack, gt, st, truth, cmpF, eqF, fz, subF, items, ec_call, ec_clo, ec_np, ec_wl, ec_sub, Val.isD, biF, asgV, asgN, esc, escs, Py.own, owns, asgTs, binF, SR.cr, backs, T.arg, isiF, slcF, wipe, putBackOwn, at0, at1, at2, at3, at4, fits, Nat.blt, Nat.succ_eq_add_one, bleC, s1, w1, v_MOST_TIME, g_MOST_TIME]
  | true =>
    rw [h1] at w1
    cases h2 : Wn b 0 (f - 1) with
    | false => rw [h2] at w2; simp [b_is_caller, Py.Ss.ev, Py.S.ev, Py.E.ev, Py.Es.ev, Py.Es.bo, Py.It.ev, Oe.pt, Oe.cond, Py.Ss.as, Py.S.as, Tg.asg, fixOk, Py.R.bind, SR.bind, R.sr, R.map, truthR, rd, rds, plsOf, ndup, putBack, gt, st, truth, cmpF, eqF, fz, subF, items, ec_call, ec_clo, ec_np, ec_wl, ec_sub, Val.isD, biF, asgV, asgN, esc, escs, Py.own, owns, asgTs, binF, SR.cr, backs, T.arg, isiF, slcF, wipe, putBackOwn, at0, at1, at2, at3, at4, fits, Nat.blt, Nat.succ_eq_add_one, bleC, s1, w1, w2, v_MOST_TIME, g_MOST_TIME]
    | true =>
      rw [h2] at w2
      cases h3 : Wn c 0 (f - 1) with
      | false => rw [h3] at w3; simp [b_is_caller, Py.Ss.ev, Py.S.ev, Py.E.ev, Py.Es.ev, Py.Es.bo, Py.It.ev, Oe.pt, Oe.cond, Py.Ss.as, Py.S.as, Tg.asg, fixOk, Py.R.bind, SR.bind, R.sr, R.map, truthR, rd, rds, plsOf, ndup, putBack, gt, st, truth, cmpF, eqF, fz, subF, items, ec_call, ec_clo, ec_np, ec_wl, ec_sub, Val.isD, biF, asgV, asgN, esc, escs, Py.own, owns, asgTs, binF, SR.cr, backs, T.arg, isiF, slcF, wipe, putBackOwn, at0, at1, at2, at3, at4, fits, Nat.blt, Nat.succ_eq_add_one, bleC, s1, w1, w2, w3, v_MOST_TIME, g_MOST_TIME]
      | true =>
        rw [h3] at w3
        obtain ⟨i, rfl, _⟩ := wn_int h2
        obtain ⟨i2, rfl, _⟩ := wn_int h3
        simp [b_is_caller, Py.Ss.ev, Py.S.ev, Py.E.ev, Py.Es.ev, Py.Es.bo, Py.It.ev, Oe.pt, Oe.cond, Py.Ss.as, Py.S.as, Tg.asg, fixOk, Py.R.bind, SR.bind, R.sr, R.map, truthR, rd, rds, plsOf, ndup, putBack, gt, st, truth, cmpF, eqF, fz, subF, items, ec_call, ec_clo, ec_np, ec_wl, ec_sub, Val.isD, biF, asgV, asgN, esc, escs, Py.own, owns, asgTs, binF, SR.cr, backs, T.arg, isiF, slcF, wipe, putBackOwn, at0, at1, at2, at3, at4, fits, Nat.blt, Nat.succ_eq_add_one, bleC, s1, w1, w2, w3, v_MOST_TIME, g_MOST_TIME, dat]
theorem iscal_not {v : Val} (hv : OkV v) (h : Sz v 3 3 = false) : (prg exs).call (k + 3) 16 [.v (hsV f cs l), .v v] none = .ok (.v (.bool false)) [.v (hsV f cs l), .v v] := by
  have s1 := sized_ok (exs := exs) (j := k + 2) (by omega) hv 3 3
  rw [h] at s1
  rw [show k + 3 = (k + 2) + 1 from rfl, u_is_caller]
  simp [b_is_caller, Py.Ss.ev, Py.S.ev, Py.E.ev, Py.Es.ev, Py.Es.bo, Py.It.ev, Oe.pt, Oe.cond, Py.Ss.as, Py.S.as, Tg.asg, fixOk, Py.R.bind, SR.bind, R.sr, R.map, truthR, rd, rds, plsOf, ndup, putBack, gt, st, truth, cmpF, eqF, fz, subF, items, ec_call, ec_clo, ec_np, ec_wl, ec_sub, Val.isD, biF, asgV, asgN, esc, escs, Py.own, owns, asgTs, binF, SR.cr, backs, T.arg, isiF, slcF, wipe, putBackOwn, at0, at1, at2, at3, at4, fits, Nat.blt, Nat.succ_eq_add_one, bleC, s1]
end
theorem x_cases {v : Val} (h : OkX v) : (∃ a b c, v = .tup [a, b, c] ∧ OkV a ∧ OkV b ∧ OkV c) ∨ (OkV v ∧ Sz v 3 3 = false) := by
  cases v with
  | tup l =>
    by_cases hl : l.length = 3
    · match l, hl with
      | [a, b, c], _ => exact .inl ⟨a, b, c, rfl, h.2 a b c rfl⟩
    · refine .inr ⟨h.1, ?_⟩
      show (decide ((3 : Int) ≤ (l.length : Int)) && decide ((l.length : Int) ≤ 3)) = false
      rw [Bool.and_eq_false_iff, decide_eq_false_iff_not, decide_eq_false_iff_not]; omega
  | _ => exact .inr ⟨h.1, rfl⟩
theorem calV_not {f : Int} {v : Val} (h : Sz v 3 3 = false) : CalV f v = false := by
  unfold CalV
  split
  · next a b c => cases h
  · rfl
theorem iscal_ok {j : Nat} (hj : 3 ≤ j) {f : Int} {cs l : List Val} {v : Val} (h : OkX v) : (prg exs).call j 16 [.v (hsV f cs l), .v v] none = .ok (.v (.bool (CalV f v))) [.v (hsV f cs l), .v v] := by
  obtain ⟨k, rfl⟩ := Nat.exists_eq_add_of_le' hj
  rcases x_cases h with ⟨a, b, c, rfl, ha, hb, hc⟩ | ⟨h1, h2⟩
  · exact iscal_three ha hb hc
  · rw [calV_not h2]; exact iscal_not h1 h2
end K26
namespace K26
open Py
variable {exs : List PySem.Str}
/-! ### the law's own judging -/
theorem calB_not {f : Int} {a b c : Val} (h : (isInt a && (isInt b && isInt c)) = false) : calB f a b c = false := by
  unfold calB
  cases a <;> first | rfl | skip
  split
  · rfl
  · cases b <;> first | rfl | skip
    split
    · rfl
    · cases c <;> first | rfl | (cases h)
theorem calB_ints (f a b c : Int) : calB f (.int a) (.int b) (.int c) = (decide (0 ≤ a ∧ a ≤ 200) && (decide (0 ≤ b ∧ b < f) && (decide (0 ≤ c ∧ c < f) && !(b == c)))) := by
  show (match decide (0 ≤ a) && decide (a ≤ 200) with
    | false => false
    | true => match decide (0 ≤ b) && decide (b ≤ f - 1) with
      | false => false
      | true => match decide (0 ≤ c) && decide (c ≤ f - 1) with
        | false => false
        | true => !(b == c)) = _
  by_cases h1 : 0 ≤ a ∧ a ≤ 200
  · have e1 : (decide (0 ≤ a) && decide (a ≤ 200)) = true := by simp [h1]
    rw [e1, decide_eq_true h1]
    by_cases h2 : 0 ≤ b ∧ b < f
    · have e2 : (decide (0 ≤ b) && decide (b ≤ f - 1)) = true := by rw [decide_eq_true h2.1, decide_eq_true (by omega)]; rfl
      simp only [e2, decide_eq_true h2]
      by_cases h3 : 0 ≤ c ∧ c < f
      · have e3 : (decide (0 ≤ c) && decide (c ≤ f - 1)) = true := by rw [decide_eq_true h3.1, decide_eq_true (by omega)]; rfl
        simp only [e3, decide_eq_true h3, Bool.true_and]
      · have e3 : (decide (0 ≤ c) && decide (c ≤ f - 1)) = false := by
          rw [Bool.and_eq_false_iff, decide_eq_false_iff_not, decide_eq_false_iff_not]; omega
        simp only [e3, decide_eq_false h3, Bool.false_and, Bool.and_false]
    · have e2 : (decide (0 ≤ b) && decide (b ≤ f - 1)) = false := by
        rw [Bool.and_eq_false_iff, decide_eq_false_iff_not, decide_eq_false_iff_not]; omega
      simp only [e2, decide_eq_false h2, Bool.false_and, Bool.and_false]
  · have e1 : (decide (0 ≤ a) && decide (a ≤ 200)) = false := by
      rw [Bool.and_eq_false_iff, decide_eq_false_iff_not, decide_eq_false_iff_not]; omega
    simp only [e1, decide_eq_false h1, Bool.false_and]
theorem lcal_three {k : Nat} {f : Int} {cs l : List Val} {a b c : Val} (ha : OkV a) (hb : OkV b) (hc : OkV c) : (prg exs).call (k + 2) 66 [.v (hsV f cs l), .v (.tup [a, b, c])] none = .ok (.v (.bool (calB f a b c))) [.v (hsV f cs l), .v (.tup [a, b, c])] := by
  have i1 := lisint_ok (exs := exs) (j := k + 1) (by omega) ha
  have i2 := lisint_ok (exs := exs) (j := k + 1) (by omega) hb
  have i3 := lisint_ok (exs := exs) (j := k + 1) (by omega) hc
  have hx : x__law_is_caller_2.ev ((prg exs).ec ((prg exs).call (k + 1)) 2 none) [some (.v (hsV f cs l)), some (.v (.tup [a, b, c])), none, none, none] = .ok (.t (.vl [.bool (isInt a), .bool (isInt b), .bool (isInt c)])) [some (.v (hsV f cs l)), some (.v (.tup [a, b, c])), none, none, none] := by
    simp [x__law_is_caller_2, e__law_is_caller_1, Py.Ss.ev, Py.S.ev, Py.E.ev, Py.Es.ev, Py.Es.bo, Py.It.ev, Oe.pt, Oe.cond, Py.Ss.as, Py.S.as, Tg.asg, fixOk, Py.R.bind, SR.bind, R.sr, R.map, truthR, rd, rds, plsOf, ndup, putBack, gt, st, truth, cmpF, eqF, fz, subF, items, ec_call, ec_clo, ec_np, ec_wl, ec_sub, Val.isD, biF, asgV, asgN, esc, escs, Py.own, owns, asgTs, binF, SR.cr, backs, T.arg, isiF, slcF, wipe, putBackOwn, at0, at1, at2, at3, at4, fits, Nat.blt, Nat.succ_eq_add_one, bleC, itemsE, lcL, i1, i2, i3, onlyV]
  have hlen : biF .len (.v (.tup [a, b, c])) = some (.v (.int 3)) := rfl
  have hall : biF .all (.vl [.bool (isInt a), .bool (isInt b), .bool (isInt c)]) = some (.v (.bool (isInt a && (isInt b && isInt c)))) := by
    show some (T.v (.bool (isInt a && (isInt b && (isInt c && true))))) = _
    rw [Bool.and_true]
  rw [show k + 2 = (k + 1) + 1 from rfl, u__law_is_caller]
  unfold hsV at hx ⊢
  cases hi : (isInt a && (isInt b && isInt c)) with
  | false =>
    rw [calB_not hi]
    rw [hi] at hall
    simp [b__law_is_caller, Py.Ss.ev, Py.S.ev, Py.E.ev, Py.Es.ev, Py.Es.bo, Py.It.ev, Oe.pt, Oe.cond, Py.Ss.as, Py.S.as, Tg.asg, fixOk, Py.R.bind, SR.bind, R.sr, R.map, truthR, rd, rds, plsOf, ndup, putBack, gt, st, truth, cmpF, eqF, fz, subF, items, ec_call, ec_clo, ec_np, ec_wl, ec_sub, Val.isD, asgV, asgN, esc, escs, Py.own, owns, asgTs, binF, SR.cr, backs, T.arg, isiF, slcF, wipe, putBackOwn, at0, at1, at2, at3, at4, fits, Nat.blt, Nat.succ_eq_add_one, bleC, dat, eqv, hx, hall, hlen]
  | true =>
    rw [hi] at hall
    obtain ⟨h1, h2⟩ := Bool.and_eq_true_iff.mp hi
    obtain ⟨h2, h3⟩ := Bool.and_eq_true_iff.mp h2
    cases a <;> first | (cases h1) | skip
    cases b <;> first | (cases h2) | skip
    cases c <;> first | (cases h3) | skip
    rename_i a b c
    rw [calB_ints]
    by_cases g1 : 0 ≤ a
    · by_cases g2 : a ≤ 200
      · by_cases g3 : 0 ≤ b
        · by_cases g4 : b < f
          · by_cases g5 : 0 ≤ c
            · by_cases g6 : c < f
              · simp [b__law_is_caller, Py.Ss.ev, Py.S.ev, Py.E.ev, Py.Es.ev, Py.Es.bo, Py.It.ev, Oe.pt, Oe.cond, Py.Ss.as, Py.S.as, Tg.asg, fixOk, Py.R.bind, SR.bind, R.sr, R.map, truthR, rd, rds, plsOf, ndup, putBack, gt, st, truth, cmpF, eqF, fz, subF, items, ec_call, ec_clo, ec_np, ec_wl, ec_sub, Val.isD, asgV, asgN, esc, escs, Py.own, owns, asgTs, binF, SR.cr, backs, T.arg, isiF, slcF, wipe, putBackOwn, at0, at1, at2, at3, at4, fits, Nat.blt, Nat.succ_eq_add_one, bleC, dat, eqv, hx, hall, hlen, g1, g2, g3, g4, g5, g6]
              · simp [b__law_is_caller, Py.Ss.ev, Py.S.ev, Py.E.ev, Py.Es.ev, Py.Es.bo, Py.It.ev, Oe.pt, Oe.cond, Py.Ss.as, Py.S.as, Tg.asg, fixOk, Py.R.bind, SR.bind, R.sr, R.map, truthR, rd, rds, plsOf, ndup, putBack, gt, st, truth, cmpF, eqF, fz, subF, items, ec_call, ec_clo, ec_np, ec_wl, ec_sub, Val.isD, asgV, asgN, esc, escs, Py.own, owns, asgTs, binF, SR.cr, backs, T.arg, isiF, slcF, wipe, putBackOwn, at0, at1, at2, at3, at4, fits, Nat.blt, Nat.succ_eq_add_one, bleC, dat, eqv, hx, hall, hlen, g1, g2, g3, g4, g5, g6]
            · simp [b__law_is_caller, Py.Ss.ev, Py.S.ev, Py.E.ev, Py.Es.ev, Py.Es.bo, Py.It.ev, Oe.pt, Oe.cond, Py.Ss.as, Py.S.as, Tg.asg, fixOk, Py.R.bind, SR.bind, R.sr, R.map, truthR, rd, rds, plsOf, ndup, putBack, gt, st, truth, cmpF, eqF, fz, subF, items, ec_call, ec_clo, ec_np, ec_wl, ec_sub, Val.isD, asgV, asgN, esc, escs, Py.own, owns, asgTs, binF, SR.cr, backs, T.arg, isiF, slcF, wipe, putBackOwn, at0, at1, at2, at3, at4, fits, Nat.blt, Nat.succ_eq_add_one, bleC, dat, eqv, hx, hall, hlen, g1, g2, g3, g4, g5]
          · simp [b__law_is_caller, Py.Ss.ev, Py.S.ev, Py.E.ev, Py.Es.ev, Py.Es.bo, Py.It.ev, Oe.pt, Oe.cond, Py.Ss.as, Py.S.as, Tg.asg, fixOk, Py.R.bind, SR.bind, R.sr, R.map, truthR, rd, rds, plsOf, ndup, putBack, gt, st, truth, cmpF, eqF, fz, subF, items, ec_call, ec_clo, ec_np, ec_wl, ec_sub, Val.isD, asgV, asgN, esc, escs, Py.own, owns, asgTs, binF, SR.cr, backs, T.arg, isiF, slcF, wipe, putBackOwn, at0, at1, at2, at3, at4, fits, Nat.blt, Nat.succ_eq_add_one, bleC, dat, eqv, hx, hall, hlen, g1, g2, g3, g4]
        · simp [b__law_is_caller, Py.Ss.ev, Py.S.ev, Py.E.ev, Py.Es.ev, Py.Es.bo, Py.It.ev, Oe.pt, Oe.cond, Py.Ss.as, Py.S.as, Tg.asg, fixOk, Py.R.bind, SR.bind, R.sr, R.map, truthR, rd, rds, plsOf, ndup, putBack, gt, st, truth, cmpF, eqF, fz, subF, items, ec_call, ec_clo, ec_np, ec_wl, ec_sub, Val.isD, asgV, asgN, esc, escs, Py.own, owns, asgTs, binF, SR.cr, backs, T.arg, isiF, slcF, wipe, putBackOwn, at0, at1, at2, at3, at4, fits, Nat.blt, Nat.succ_eq_add_one, bleC, dat, eqv, hx, hall, hlen, g1, g2, g3]
      · simp [b__law_is_caller, Py.Ss.ev, Py.S.ev, Py.E.ev, Py.Es.ev, Py.Es.bo, Py.It.ev, Oe.pt, Oe.cond, Py.Ss.as, Py.S.as, Tg.asg, fixOk, Py.R.bind, SR.bind, R.sr, R.map, truthR, rd, rds, plsOf, ndup, putBack, gt, st, truth, cmpF, eqF, fz, subF, items, ec_call, ec_clo, ec_np, ec_wl, ec_sub, Val.isD, asgV, asgN, esc, escs, Py.own, owns, asgTs, binF, SR.cr, backs, T.arg, isiF, slcF, wipe, putBackOwn, at0, at1, at2, at3, at4, fits, Nat.blt, Nat.succ_eq_add_one, bleC, dat, eqv, hx, hall, hlen, g1, g2]
    · simp [b__law_is_caller, Py.Ss.ev, Py.S.ev, Py.E.ev, Py.Es.ev, Py.Es.bo, Py.It.ev, Oe.pt, Oe.cond, Py.Ss.as, Py.S.as, Tg.asg, fixOk, Py.R.bind, SR.bind, R.sr, R.map, truthR, rd, rds, plsOf, ndup, putBack, gt, st, truth, cmpF, eqF, fz, subF, items, ec_call, ec_clo, ec_np, ec_wl, ec_sub, Val.isD, asgV, asgN, esc, escs, Py.own, owns, asgTs, binF, SR.cr, backs, T.arg, isiF, slcF, wipe, putBackOwn, at0, at1, at2, at3, at4, fits, Nat.blt, Nat.succ_eq_add_one, bleC, dat, eqv, hx, hall, hlen, g1]
theorem lcal_not {k : Nat} {f : Int} {cs l : List Val} {v : Val} (hv : OkV v) (h : Sz v 3 3 = false) : (prg exs).call (k + 2) 66 [.v (hsV f cs l), .v v] none = .ok (.v (.bool false)) [.v (hsV f cs l), .v v] := by
  cases v with
  | tup q =>
    have h' : (decide ((3 : Int) ≤ (q.length : Int)) && decide ((q.length : Int) ≤ 3)) = false := h
    have e2 : ((q.length : Int) == 3) = false := by
      rw [Bool.and_eq_false_iff, decide_eq_false_iff_not, decide_eq_false_iff_not] at h'
      simp; omega
    rw [show k + 2 = (k + 1) + 1 from rfl, u__law_is_caller]
    simp [b__law_is_caller, Py.Ss.ev, Py.S.ev, Py.E.ev, Py.Es.ev, Py.Es.bo, Py.It.ev, Oe.pt, Oe.cond, Py.Ss.as, Py.S.as, Tg.asg, fixOk, Py.R.bind, SR.bind, R.sr, R.map, truthR, rd, rds, plsOf, ndup, putBack, gt, st, truth, cmpF, eqF, fz, subF, items, ec_call, ec_clo, ec_np, ec_wl, ec_sub, Val.isD, biF, asgV, asgN, esc, escs, Py.own, owns, asgTs, binF, SR.cr, backs, T.arg, isiF, slcF, wipe, putBackOwn, at0, at1, at2, at3, at4, fits, Nat.blt, Nat.succ_eq_add_one, bleC, dat, eqv, e2]
  | _ => first | exact hv.elim | kernel_rfl
theorem lcal_ok {j : Nat} (hj : 2 ≤ j) {f : Int} {cs l : List Val} {v : Val} (h : OkX v) : (prg exs).call j 66 [.v (hsV f cs l), .v v] none = .ok (.v (.bool (CalV f v))) [.v (hsV f cs l), .v v] := by
  obtain ⟨k, rfl⟩ := Nat.exists_eq_add_of_le' hj
  rcases x_cases h with ⟨a, b, c, rfl, ha, hb, hc⟩ | ⟨h1, h2⟩
  · exact lcal_three ha hb hc
  · rw [calV_not h2]; exact lcal_not h1 h2
/-! ### rows of callers -/
theorem lc_b2 {c : Py.Env → Py.R Bool} {el : Py.Env → Py.R Val} {t0 t1 t3 : Option T} {Q : Val → Bool} (hc : ∀ env, c env = .ok true env) : ∀ (cs acc : List Val), (∀ x ∈ cs, el [t0, t1, some (.v x), t3] = .ok (.bool (Q x)) [t0, t1, some (.v x), t3]) →
    lcL (.n 2) [2] c el cs acc [t0, t1, none, t3] = .ok (acc ++ cs.map fun x => .bool (Q x)) [t0, t1, none, t3]
  | [], acc, _ => by simp [lcL]
  | x :: cs, acc, h => by
    have e := lc_b2 hc cs (acc ++ [.bool (Q x)]) fun y hy => h y (List.mem_cons_of_mem _ hy)
    simp only [lcL, asgV, st, hc, h x List.mem_cons_self, wipe, e, List.map_cons, List.append_assoc, List.singleton_append]
theorem lc_p {c : Py.Env → Py.R Bool} {el : Py.Env → Py.R Val} {t0 t1 : Option T} {Q : Val → Bool} (hc : ∀ env, c env = .ok true env) : ∀ (ps acc : List Val), (∀ p ∈ ps, ∃ x y, p = .tup [x, y] ∧ el [t0, t1, some (.v x), some (.v y)] = .ok (.bool (Q p)) [t0, t1, some (.v x), some (.v y)]) →
    lcL (.t [2, 3]) [2, 3] c el ps acc [t0, t1, none, none] = .ok (acc ++ ps.map fun x => .bool (Q x)) [t0, t1, none, none]
  | [], acc, _ => by simp [lcL]
  | p :: ps, acc, h => by
    obtain ⟨x, y, rfl, e1⟩ := h p List.mem_cons_self
    have e := lc_p hc ps (acc ++ [.bool (Q (.tup [x, y]))]) fun y hy => h y (List.mem_cons_of_mem _ hy)
    simp only [lcL, asgV, asgN, st, hc, e1, wipe, e, List.map_cons, List.append_assoc, List.singleton_append]
def leP : Val → Bool
  | .tup [.tup (.int a :: _), .tup (.int d :: _)] => decide (a ≤ d)
  | _ => false
def prs (l : List Val) : List Val := zipV l (cutL l (some 1) none)
def srt (l : List Val) : Bool := ((prs l).map leP).all id
def CallQ (f : Int) (l : List Val) : Bool := decide (l.length ≤ 20) && (l.all (CalV f) && srt l)
theorem zip_mem {p : Val} : ∀ {l r : List Val}, p ∈ zipV l r → ∃ x y, p = .tup [x, y] ∧ x ∈ l ∧ y ∈ r
  | x :: l, y :: r, h => by
    rcases List.mem_cons.mp h with rfl | h
    · exact ⟨x, y, rfl, List.mem_cons_self, List.mem_cons_self⟩
    · obtain ⟨a, b, e, h1, h2⟩ := zip_mem h
      exact ⟨a, b, e, List.mem_cons_of_mem _ h1, List.mem_cons_of_mem _ h2⟩
  | [], _, h => by cases h
  | _ :: _, [], h => by cases h
theorem cut_mem {x : Val} {l : List Val} {lo hi : Option Int} (h : x ∈ cutL l lo hi) : x ∈ l := List.mem_of_mem_drop (List.mem_of_mem_take h)
theorem cal_int {f : Int} {x : Val} (h : CalV f x = true) : ∃ a b c : Int, x = .tup [.int a, .int b, .int c] ∧ (0 ≤ a ∧ a ≤ 200) ∧ (0 ≤ b ∧ b < f) ∧ (0 ≤ c ∧ c < f) ∧ b ≠ c := by
  unfold CalV at h
  split at h
  · next a b c =>
    cases hi : (isInt a && (isInt b && isInt c)) with
    | false => rw [calB_not hi] at h; cases h
    | true =>
      obtain ⟨h1, h2⟩ := Bool.and_eq_true_iff.mp hi
      obtain ⟨h2, h3⟩ := Bool.and_eq_true_iff.mp h2
      cases a <;> first | (cases h1) | skip
      cases b <;> first | (cases h2) | skip
      cases c <;> first | (cases h3) | skip
      rename_i a b c
      rw [calB_ints] at h
      simp only [Bool.and_eq_true, decide_eq_true_eq, Bool.not_eq_true', beq_eq_false_iff_ne] at h
      exact ⟨a, b, c, rfl, h.1, h.2.1, h.2.2.1, h.2.2.2⟩
  · cases h
theorem cal_of {f a b c : Int} (h1 : 0 ≤ a ∧ a ≤ 200) (h2 : 0 ≤ b ∧ b < f) (h3 : 0 ≤ c ∧ c < f) (h4 : b ≠ c) : CalV f (.tup [.int a, .int b, .int c]) = true := by
  show calB f (.int a) (.int b) (.int c) = true
  rw [calB_ints, decide_eq_true h1, decide_eq_true h2, decide_eq_true h3]
  simp [h4]
section
variable {k : Nat} {f : Int} {cs l : List Val} {q : List Val}
theorem hall_q {Q : Val → Bool} (q : List Val) : biF .all (.vl (q.map fun x => Val.bool (Q x))) = some (.v (.bool (q.all Q))) := by
  show (boolsOf (q.map fun x => Val.bool (Q x))).map (fun ns => T.v (.bool (ns.all id))) = _
  rw [boolsOf_map]
  simp [List.all_map]
theorem raw_ok {j : Nat} (hj : 4 ≤ j) (hq : ∀ x ∈ q, OkX x) : (prg exs).call j 17 [.v (hsV f cs l), .v (.tup q)] none = .ok (.v (.bool (CallQ f q))) [.v (hsV f cs l), .v (.tup q)] := by
  obtain ⟨k, rfl⟩ := Nat.exists_eq_add_of_le' hj
  have s1 := sized_ok (exs := exs) (j := k + 3) (by omega) (v := .tup q) trivial 0 20
  have e1 : Sz (.tup q) 0 20 = decide (q.length ≤ 20) := by
    show (decide ((0 : Int) ≤ (q.length : Int)) && decide ((q.length : Int) ≤ 20)) = _
    rw [decide_eq_true (by omega), Bool.true_and, decide_eq_decide]; omega
  rw [e1] at s1
  rw [show k + 4 = (k + 3) + 1 from rfl, u_raw_callers]
  unfold CallQ
  cases h1 : decide (q.length ≤ 20) with
  | false => rw [h1] at s1; simp [b_raw_callers, Py.Ss.ev, Py.S.ev, Py.E.ev, Py.Es.ev, Py.Es.bo, Py.It.ev, Oe.pt, Oe.cond, Py.Ss.as, Py.S.as, Tg.asg, fixOk, Py.R.bind, SR.bind, R.sr, R.map, truthR, rd, rds, plsOf, ndup, putBack, gt, st, truth, cmpF, eqF, fz, subF, items, ec_call, ec_clo, ec_np, ec_wl, ec_sub, Val.isD, biF, asgV, asgN, esc, escs, Py.own, owns, asgTs, binF, SR.cr, backs, T.arg, isiF, slcF, wipe, putBackOwn, at0, at1, at2, at3, at4, fits, Nat.blt, Nat.succ_eq_add_one, bleC, s1, v_MOST_CALLERS, g_MOST_CALLERS]
  | true =>
    rw [h1] at s1
    have hx : x_raw_callers_4.ev ((prg exs).ec ((prg exs).call (k + 3)) 2 none) [some (.v (hsV f cs l)), some (.v (.tup q)), none, none] = .ok (.t (.vl (q.map fun x => Val.bool (CalV f x)))) [some (.v (hsV f cs l)), some (.v (.tup q)), none, none] := by
      have el := lc_b2 (t0 := some (.v (hsV f cs l))) (t1 := some (.v (.tup q))) (t3 := none) (Q := CalV f) (c := fun env => Oe.cond ((prg exs).ec ((prg exs).call (k + 3)) 2 none) .no env) (el := fun env => (e_raw_callers_3.ev ((prg exs).ec ((prg exs).call (k + 3)) 2 none) env).bind fun o env => esc env o) (fun env => rfl) q [] (fun x hx => by
        have := iscal_ok (exs := exs) (j := k + 3) (by omega) (f := f) (cs := cs) (l := l) (hq x hx)
        simp [e_raw_callers_3, Py.Ss.ev, Py.S.ev, Py.E.ev, Py.Es.ev, Py.Es.bo, Py.It.ev, Oe.pt, Oe.cond, Py.Ss.as, Py.S.as, Tg.asg, fixOk, Py.R.bind, SR.bind, R.sr, R.map, truthR, rd, rds, plsOf, ndup, putBack, gt, st, truth, cmpF, eqF, fz, subF, items, ec_call, ec_clo, ec_np, ec_wl, ec_sub, Val.isD, biF, asgV, asgN, esc, escs, Py.own, owns, asgTs, binF, SR.cr, backs, T.arg, isiF, slcF, wipe, putBackOwn, at0, at1, at2, at3, at4, fits, Nat.blt, Nat.succ_eq_add_one, bleC, this])
      have h1 : Py.It.ev ((prg exs).ec ((prg exs).call (k + 3)) 2 none) (.e (.var 1)) [some (.v (hsV f cs l)), some (.v (.tup q)), none, none] = .ok q [some (.v (hsV f cs l)), some (.v (.tup q)), none, none] := by simp [Py.Ss.ev, Py.S.ev, Py.E.ev, Py.Es.ev, Py.Es.bo, Py.It.ev, Oe.pt, Oe.cond, Py.Ss.as, Py.S.as, Tg.asg, fixOk, Py.R.bind, SR.bind, R.sr, R.map, truthR, rd, rds, plsOf, ndup, putBack, gt, st, truth, cmpF, eqF, fz, subF, items, ec_call, ec_clo, ec_np, ec_wl, ec_sub, Val.isD, biF, asgV, asgN, esc, escs, Py.own, owns, asgTs, binF, SR.cr, backs, T.arg, isiF, slcF, wipe, putBackOwn, at0, at1, at2, at3, at4, fits, Nat.blt, Nat.succ_eq_add_one, bleC, itemsE]
      rw [List.nil_append] at el
      unfold x_raw_callers_4
      simp only [Py.E.ev, h1, Py.R.bind, wipe, st]
      simp only [Py.R.bind] at el
      rw [el]
      simp [putBackOwn, st, onlyV, gt]
    have hall := hall_q (Q := CalV f) q
    cases h2 : q.all (CalV f) with
    | false => rw [h2] at hall; simp [b_raw_callers, Py.Ss.ev, Py.S.ev, Py.E.ev, Py.Es.ev, Py.Es.bo, Py.It.ev, Oe.pt, Oe.cond, Py.Ss.as, Py.S.as, Tg.asg, fixOk, Py.R.bind, SR.bind, R.sr, R.map, truthR, rd, rds, plsOf, ndup, putBack, gt, st, truth, cmpF, eqF, fz, subF, items, ec_call, ec_clo, ec_np, ec_wl, ec_sub, Val.isD, asgV, asgN, esc, escs, Py.own, owns, asgTs, binF, SR.cr, backs, T.arg, isiF, slcF, wipe, putBackOwn, at0, at1, at2, at3, at4, fits, Nat.blt, Nat.succ_eq_add_one, bleC, s1, hx, hall, v_MOST_CALLERS, g_MOST_CALLERS]
    | true =>
      rw [h2] at hall
      have hp : x_raw_callers_2.ev ((prg exs).ec ((prg exs).call (k + 3)) 2 none) [some (.v (hsV f cs l)), some (.v (.tup q)), none, none] = .ok (.t (.vl ((prs q).map fun x => Val.bool (leP x)))) [some (.v (hsV f cs l)), some (.v (.tup q)), none, none] := by
        have el := lc_p (t0 := some (.v (hsV f cs l))) (t1 := some (.v (.tup q))) (Q := leP) (c := fun env => Oe.cond ((prg exs).ec ((prg exs).call (k + 3)) 2 none) .no env) (el := fun env => (e_raw_callers_1.ev ((prg exs).ec ((prg exs).call (k + 3)) 2 none) env).bind fun o env => esc env o) (fun env => rfl) (prs q) [] (fun p hp => by
          obtain ⟨x, y, rfl, hx, hy⟩ := zip_mem hp
          obtain ⟨a, b, c, rfl, _⟩ := cal_int (List.all_eq_true.mp h2 x hx)
          obtain ⟨d, b', c', rfl, _⟩ := cal_int (List.all_eq_true.mp h2 y (cut_mem hy))
          exact ⟨_, _, rfl, by simp [e_raw_callers_1, Py.Ss.ev, Py.S.ev, Py.E.ev, Py.Es.ev, Py.Es.bo, Py.It.ev, Oe.pt, Oe.cond, Py.Ss.as, Py.S.as, Tg.asg, fixOk, Py.R.bind, SR.bind, R.sr, R.map, truthR, rd, rds, plsOf, ndup, putBack, gt, st, truth, cmpF, eqF, fz, subF, items, ec_call, ec_clo, ec_np, ec_wl, ec_sub, Val.isD, biF, asgV, asgN, esc, escs, Py.own, owns, asgTs, binF, SR.cr, backs, T.arg, isiF, slcF, wipe, putBackOwn, at0, at1, at2, at3, at4, fits, Nat.blt, Nat.succ_eq_add_one, bleC, leP]⟩)
        have h1 : Py.It.ev ((prg exs).ec ((prg exs).call (k + 3)) 2 none) (.zip (.var 1) (.slc (.var 1) (.so (.k (.int 1))) .no)) [some (.v (hsV f cs l)), some (.v (.tup q)), none, none] = .ok (prs q) [some (.v (hsV f cs l)), some (.v (.tup q)), none, none] := by simp [Py.Ss.ev, Py.S.ev, Py.E.ev, Py.Es.ev, Py.Es.bo, Py.It.ev, Oe.pt, Oe.cond, Py.Ss.as, Py.S.as, Tg.asg, fixOk, Py.R.bind, SR.bind, R.sr, R.map, truthR, rd, rds, plsOf, ndup, putBack, gt, st, truth, cmpF, eqF, fz, subF, items, ec_call, ec_clo, ec_np, ec_wl, ec_sub, Val.isD, biF, asgV, asgN, esc, escs, Py.own, owns, asgTs, binF, SR.cr, backs, T.arg, isiF, slcF, wipe, putBackOwn, at0, at1, at2, at3, at4, fits, Nat.blt, Nat.succ_eq_add_one, bleC, itemsE, zipF, prs]
        rw [List.nil_append] at el
        unfold x_raw_callers_2
        simp only [Py.E.ev, h1, Py.R.bind, wipe, st]
        simp only [Py.R.bind] at el
        rw [el]
        simp [putBackOwn, st, onlyV, gt]
      have hall2 := hall_q (Q := leP) (prs q)
      have e3 : (prs q).all leP = srt q := by unfold srt; rw [List.all_map]; rfl
      rw [e3] at hall2
      simp [b_raw_callers, Py.Ss.ev, Py.S.ev, Py.E.ev, Py.Es.ev, Py.Es.bo, Py.It.ev, Oe.pt, Oe.cond, Py.Ss.as, Py.S.as, Tg.asg, fixOk, Py.R.bind, SR.bind, R.sr, R.map, truthR, rd, rds, plsOf, ndup, putBack, gt, st, truth, cmpF, eqF, fz, subF, items, ec_call, ec_clo, ec_np, ec_wl, ec_sub, Val.isD, asgV, asgN, esc, escs, Py.own, owns, asgTs, binF, SR.cr, backs, T.arg, isiF, slcF, wipe, putBackOwn, at0, at1, at2, at3, at4, fits, Nat.blt, Nat.succ_eq_add_one, bleC, s1, hx, hall, hp, hall2, v_MOST_CALLERS, g_MOST_CALLERS]
theorem raw_not {j : Nat} (hj : 4 ≤ j) {v : Val} (hv : OkV v) (h : ∀ q, v ≠ .tup q) : (prg exs).call j 17 [.v (hsV f cs l), .v v] none = .ok (.v (.bool false)) [.v (hsV f cs l), .v v] := by
  obtain ⟨k, rfl⟩ := Nat.exists_eq_add_of_le' hj
  cases v <;> first | exact hv.elim | exact absurd rfl (h _) | kernel_rfl
theorem lare_ok {j : Nat} (hj : 3 ≤ j) (hq : ∀ x ∈ q, OkX x) : (prg exs).call j 67 [.v (hsV f cs l), .v (.tup q)] none = .ok (.v (.bool (CallQ f q))) [.v (hsV f cs l), .v (.tup q)] := by
  obtain ⟨k, rfl⟩ := Nat.exists_eq_add_of_le' hj
  have hlen : biF .len (.v (.tup q)) = some (.v (.int q.length)) := rfl
  rw [show k + 3 = (k + 2) + 1 from rfl, u__law_are_callers]
  unfold CallQ
  cases h1 : decide (q.length ≤ 20) with
  | false =>
    have g1 : (20 : Int) < (q.length : Int) := by have := of_decide_eq_false h1; omega
    simp [b__law_are_callers, Py.Ss.ev, Py.S.ev, Py.E.ev, Py.Es.ev, Py.Es.bo, Py.It.ev, Oe.pt, Oe.cond, Py.Ss.as, Py.S.as, Tg.asg, fixOk, Py.R.bind, SR.bind, R.sr, R.map, truthR, rd, rds, plsOf, ndup, putBack, gt, st, truth, cmpF, eqF, fz, subF, items, ec_call, ec_clo, ec_np, ec_wl, ec_sub, Val.isD, asgV, asgN, esc, escs, Py.own, owns, asgTs, binF, SR.cr, backs, T.arg, isiF, slcF, wipe, putBackOwn, at0, at1, at2, at3, at4, fits, Nat.blt, Nat.succ_eq_add_one, bleC, hlen, decide_eq_true g1]
  | true =>
    have g1 : ¬ (20 : Int) < (q.length : Int) := by have := of_decide_eq_true h1; omega
    have hx : x__law_are_callers_4.ev ((prg exs).ec ((prg exs).call (k + 2)) 2 none) [some (.v (hsV f cs l)), some (.v (.tup q)), none, none] = .ok (.t (.vl (q.map fun x => Val.bool (CalV f x)))) [some (.v (hsV f cs l)), some (.v (.tup q)), none, none] := by
      have el := lc_b2 (t0 := some (.v (hsV f cs l))) (t1 := some (.v (.tup q))) (t3 := none) (Q := CalV f) (c := fun env => Oe.cond ((prg exs).ec ((prg exs).call (k + 2)) 2 none) .no env) (el := fun env => (e__law_are_callers_3.ev ((prg exs).ec ((prg exs).call (k + 2)) 2 none) env).bind fun o env => esc env o) (fun env => rfl) q [] (fun x hx => by
        have := lcal_ok (exs := exs) (j := k + 2) (by omega) (f := f) (cs := cs) (l := l) (hq x hx)
        simp [e__law_are_callers_3, Py.Ss.ev, Py.S.ev, Py.E.ev, Py.Es.ev, Py.Es.bo, Py.It.ev, Oe.pt, Oe.cond, Py.Ss.as, Py.S.as, Tg.asg, fixOk, Py.R.bind, SR.bind, R.sr, R.map, truthR, rd, rds, plsOf, ndup, putBack, gt, st, truth, cmpF, eqF, fz, subF, items, ec_call, ec_clo, ec_np, ec_wl, ec_sub, Val.isD, biF, asgV, asgN, esc, escs, Py.own, owns, asgTs, binF, SR.cr, backs, T.arg, isiF, slcF, wipe, putBackOwn, at0, at1, at2, at3, at4, fits, Nat.blt, Nat.succ_eq_add_one, bleC, this])
      have h1 : Py.It.ev ((prg exs).ec ((prg exs).call (k + 2)) 2 none) (.e (.var 1)) [some (.v (hsV f cs l)), some (.v (.tup q)), none, none] = .ok q [some (.v (hsV f cs l)), some (.v (.tup q)), none, none] := by simp [Py.Ss.ev, Py.S.ev, Py.E.ev, Py.Es.ev, Py.Es.bo, Py.It.ev, Oe.pt, Oe.cond, Py.Ss.as, Py.S.as, Tg.asg, fixOk, Py.R.bind, SR.bind, R.sr, R.map, truthR, rd, rds, plsOf, ndup, putBack, gt, st, truth, cmpF, eqF, fz, subF, items, ec_call, ec_clo, ec_np, ec_wl, ec_sub, Val.isD, biF, asgV, asgN, esc, escs, Py.own, owns, asgTs, binF, SR.cr, backs, T.arg, isiF, slcF, wipe, putBackOwn, at0, at1, at2, at3, at4, fits, Nat.blt, Nat.succ_eq_add_one, bleC, itemsE]
      rw [List.nil_append] at el
      unfold x__law_are_callers_4
      simp only [Py.E.ev, h1, Py.R.bind, wipe, st]
      simp only [Py.R.bind] at el
      rw [el]
      simp [putBackOwn, st, onlyV, gt]
    have hall := hall_q (Q := CalV f) q
    cases h2 : q.all (CalV f) with
    | false => rw [h2] at hall; simp [b__law_are_callers, Py.Ss.ev, Py.S.ev, Py.E.ev, Py.Es.ev, Py.Es.bo, Py.It.ev, Oe.pt, Oe.cond, Py.Ss.as, Py.S.as, Tg.asg, fixOk, Py.R.bind, SR.bind, R.sr, R.map, truthR, rd, rds, plsOf, ndup, putBack, gt, st, truth, cmpF, eqF, fz, subF, items, ec_call, ec_clo, ec_np, ec_wl, ec_sub, Val.isD, asgV, asgN, esc, escs, Py.own, owns, asgTs, binF, SR.cr, backs, T.arg, isiF, slcF, wipe, putBackOwn, at0, at1, at2, at3, at4, fits, Nat.blt, Nat.succ_eq_add_one, bleC, hlen, decide_eq_false g1, hx, hall]
    | true =>
      rw [h2] at hall
      have hp : x__law_are_callers_2.ev ((prg exs).ec ((prg exs).call (k + 2)) 2 none) [some (.v (hsV f cs l)), some (.v (.tup q)), none, none] = .ok (.t (.vl ((prs q).map fun x => Val.bool (leP x)))) [some (.v (hsV f cs l)), some (.v (.tup q)), none, none] := by
        have el := lc_p (t0 := some (.v (hsV f cs l))) (t1 := some (.v (.tup q))) (Q := leP) (c := fun env => Oe.cond ((prg exs).ec ((prg exs).call (k + 2)) 2 none) .no env) (el := fun env => (e__law_are_callers_1.ev ((prg exs).ec ((prg exs).call (k + 2)) 2 none) env).bind fun o env => esc env o) (fun env => rfl) (prs q) [] (fun p hp => by
          obtain ⟨x, y, rfl, hx, hy⟩ := zip_mem hp
          obtain ⟨a, b, c, rfl, _⟩ := cal_int (List.all_eq_true.mp h2 x hx)
          obtain ⟨d, b', c', rfl, _⟩ := cal_int (List.all_eq_true.mp h2 y (cut_mem hy))
          exact ⟨_, _, rfl, by simp [e__law_are_callers_1, Py.Ss.ev, Py.S.ev, Py.E.ev, Py.Es.ev, Py.Es.bo, Py.It.ev, Oe.pt, Oe.cond, Py.Ss.as, Py.S.as, Tg.asg, fixOk, Py.R.bind, SR.bind, R.sr, R.map, truthR, rd, rds, plsOf, ndup, putBack, gt, st, truth, cmpF, eqF, fz, subF, items, ec_call, ec_clo, ec_np, ec_wl, ec_sub, Val.isD, biF, asgV, asgN, esc, escs, Py.own, owns, asgTs, binF, SR.cr, backs, T.arg, isiF, slcF, wipe, putBackOwn, at0, at1, at2, at3, at4, fits, Nat.blt, Nat.succ_eq_add_one, bleC, leP]⟩)
        have h1 : Py.It.ev ((prg exs).ec ((prg exs).call (k + 2)) 2 none) (.zip (.var 1) (.slc (.var 1) (.so (.k (.int 1))) .no)) [some (.v (hsV f cs l)), some (.v (.tup q)), none, none] = .ok (prs q) [some (.v (hsV f cs l)), some (.v (.tup q)), none, none] := by simp [Py.Ss.ev, Py.S.ev, Py.E.ev, Py.Es.ev, Py.Es.bo, Py.It.ev, Oe.pt, Oe.cond, Py.Ss.as, Py.S.as, Tg.asg, fixOk, Py.R.bind, SR.bind, R.sr, R.map, truthR, rd, rds, plsOf, ndup, putBack, gt, st, truth, cmpF, eqF, fz, subF, items, ec_call, ec_clo, ec_np, ec_wl, ec_sub, Val.isD, biF, asgV, asgN, esc, escs, Py.own, owns, asgTs, binF, SR.cr, backs, T.arg, isiF, slcF, wipe, putBackOwn, at0, at1, at2, at3, at4, fits, Nat.blt, Nat.succ_eq_add_one, bleC, itemsE, zipF, prs]
        rw [List.nil_append] at el
        unfold x__law_are_callers_2
        simp only [Py.E.ev, h1, Py.R.bind, wipe, st]
        simp only [Py.R.bind] at el
        rw [el]
        simp [putBackOwn, st, onlyV, gt]
      have hall2 := hall_q (Q := leP) (prs q)
      have e3 : (prs q).all leP = srt q := by unfold srt; rw [List.all_map]; rfl
      rw [e3] at hall2
      simp [b__law_are_callers, Py.Ss.ev, Py.S.ev, Py.E.ev, Py.Es.ev, Py.Es.bo, Py.It.ev, Oe.pt, Oe.cond, Py.Ss.as, Py.S.as, Tg.asg, fixOk, Py.R.bind, SR.bind, R.sr, R.map, truthR, rd, rds, plsOf, ndup, putBack, gt, st, truth, cmpF, eqF, fz, subF, items, ec_call, ec_clo, ec_np, ec_wl, ec_sub, Val.isD, asgV, asgN, esc, escs, Py.own, owns, asgTs, binF, SR.cr, backs, T.arg, isiF, slcF, wipe, putBackOwn, at0, at1, at2, at3, at4, fits, Nat.blt, Nat.succ_eq_add_one, bleC, hlen, decide_eq_false g1, hx, hall, hp, hall2]
theorem lare_not {j : Nat} (hj : 3 ≤ j) {v : Val} (hv : OkV v) (h : ∀ q, v ≠ .tup q) : (prg exs).call j 67 [.v (hsV f cs l), .v v] none = .ok (.v (.bool false)) [.v (hsV f cs l), .v v] := by
  obtain ⟨k, rfl⟩ := Nat.exists_eq_add_of_le' hj
  cases v <;> first | exact hv.elim | exact absurd rfl (h _) | kernel_rfl
end
end K26
namespace K26
open Py
variable {exs : List PySem.Str}
/-! ### drawn callers -/
theorem cut1 (x : Val) (r : List Val) : cutL (x :: r) (some 1) none = r := by
  unfold cutL HT.sIx
  simp
theorem prs_two (x y : Val) (r : List Val) : prs (x :: y :: r) = .tup [x, y] :: prs (y :: r) := by
  unfold prs
  rw [cut1, cut1]; rfl
theorem srt_two (x y : Val) (r : List Val) : srt (x :: y :: r) = (leP (.tup [x, y]) && srt (y :: r)) := by
  unfold srt
  rw [prs_two]; rfl
theorem srt_one (x : Val) : srt [x] = true := by
  unfold srt prs
  rw [cut1]; rfl
theorem srt_nil : srt [] = true := rfl
/-- callers, none later than t -/
structure Cl (f : Int) (A : List Val) (t : Int) : Prop where
  cal : ∀ x ∈ A, ∃ a b c : Int, x = .tup [.int a, .int b, .int c] ∧ (0 ≤ a ∧ a ≤ 200) ∧ (0 ≤ b ∧ b < f) ∧ (0 ≤ c ∧ c < f) ∧ b ≠ c ∧ a ≤ t
  so : srt A = true
theorem srt_app {f t a b c : Int} (ht : t ≤ a) : ∀ {A : List Val}, (∀ x ∈ A, ∃ a b c : Int, x = .tup [.int a, .int b, .int c] ∧ (0 ≤ a ∧ a ≤ 200) ∧ (0 ≤ b ∧ b < f) ∧ (0 ≤ c ∧ c < f) ∧ b ≠ c ∧ a ≤ t) → srt A = true → srt (A ++ [.tup [.int a, .int b, .int c]]) = true
  | [], _, _ => srt_one _
  | [x], h, _ => by
    obtain ⟨a', b', c', rfl, _, _, _, _, h1⟩ := h x List.mem_cons_self
    show srt [_, _] = true
    rw [srt_two, srt_one, Bool.and_true]
    show decide (a' ≤ a) = true
    exact decide_eq_true (by omega)
  | x :: y :: r, h, hs => by
    rw [srt_two, Bool.and_eq_true] at hs
    have := srt_app (b := b) (c := c) ht (A := y :: r) (fun z hz => h z (List.mem_cons_of_mem _ hz)) hs.2
    show srt (x :: y :: (r ++ [_])) = true
    rw [srt_two, hs.1, Bool.true_and]
    exact this
theorem Cl.okx {f t : Int} {A : List Val} (h : Cl f A t) : ∀ x ∈ A, OkX x := fun x hx => by
  obtain ⟨a, b, c, rfl, _⟩ := h.cal x hx
  exact ⟨trivial, fun a b c e => by cases e; exact ⟨trivial, trivial, trivial⟩⟩
theorem Cl.all {f t : Int} {A : List Val} (h : Cl f A t) : A.all (CalV f) = true := List.all_eq_true.mpr fun x hx => by
  obtain ⟨a, b, c, rfl, h1, h2, h3, h4, _⟩ := h.cal x hx
  exact cal_of h1 h2 h3 h4
theorem cal_step {k np : Nat} {c : Option Clo} {h : List Val} (H : Hd h) {f : Int} (f0 : 2 ≤ f) (f1 : f ≤ 4) {V : Val} {x1 x2 : Val} (hV : V = .tup [.int f, x1, x2]) {o2 o5 o6 : Option T} {A : List Val} {t : Int} (hA : Cl f A t) (ht : 0 ≤ t ∧ t ≤ 100) (hl : A.length ≤ 100) :
    ∃ x t' h' o, Cl f (A ++ [x]) t' ∧ (0 ≤ t' ∧ t' ≤ t + 5) ∧ Hd h' ∧ b__law_callers_1.ev ((prg exs).ec ((prg exs).call (k + 2)) np c) [some (.vl h), some (.v V), o2, some (.vl A), some (.v (.int t)), o5, o6] =
      .nx [some (.vl h'), some (.v V), o2, some (.vl (A ++ [x])), some (.v (.int t')), o5, o] := by
  obtain ⟨s, h1, hs, H1, q1⟩ := so (exs := exs) (j := k + 2) (by omega) H [.int 0, .int 0, .int 1, .int 2, .int 5] (by simp) (by simp)
  obtain ⟨one, h2, H2, ⟨a0, a1⟩, q2⟩ := dr (exs := exs) (j := k + 2) (by omega) H1 f (by omega) (by omega)
  obtain ⟨oth, h3, H3, ⟨b0, b1⟩, q3⟩ := dr (exs := exs) (j := k + 2) (by omega) H2 (f - 1) (by omega) (by omega)
  obtain ⟨d, rfl, d0, d1⟩ : ∃ d : Int, s = .int d ∧ 0 ≤ d ∧ d ≤ 5 := by
    simp only [List.mem_cons, List.not_mem_nil, or_false] at hs
    rcases hs with rfl | rfl | rfl | rfl | rfl <;> exact ⟨_, rfl, by omega, by omega⟩
  have g1 : Nat.ble (A.length + 1) 16777216 = true := ble_ok (by omega)
  have hf : f = 2 ∨ f = 3 ∨ f = 4 := by omega
  have m0 : 0 ≤ (one + 1 + oth) % f ∧ (one + 1 + oth) % f < f := ⟨Int.emod_nonneg _ (by omega), Int.emod_lt_of_pos _ (by omega)⟩
  have m1 : one ≠ (one + 1 + oth) % f := by rcases hf with rfl | rfl | rfl <;> omega
  have p0 : 0 < f := by omega
  refine ⟨.tup [.int (t + d), .int one, .int ((one + 1 + oth) % f)], t + d, h3, some (.v (.int one)), ⟨fun x hx => ?_, srt_app (show t ≤ t + d by omega) hA.cal hA.so⟩, by omega, H3, ?_⟩
  · rcases List.mem_append.mp hx with hx | hx
    · obtain ⟨a, b, c, e, u1, u2, u3, u4, u5⟩ := hA.cal x hx
      exact ⟨a, b, c, e, u1, u2, u3, u4, by omega⟩
    · exact ⟨_, _, _, List.mem_singleton.mp hx, by omega, by omega, by omega, m1, by omega⟩
  · subst hV
    simp [b__law_callers_1, Py.Ss.ev, Py.S.ev, Py.E.ev, Py.Es.ev, Py.Es.bo, Py.It.ev, Oe.pt, Oe.cond, Py.Ss.as, Py.S.as, Tg.asg, fixOk, Py.R.bind, SR.bind, R.sr, R.map, truthR, rd, rds, plsOf, ndup, putBack, gt, st, truth, cmpF, eqF, fz, subF, items, ec_call, ec_clo, ec_np, ec_wl, ec_sub, Val.isD, biF, asgV, asgN, esc, escs, Py.own, owns, asgTs, binF, SR.cr, backs, T.arg, isiF, slcF, wipe, putBackOwn, at0, at1, at2, at3, at4, fits, Nat.blt, Nat.succ_eq_add_one, bleC, q1, q2, q3, g1, p0]
theorem cal_for {k np : Nat} {c : Option Clo} {f : Int} (f0 : 2 ≤ f) (f1 : f ≤ 4) {V : Val} {x1 x2 : Val} (hV : V = .tup [.int f, x1, x2]) {o2 : Option T} : ∀ (l : List Val) (h A : List Val) (t : Int) (o5 o6 : Option T), Hd h → Cl f A t → 0 ≤ t → t + 5 * l.length ≤ 100 → A.length + l.length ≤ 100 →
    ∃ B t' h' o5' o6', Cl f (A ++ B) t' ∧ B.length = l.length ∧ Hd h' ∧ forL (.n 5) (fun env => b__law_callers_1.ev ((prg exs).ec ((prg exs).call (k + 2)) np c) env) l [some (.vl h), some (.v V), o2, some (.vl A), some (.v (.int t)), o5, o6] =
      .nx [some (.vl h'), some (.v V), o2, some (.vl (A ++ B)), some (.v (.int t')), o5', o6']
  | [], h, A, t, o5, o6, H, hA, _, _, _ => ⟨[], t, h, o5, o6, by rw [List.append_nil]; exact hA, rfl, H, by simp [forL]⟩
  | x :: l, h, A, t, o5, o6, H, hA, t0, t1, hl => by
    rw [List.length_cons] at t1 hl
    obtain ⟨v, t', h1, o, hB, ⟨u0, u1⟩, H1, e1⟩ := cal_step (exs := exs) (k := k) (np := np) (c := c) H f0 f1 hV (o2 := o2) (o5 := some (.v x)) (o6 := o6) hA ⟨t0, by omega⟩ (by omega)
    obtain ⟨B, t2, h2, o5', o6', hC, hl2, H2, e2⟩ := cal_for (k := k) (np := np) (c := c) f0 f1 hV (o2 := o2) l h1 (A ++ [v]) t' (some (.v x)) o H1 hB u0 (by omega) (by rw [List.length_append, List.length_singleton]; omega)
    refine ⟨v :: B, t2, h2, o5', o6', by rw [List.append_assoc] at hC; exact hC, by rw [List.length_cons, List.length_cons, hl2], H2, ?_⟩
    simp only [forL, asgV, st, e1, e2, List.append_assoc, List.singleton_append]
theorem callers_ok {j : Nat} (hj : 3 ≤ j) {h : List Val} (H : Hd h) {f : Int} {cs l : List Val} (hs : Hs f cs l) : ∃ C t h', Cl f C t ∧ C.length ≤ 6 ∧ Hd h' ∧
    (prg exs).call j 64 [.vl h, .v (hsV f cs l), .v (.int 6)] none = .ok (.v (.tup C)) [.vl h', .v (hsV f cs l), .v (.int 6)] := by
  obtain ⟨k, rfl⟩ := Nat.exists_eq_add_of_le' hj
  obtain ⟨d, h1, H1, ⟨d0, d1⟩, q1⟩ := dr (exs := exs) (j := k + 2) (by omega) H 7 (by omega) (by omega)
  have hlen := rng_len d
  obtain ⟨B, t, h2, o5, o6, hB, hl, H2, q2⟩ := cal_for (exs := exs) (k := k) (np := 3) (c := none) (f := f) hs.f0 hs.f1 (V := hsV f cs l) rfl (o2 := some (.v (.int 6))) (rngV 0 d) h1 [] 0 none none H1 ⟨fun x hx => (nomatch hx), srt_nil⟩ (by omega) (by rw [hlen]; omega) (by rw [hlen]; simp; omega)
  have er := rng1 (j := d) (by omega) (by omega)
  rw [List.nil_append] at hB q2
  refine ⟨B, t, h2, hB, by rw [hl, hlen]; omega, H2, ?_⟩
  rw [show k + 3 = (k + 2) + 1 from rfl, u__law_callers]
  simp [b__law_callers, Py.Ss.ev, Py.S.ev, Py.E.ev, Py.Es.ev, Py.Es.bo, Py.It.ev, Oe.pt, Oe.cond, Py.Ss.as, Py.S.as, Tg.asg, fixOk, Py.R.bind, SR.bind, R.sr, R.map, truthR, rd, rds, plsOf, ndup, putBack, gt, st, truth, cmpF, eqF, fz, subF, items, ec_call, ec_clo, ec_np, ec_wl, ec_sub, Val.isD, biF, asgV, asgN, esc, escs, Py.own, owns, asgTs, binF, SR.cr, backs, T.arg, isiF, slcF, wipe, putBackOwn, at0, at1, at2, at3, at4, fits, Nat.blt, Nat.succ_eq_add_one, bleC, q1, er, q2]
/-! ### what is no caller -/
def Dp (v : Val) : Prop := (∃ w, DV w ∧ v = .tup [.str [63], w]) ∨ ∃ w, DV w ∧ v = .lst [w]
theorem deep_v {j : Nat} (hj : 2 ≤ j) {h : List Val} (H : Hd h) : ∃ t v h', Dp v ∧ Hd h' ∧ (t = .v v ∨ ∃ w, t = .vl [w] ∧ v = .lst [w]) ∧ (prg exs).call j 59 [.vl h] none = .ok t [.vl h'] := by
  obtain ⟨t, h', ho, H', e⟩ := deep_ok (exs := exs) hj H
  rcases ho with ⟨w, hw, rfl⟩ | ⟨w, hw, rfl⟩
  · exact ⟨_, .tup [.str [63], w], h', .inl ⟨w, hw, rfl⟩, H', .inl rfl, e⟩
  · exact ⟨_, .lst [w], h', .inr ⟨w, hw, rfl⟩, H', .inr ⟨w, rfl, rfl⟩, e⟩
/-- what may be judged -/
def OkT (v : Val) : Prop := OkX v ∧ ∀ l, v = .tup l → ∀ x ∈ l, OkX x
theorem okx_dv {w : Val} (h : DV w) : OkX w := by
  rcases h with rfl | ⟨x, rfl⟩ | ⟨x, rfl⟩
  · exact ⟨trivial, fun a b c e => by cases e⟩
  · exact ⟨trivial, fun a b c e => by cases e⟩
  · exact ⟨trivial, fun a b c e => by cases e⟩
theorem okx_int (i : Int) : OkX (.int i) := ⟨trivial, fun a b c e => by cases e⟩
theorem okx_str (i : List Nat) : OkX (.str i) := ⟨trivial, fun a b c e => by cases e⟩
theorem okx_bool (i : Bool) : OkX (.bool i) := ⟨trivial, fun a b c e => by cases e⟩
theorem okt_nt {v : Val} (h : OkV v) (hn : ∀ l, v ≠ .tup l) : OkT v := ⟨⟨h, fun a b c e => absurd e (hn _)⟩, fun l e => absurd e (hn l)⟩
theorem okt_dp {d : Val} (h : Dp d) : OkT d := by
  rcases h with ⟨w, hw, rfl⟩ | ⟨w, hw, rfl⟩
  · refine ⟨⟨trivial, fun a b c e => by cases e⟩, fun l e x hx => ?_⟩
    cases e
    simp only [List.mem_cons, List.not_mem_nil, or_false] at hx
    rcases hx with rfl | rfl
    · exact okx_str _
    · exact okx_dv hw
  · exact okt_nt trivial fun l => (nomatch ·)
def ncL (f : Int) : List Val := [.none, .str [63], .tup [.int 0, .int 0, .int 0], .tup [.int 0, .int 0, .int f], .tup [.int 201, .int 0, .int 1], .tup [.int (-1), .int 0, .int 1], .tup [.int 0, .int 0], .tup [.int 0, .int 0, .int 1, .int 2], .lst [.int 0, .int 0, .int 1],
  .tup [.bool true, .int 0, .int 1], .tup [.int 0, .int (-1), .int 1], .int 5, .tup [.int 0, .str [63], .int 1], .tup [.tup [.int 0, .int 0, .int 1]]]
structure NoC (f : Int) (v : Val) : Prop where
  ok : OkT v
  no : CalV f v = false
theorem okt_3 {a b c : Val} (ha : OkX a) (hb : OkX b) (hc : OkX c) : OkT (.tup [a, b, c]) := by
  refine ⟨⟨trivial, fun a b c e => by cases e; exact ⟨ha.1, hb.1, hc.1⟩⟩, fun l e x hx => ?_⟩
  cases e
  simp only [List.mem_cons, List.not_mem_nil, or_false] at hx
  rcases hx with rfl | rfl | rfl
  · exact ha
  · exact hb
  · exact hc
theorem no_ints {f a b c : Int} (h : ¬ ((0 ≤ a ∧ a ≤ 200) ∧ (0 ≤ b ∧ b < f) ∧ (0 ≤ c ∧ c < f) ∧ b ≠ c)) : CalV f (.tup [.int a, .int b, .int c]) = false := by
  cases q : CalV f (.tup [.int a, .int b, .int c]) with
  | false => rfl
  | true =>
    obtain ⟨a', b', c', e, h1, h2, h3, h4⟩ := cal_int q
    cases e
    exact absurd ⟨h1, h2, h3, h4⟩ h
theorem nc_ok {f : Int} {d v : Val} (hd : Dp d) (h : v ∈ ncL f ++ [d]) : NoC f v := by
  rcases List.mem_append.mp h with hv | hv
  · simp only [ncL, List.mem_cons, List.not_mem_nil, or_false] at hv
    rcases hv with rfl | rfl | rfl | rfl | rfl | rfl | rfl | rfl | rfl | rfl | rfl | rfl | rfl | rfl
    · exact ⟨okt_nt trivial fun l => (nomatch ·), rfl⟩
    · exact ⟨okt_nt trivial fun l => (nomatch ·), rfl⟩
    · exact ⟨okt_3 (okx_int _) (okx_int _) (okx_int _), no_ints (by omega)⟩
    · exact ⟨okt_3 (okx_int _) (okx_int _) (okx_int _), no_ints (by omega)⟩
    · exact ⟨okt_3 (okx_int _) (okx_int _) (okx_int _), no_ints (by omega)⟩
    · exact ⟨okt_3 (okx_int _) (okx_int _) (okx_int _), no_ints (by omega)⟩
    · refine ⟨⟨⟨trivial, fun a b c e => by cases e⟩, fun l e x hx => ?_⟩, rfl⟩
      cases e
      simp only [List.mem_cons, List.not_mem_nil, or_false] at hx
      rcases hx with rfl | rfl <;> exact okx_int _
    · refine ⟨⟨⟨trivial, fun a b c e => by cases e⟩, fun l e x hx => ?_⟩, rfl⟩
      cases e
      simp only [List.mem_cons, List.not_mem_nil, or_false] at hx
      rcases hx with rfl | rfl | rfl | rfl <;> exact okx_int _
    · exact ⟨okt_nt trivial fun l => (nomatch ·), rfl⟩
    · exact ⟨okt_3 (okx_bool _) (okx_int _) (okx_int _), rfl⟩
    · exact ⟨okt_3 (okx_int _) (okx_int _) (okx_int _), no_ints (by omega)⟩
    · exact ⟨okt_nt trivial fun l => (nomatch ·), rfl⟩
    · refine ⟨okt_3 (okx_int _) (okx_str _) (okx_int _), calB_not (f := f) (a := .int 0) (b := .str [63]) (c := .int 1) rfl⟩
    · refine ⟨⟨⟨trivial, fun a b c e => by cases e⟩, fun l e x hx => ?_⟩, rfl⟩
      cases e
      rw [List.mem_singleton.mp hx]
      exact (okt_3 (okx_int _) (okx_int _) (okx_int _)).1
  · rw [List.mem_singleton.mp hv]
    refine ⟨okt_dp hd, ?_⟩
    rcases hd with ⟨w, _, rfl⟩ | ⟨w, _, rfl⟩ <;> rfl
theorem nocal_ok {j : Nat} (hj : 3 ≤ j) {h : List Val} (H : Hd h) {f : Int} {cs l : List Val} : ∃ v h', NoC f v ∧ Hd h' ∧ (prg exs).call j 68 [.vl h, .v (hsV f cs l)] none = .ok (.v v) [.vl h', .v (hsV f cs l)] := by
  obtain ⟨k, rfl⟩ := Nat.exists_eq_add_of_le' hj
  obtain ⟨t, d, h1, hd, H1, ht, q1⟩ := deep_v (exs := exs) (j := k + 2) (by omega) H
  obtain ⟨v, h2, hv, H2, q2⟩ := so (exs := exs) (j := k + 2) (by omega) H1 (ncL f ++ [d]) (by simp [ncL]) (by simp [ncL])
  refine ⟨v, h2, nc_ok hd hv, H2, ?_⟩
  simp only [ncL, List.cons_append, List.nil_append] at q2
  unfold hsV
  rw [show k + 3 = (k + 2) + 1 from rfl, u__law_no_caller]
  rcases ht with rfl | ⟨w, rfl, rfl⟩
  · simp [b__law_no_caller, Py.Ss.ev, Py.S.ev, Py.E.ev, Py.Es.ev, Py.Es.bo, Py.It.ev, Oe.pt, Oe.cond, Py.Ss.as, Py.S.as, Tg.asg, fixOk, Py.R.bind, SR.bind, R.sr, R.map, truthR, rd, rds, plsOf, ndup, putBack, gt, st, truth, cmpF, eqF, fz, subF, items, ec_call, ec_clo, ec_np, ec_wl, ec_sub, Val.isD, biF, asgV, asgN, esc, escs, Py.own, owns, asgTs, binF, SR.cr, backs, T.arg, isiF, slcF, wipe, putBackOwn, at0, at1, at2, at3, at4, fits, Nat.blt, Nat.succ_eq_add_one, bleC, q1, q2]
  · simp [b__law_no_caller, Py.Ss.ev, Py.S.ev, Py.E.ev, Py.Es.ev, Py.Es.bo, Py.It.ev, Oe.pt, Oe.cond, Py.Ss.as, Py.S.as, Tg.asg, fixOk, Py.R.bind, SR.bind, R.sr, R.map, truthR, rd, rds, plsOf, ndup, putBack, gt, st, truth, cmpF, eqF, fz, subF, items, ec_call, ec_clo, ec_np, ec_wl, ec_sub, Val.isD, biF, asgV, asgN, esc, escs, Py.own, owns, asgTs, binF, SR.cr, backs, T.arg, isiF, slcF, wipe, putBackOwn, at0, at1, at2, at3, at4, fits, Nat.blt, Nat.succ_eq_add_one, bleC, q1, q2]
end K26
namespace K26
open Py
variable {exs : List PySem.Str}
/-! ### words of errors -/
/-- the word of a call that gives r -/
def wdc (exs : List PySem.Str) (k : Nat) (gs : Option (List Val)) (r : CR) : CR := (prg exs).call (k + 1) 65 [.clo gs] (some fun _ => r)
theorem word_of (k : Nat) (gs : Option (List Val)) (F : Clo) : (prg exs).call (k + 1) 65 [.clo gs] (some F) = wdc exs k gs (F gs) := by
  unfold wdc
  rw [u__law_word, u__law_word]
  simp [b__law_word, Py.Ss.ev, Py.S.ev, Py.E.ev, Py.Es.ev, Py.Es.bo, Py.It.ev, Oe.pt, Oe.cond, Py.Ss.as, Py.S.as, Tg.asg, fixOk, Py.R.bind, SR.bind, R.sr, R.map, truthR, rd, rds, plsOf, ndup, putBack, gt, st, truth, cmpF, eqF, fz, subF, items, ec_call, ec_clo, ec_np, ec_wl, ec_sub, Val.isD, biF, asgV, asgN, esc, escs, Py.own, owns, asgTs, binF, SR.cr, backs, T.arg, isiF, slcF, wipe, putBackOwn, at0, at1, at2, at3, at4, fits, Nat.blt, Nat.succ_eq_add_one, bleC]
theorem wd_n1 (k : Nat) : wdc exs k none (.ex ⟨1, []⟩ []) = .ok (.v (.str [99, 97, 108, 108, 101, 114])) [.cap none] := by kernel_rfl
theorem wd_n2 (k : Nat) : wdc exs k none (.ex ⟨2, []⟩ []) = .ok (.v (.str [99, 97, 108, 108, 101, 114, 115])) [.cap none] := by kernel_rfl
theorem wd_n3 (k : Nat) : wdc exs k none (.ex ⟨3, []⟩ []) = .ok (.v (.str [104, 111, 117, 115, 101])) [.cap none] := by kernel_rfl
theorem wd_n5 (k : Nat) : wdc exs k none (.ex ⟨5, []⟩ []) = .ok (.v (.str [116, 105, 109, 101])) [.cap none] := by kernel_rfl
theorem wd_n6 (k : Nat) : wdc exs k none (.ex ⟨6, [.int 20]⟩ []) = .ok (.v (.str [109, 97, 110, 121])) [.cap none] := by kernel_rfl
theorem wd_s1 (k : Nat) (l0 l : List Val) : wdc exs k (some l0) (.ex ⟨1, []⟩ [.vl l]) = .ok (.v (.str [99, 97, 108, 108, 101, 114])) [.cap (some l)] := by kernel_rfl
theorem wd_s2 (k : Nat) (l0 l : List Val) : wdc exs k (some l0) (.ex ⟨2, []⟩ [.vl l]) = .ok (.v (.str [99, 97, 108, 108, 101, 114, 115])) [.cap (some l)] := by kernel_rfl
theorem wd_s4 (k : Nat) (l0 l : List Val) : wdc exs k (some l0) (.ex ⟨4, []⟩ [.vl l]) = .ok (.v (.str [110, 117, 109, 98, 101, 114])) [.cap (some l)] := by kernel_rfl
theorem wd_s5 (k : Nat) (l0 l : List Val) : wdc exs k (some l0) (.ex ⟨5, []⟩ [.vl l]) = .ok (.v (.str [116, 105, 109, 101])) [.cap (some l)] := by kernel_rfl
/-! ### callers checked -/
/-- right, or not -/
structure CQ (f : Int) (q : Bool) (v : Val) : Prop where
  ok : OkV v
  tp : ∀ l, v = .tup l → (∀ x ∈ l, OkX x) ∧ CallQ f l = q
  nt : (∀ l, v ≠ .tup l) → q = false
theorem raw_q {j : Nat} (hj : 4 ≤ j) {f : Int} {cs l : List Val} {q : Bool} {v : Val} (h : CQ f q v) : (prg exs).call j 17 [.v (hsV f cs l), .v v] none = .ok (.v (.bool q)) [.v (hsV f cs l), .v v] := by
  cases v with
  | tup C =>
    obtain ⟨h1, h2⟩ := h.tp C rfl
    rw [← h2]
    exact raw_ok hj h1
  | _ =>
    rw [h.nt fun l => (nomatch ·)]
    exact raw_not hj h.ok fun l => (nomatch ·)
theorem lare_q {j : Nat} (hj : 3 ≤ j) {f : Int} {cs l : List Val} {q : Bool} {v : Val} (h : CQ f q v) : (prg exs).call j 67 [.v (hsV f cs l), .v v] none = .ok (.v (.bool q)) [.v (hsV f cs l), .v v] := by
  cases v with
  | tup C =>
    obtain ⟨h1, h2⟩ := h.tp C rfl
    rw [← h2]
    exact lare_ok hj h1
  | _ =>
    rw [h.nt fun l => (nomatch ·)]
    exact lare_not hj h.ok fun l => (nomatch ·)
theorem cq_of {f : Int} {v : Val} (h : OkT v) : ∃ q, CQ f q v := by
  cases v with
  | tup l => exact ⟨CallQ f l, h.1.1, fun l' e => by cases e; exact ⟨h.2 l rfl, rfl⟩, fun hn => absurd rfl (hn l)⟩
  | _ => exact ⟨false, h.1.1, fun l e => (nomatch e), fun _ => rfl⟩
theorem cl_cq {f t : Int} {C : List Val} (h : Cl f C t) (hl : C.length ≤ 20) : CQ f true (.tup C) := by
  refine ⟨trivial, fun l e => ?_, fun hn => absurd rfl (hn C)⟩
  cases e
  refine ⟨h.okx, ?_⟩
  unfold CallQ
  rw [decide_eq_true hl, h.all, h.so]; rfl
theorem bad_cq {f t : Int} {C : List Val} (f0 : 2 ≤ f) (h : Cl f C t) {v : Val} (hv : v ∈ [.none, .str [63], .tup [.none], .lst [.tup C], .tup [.tup [.int 3, .int 0, .int 1], .tup [.int 2, .int 0, .int 1]], .int 5]) : CQ f false v := by
  simp only [List.mem_cons, List.not_mem_nil, or_false] at hv
  rcases hv with rfl | rfl | rfl | rfl | rfl | rfl
  · exact ⟨trivial, fun l e => (nomatch e), fun _ => rfl⟩
  · exact ⟨trivial, fun l e => (nomatch e), fun _ => rfl⟩
  · refine ⟨trivial, fun l e => ?_, fun hn => absurd rfl (hn _)⟩
    cases e
    refine ⟨fun x hx => ?_, rfl⟩
    rw [List.mem_singleton.mp hx]
    exact ⟨trivial, fun a b c e => (nomatch e)⟩
  · exact ⟨trivial, fun l e => (nomatch e), fun _ => rfl⟩
  · refine ⟨trivial, fun l e => ?_, fun hn => absurd rfl (hn _)⟩
    cases e
    refine ⟨fun x hx => ?_, ?_⟩
    · simp only [List.mem_cons, List.not_mem_nil, or_false] at hx
      rcases hx with rfl | rfl <;> exact (okt_3 (okx_int _) (okx_int _) (okx_int _)).1
    · unfold CallQ
      rw [show srt [.tup [.int 3, .int 0, .int 1], .tup [.int 2, .int 0, .int 1]] = false from by decide]
      simp
  · exact ⟨trivial, fun l e => (nomatch e), fun _ => rfl⟩
section
variable {f : Int} {cs l : List Val} (hs : Hs f cs l) {j : Nat}
include hs
theorem cc_yes (hj : 12 ≤ j) {v : Val} (h : CQ f true v) : (prg exs).call j 19 [.v (hsV f cs l), .v v] none = .ok (.v .none) [.v (hsV f cs l), .v v] := by
  obtain ⟨k, rfl⟩ := Nat.exists_eq_add_of_le' hj
  have e1 := chk_yes (exs := exs) (j := k + 11) (by omega) hs
  have e2 := raw_q (exs := exs) (j := k + 11) (by omega) (cs := cs) (l := l) h
  rw [show k + 12 = (k + 11) + 1 from rfl, u_check_callers]
  simp [b_check_callers, Py.Ss.ev, Py.S.ev, Py.E.ev, Py.Es.ev, Py.Es.bo, Py.It.ev, Oe.pt, Oe.cond, Py.Ss.as, Py.S.as, Tg.asg, fixOk, Py.R.bind, SR.bind, R.sr, R.map, truthR, rd, rds, plsOf, ndup, putBack, gt, st, truth, cmpF, eqF, fz, subF, items, ec_call, ec_clo, ec_np, ec_wl, ec_sub, Val.isD, biF, asgV, asgN, esc, escs, Py.own, owns, asgTs, binF, SR.cr, backs, T.arg, isiF, slcF, wipe, putBackOwn, at0, at1, at2, at3, at4, fits, Nat.blt, Nat.succ_eq_add_one, bleC, e1, e2]
theorem cc_no (hj : 12 ≤ j) {v : Val} (h : CQ f false v) : (prg exs).call j 19 [.v (hsV f cs l), .v v] none = .ex ⟨2, []⟩ [.v (hsV f cs l), .v v] := by
  obtain ⟨k, rfl⟩ := Nat.exists_eq_add_of_le' hj
  have e1 := chk_yes (exs := exs) (j := k + 11) (by omega) hs
  have e2 := raw_q (exs := exs) (j := k + 11) (by omega) (cs := cs) (l := l) h
  rw [show k + 12 = (k + 11) + 1 from rfl, u_check_callers]
  simp [b_check_callers, Py.Ss.ev, Py.S.ev, Py.E.ev, Py.Es.ev, Py.Es.bo, Py.It.ev, Oe.pt, Oe.cond, Py.Ss.as, Py.S.as, Tg.asg, fixOk, Py.R.bind, SR.bind, R.sr, R.map, truthR, rd, rds, plsOf, ndup, putBack, gt, st, truth, cmpF, eqF, fz, subF, items, ec_call, ec_clo, ec_np, ec_wl, ec_sub, Val.isD, biF, asgV, asgN, esc, escs, Py.own, owns, asgTs, binF, SR.cr, backs, T.arg, isiF, slcF, wipe, putBackOwn, at0, at1, at2, at3, at4, fits, Nat.blt, Nat.succ_eq_add_one, bleC, e1, e2]
theorem is_q (hj : 12 ≤ j) {q : Bool} {v : Val} (h : CQ f q v) : (prg exs).call j 18 [.v (hsV f cs l), .v v] none = .ok (.v (.bool q)) [.v (hsV f cs l), .v v] := by
  obtain ⟨k, rfl⟩ := Nat.exists_eq_add_of_le' hj
  have e1 := chk_yes (exs := exs) (j := k + 11) (by omega) hs
  have e2 := raw_q (exs := exs) (j := k + 11) (by omega) (cs := cs) (l := l) h
  rw [show k + 12 = (k + 11) + 1 from rfl, u_is_callers]
  simp [b_is_callers, Py.Ss.ev, Py.S.ev, Py.E.ev, Py.Es.ev, Py.Es.bo, Py.It.ev, Oe.pt, Oe.cond, Py.Ss.as, Py.S.as, Tg.asg, fixOk, Py.R.bind, SR.bind, R.sr, R.map, truthR, rd, rds, plsOf, ndup, putBack, gt, st, truth, cmpF, eqF, fz, subF, items, ec_call, ec_clo, ec_np, ec_wl, ec_sub, Val.isD, biF, asgV, asgN, esc, escs, Py.own, owns, asgTs, binF, SR.cr, backs, T.arg, isiF, slcF, wipe, putBackOwn, at0, at1, at2, at3, at4, fits, Nat.blt, Nat.succ_eq_add_one, bleC, e1, e2]
end
theorem cc_noh {j : Nat} (hj : 12 ≤ j) {v b : Val} (h : NoH v) : (prg exs).call j 19 [.v v, .v b] none = .ex ⟨3, []⟩ [.v v, .v b] := by
  obtain ⟨k, rfl⟩ := Nat.exists_eq_add_of_le' hj
  have e1 := chk_no (exs := exs) (j := k + 11) (by omega) h
  rw [show k + 12 = (k + 11) + 1 from rfl, u_check_callers]
  simp [b_check_callers, Py.Ss.ev, Py.S.ev, Py.E.ev, Py.Es.ev, Py.Es.bo, Py.It.ev, Oe.pt, Oe.cond, Py.Ss.as, Py.S.as, Tg.asg, fixOk, Py.R.bind, SR.bind, R.sr, R.map, truthR, rd, rds, plsOf, ndup, putBack, gt, st, truth, cmpF, eqF, fz, subF, items, ec_call, ec_clo, ec_np, ec_wl, ec_sub, Val.isD, biF, asgV, asgN, esc, escs, Py.own, owns, asgTs, binF, SR.cr, backs, T.arg, isiF, slcF, wipe, putBackOwn, at0, at1, at2, at3, at4, fits, Nat.blt, Nat.succ_eq_add_one, bleC, e1]
/-- no time -/
def NoT (v : Val) : Prop := OkV v ∧ Wn v 0 400 = false
theorem ct_no {j : Nat} (hj : 3 ≤ j) {o : Val} (h : NoT o) : (prg exs).call j 25 [.v o] none = .ex ⟨5, []⟩ [.v o] := by
  obtain ⟨k, rfl⟩ := Nat.exists_eq_add_of_le' hj
  have e1 := within_ok (exs := exs) (j := k + 2) (by omega) h.1 0 400
  rw [h.2] at e1
  rw [show k + 3 = (k + 2) + 1 from rfl, u_check_time]
  simp [b_check_time, Py.Ss.ev, Py.S.ev, Py.E.ev, Py.Es.ev, Py.Es.bo, Py.It.ev, Oe.pt, Oe.cond, Py.Ss.as, Py.S.as, Tg.asg, fixOk, Py.R.bind, SR.bind, R.sr, R.map, truthR, rd, rds, plsOf, ndup, putBack, gt, st, truth, cmpF, eqF, fz, subF, items, ec_call, ec_clo, ec_np, ec_wl, ec_sub, Val.isD, biF, asgV, asgN, esc, escs, Py.own, owns, asgTs, binF, SR.cr, backs, T.arg, isiF, slcF, wipe, putBackOwn, at0, at1, at2, at3, at4, fits, Nat.blt, Nat.succ_eq_add_one, bleC, e1, v_MOST_TICKS, g_MOST_TICKS]
theorem odd_mem {v : Val} (h : v ∈ [.int (-1), .none, .bool true, .str [63], .int 401, .tup [.int 0]]) : NoT v := by
  simp only [List.mem_cons, List.not_mem_nil, or_false] at h
  rcases h with rfl | rfl | rfl | rfl | rfl | rfl <;> exact ⟨trivial, by rfl⟩
/-! ### what is refused -/
section
variable {f : Int} {cs l : List Val} {j : Nat} {v b o : Val}
theorem r_carriers (hj : 13 ≤ j) {c : Nat} (e : ∀ i, 12 ≤ i → (prg exs).call i 19 [.v v, .v b] none = .ex ⟨c, []⟩ [.v v, .v b]) : (prg exs).call j 23 [.v v, .v b] none = .ex ⟨c, []⟩ [.v v, .v b] := by
  obtain ⟨k, rfl⟩ := Nat.exists_eq_add_of_le' hj
  have e := e (k + 12) (by omega)
  rw [show k + 13 = (k + 12) + 1 from rfl, u_carriers]
  simp [b_carriers, Py.Ss.ev, Py.S.ev, Py.E.ev, Py.Es.ev, Py.Es.bo, Py.It.ev, Oe.pt, Oe.cond, Py.Ss.as, Py.S.as, Tg.asg, fixOk, Py.R.bind, SR.bind, R.sr, R.map, truthR, rd, rds, plsOf, ndup, putBack, gt, st, truth, cmpF, eqF, fz, subF, items, ec_call, ec_clo, ec_np, ec_wl, ec_sub, Val.isD, biF, asgV, asgN, esc, escs, Py.own, owns, asgTs, binF, SR.cr, backs, T.arg, isiF, slcF, wipe, putBackOwn, at0, at1, at2, at3, at4, fits, Nat.blt, Nat.succ_eq_add_one, bleC, e]
theorem r_stranded (hj : 13 ≤ j) {c : Nat} (e : ∀ i, 12 ≤ i → (prg exs).call i 19 [.v v, .v b] none = .ex ⟨c, []⟩ [.v v, .v b]) : (prg exs).call j 24 [.v v, .v b] none = .ex ⟨c, []⟩ [.v v, .v b] := by
  obtain ⟨k, rfl⟩ := Nat.exists_eq_add_of_le' hj
  have e := e (k + 12) (by omega)
  rw [show k + 13 = (k + 12) + 1 from rfl, u_stranded]
  simp [b_stranded, Py.Ss.ev, Py.S.ev, Py.E.ev, Py.Es.ev, Py.Es.bo, Py.It.ev, Oe.pt, Oe.cond, Py.Ss.as, Py.S.as, Tg.asg, fixOk, Py.R.bind, SR.bind, R.sr, R.map, truthR, rd, rds, plsOf, ndup, putBack, gt, st, truth, cmpF, eqF, fz, subF, items, ec_call, ec_clo, ec_np, ec_wl, ec_sub, Val.isD, biF, asgV, asgN, esc, escs, Py.own, owns, asgTs, binF, SR.cr, backs, T.arg, isiF, slcF, wipe, putBackOwn, at0, at1, at2, at3, at4, fits, Nat.blt, Nat.succ_eq_add_one, bleC, e]
theorem r_coming (hj : 13 ≤ j) {c : Nat} (e : ∀ i, 12 ≤ i → (prg exs).call i 19 [.v v, .v b] none = .ex ⟨c, []⟩ [.v v, .v b]) : (prg exs).call j 26 [.v v, .v b, .v o] none = .ex ⟨c, []⟩ [.v v, .v b, .v o] := by
  obtain ⟨k, rfl⟩ := Nat.exists_eq_add_of_le' hj
  have e := e (k + 12) (by omega)
  rw [show k + 13 = (k + 12) + 1 from rfl, u_coming]
  simp [b_coming, Py.Ss.ev, Py.S.ev, Py.E.ev, Py.Es.ev, Py.Es.bo, Py.It.ev, Oe.pt, Oe.cond, Py.Ss.as, Py.S.as, Tg.asg, fixOk, Py.R.bind, SR.bind, R.sr, R.map, truthR, rd, rds, plsOf, ndup, putBack, gt, st, truth, cmpF, eqF, fz, subF, items, ec_call, ec_clo, ec_np, ec_wl, ec_sub, Val.isD, biF, asgV, asgN, esc, escs, Py.own, owns, asgTs, binF, SR.cr, backs, T.arg, isiF, slcF, wipe, putBackOwn, at0, at1, at2, at3, at4, fits, Nat.blt, Nat.succ_eq_add_one, bleC, e]
theorem r_coming_t (hj : 13 ≤ j) (ho : NoT o) (e : ∀ i, 12 ≤ i → (prg exs).call i 19 [.v v, .v b] none = .ok (.v .none) [.v v, .v b]) : (prg exs).call j 26 [.v v, .v b, .v o] none = .ex ⟨5, []⟩ [.v v, .v b, .v o] := by
  obtain ⟨k, rfl⟩ := Nat.exists_eq_add_of_le' hj
  have e := e (k + 12) (by omega)
  have e2 := ct_no (exs := exs) (j := k + 12) (by omega) ho
  rw [show k + 13 = (k + 12) + 1 from rfl, u_coming]
  simp [b_coming, Py.Ss.ev, Py.S.ev, Py.E.ev, Py.Es.ev, Py.Es.bo, Py.It.ev, Oe.pt, Oe.cond, Py.Ss.as, Py.S.as, Tg.asg, fixOk, Py.R.bind, SR.bind, R.sr, R.map, truthR, rd, rds, plsOf, ndup, putBack, gt, st, truth, cmpF, eqF, fz, subF, items, ec_call, ec_clo, ec_np, ec_wl, ec_sub, Val.isD, biF, asgV, asgN, esc, escs, Py.own, owns, asgTs, binF, SR.cr, backs, T.arg, isiF, slcF, wipe, putBackOwn, at0, at1, at2, at3, at4, fits, Nat.blt, Nat.succ_eq_add_one, bleC, e, e2]
theorem r_text (hj : 13 ≤ j) {c : Nat} (e : ∀ i, 12 ≤ i → (prg exs).call i 19 [.v v, .v b] none = .ex ⟨c, []⟩ [.v v, .v b]) : (prg exs).call j 20 [.v v, .v b] none = .ex ⟨c, []⟩ [.v v, .v b] := by
  obtain ⟨k, rfl⟩ := Nat.exists_eq_add_of_le' hj
  have e := e (k + 12) (by omega)
  rw [show k + 13 = (k + 12) + 1 from rfl, u_callers_text]
  simp [b_callers_text, Py.Ss.ev, Py.S.ev, Py.E.ev, Py.Es.ev, Py.Es.bo, Py.It.ev, Oe.pt, Oe.cond, Py.Ss.as, Py.S.as, Tg.asg, fixOk, Py.R.bind, SR.bind, R.sr, R.map, truthR, rd, rds, plsOf, ndup, putBack, gt, st, truth, cmpF, eqF, fz, subF, items, ec_call, ec_clo, ec_np, ec_wl, ec_sub, Val.isD, biF, asgV, asgN, esc, escs, Py.own, owns, asgTs, binF, SR.cr, backs, T.arg, isiF, slcF, wipe, putBackOwn, at0, at1, at2, at3, at4, fits, Nat.blt, Nat.succ_eq_add_one, bleC, e]
theorem r_put (hj : 13 ≤ j) {c : Nat} (e : ∀ i, 12 ≤ i → (prg exs).call i 19 [.v v, .v b] none = .ex ⟨c, []⟩ [.v v, .v b]) : (prg exs).call j 27 [.v v, .v b, .v o] none = .ex ⟨c, []⟩ [.v v, .v b, .v o] := by
  obtain ⟨k, rfl⟩ := Nat.exists_eq_add_of_le' hj
  have e := e (k + 12) (by omega)
  rw [show k + 13 = (k + 12) + 1 from rfl, u_put_in]
  simp [b_put_in, Py.Ss.ev, Py.S.ev, Py.E.ev, Py.Es.ev, Py.Es.bo, Py.It.ev, Oe.pt, Oe.cond, Py.Ss.as, Py.S.as, Tg.asg, fixOk, Py.R.bind, SR.bind, R.sr, R.map, truthR, rd, rds, plsOf, ndup, putBack, gt, st, truth, cmpF, eqF, fz, subF, items, ec_call, ec_clo, ec_np, ec_wl, ec_sub, Val.isD, biF, asgV, asgN, esc, escs, Py.own, owns, asgTs, binF, SR.cr, backs, T.arg, isiF, slcF, wipe, putBackOwn, at0, at1, at2, at3, at4, fits, Nat.blt, Nat.succ_eq_add_one, bleC, e]
theorem r_put_c (hj : 13 ≤ j) (ho : NoC f o) (e : ∀ i, 12 ≤ i → (prg exs).call i 19 [.v (hsV f cs l), .v b] none = .ok (.v .none) [.v (hsV f cs l), .v b]) : (prg exs).call j 27 [.v (hsV f cs l), .v b, .v o] none = .ex ⟨1, []⟩ [.v (hsV f cs l), .v b, .v o] := by
  obtain ⟨k, rfl⟩ := Nat.exists_eq_add_of_le' hj
  have e := e (k + 12) (by omega)
  have e2 := iscal_ok (exs := exs) (j := k + 12) (by omega) (f := f) (cs := cs) (l := l) ho.ok.1
  rw [ho.no] at e2
  rw [show k + 13 = (k + 12) + 1 from rfl, u_put_in]
  simp [b_put_in, Py.Ss.ev, Py.S.ev, Py.E.ev, Py.Es.ev, Py.Es.bo, Py.It.ev, Oe.pt, Oe.cond, Py.Ss.as, Py.S.as, Tg.asg, fixOk, Py.R.bind, SR.bind, R.sr, R.map, truthR, rd, rds, plsOf, ndup, putBack, gt, st, truth, cmpF, eqF, fz, subF, items, ec_call, ec_clo, ec_np, ec_wl, ec_sub, Val.isD, biF, asgV, asgN, esc, escs, Py.own, owns, asgTs, binF, SR.cr, backs, T.arg, isiF, slcF, wipe, putBackOwn, at0, at1, at2, at3, at4, fits, Nat.blt, Nat.succ_eq_add_one, bleC, e, e2]
def oneV : Val := .tup [.int 0, .int 0, .int 1]
def fullL : List Val := [oneV, oneV, oneV, oneV, oneV, oneV, oneV, oneV, oneV, oneV, oneV, oneV, oneV, oneV, oneV, oneV, oneV, oneV, oneV, oneV]
theorem one_okx : OkX oneV := (okt_3 (okx_int _) (okx_int _) (okx_int _)).1
theorem one_cal (f0 : 2 ≤ f) : CalV f oneV = true := cal_of (by omega) (by omega) (by omega) (by omega)
theorem full_cq (f0 : 2 ≤ f) : CQ f true (.tup fullL) := by
  refine ⟨trivial, fun l e => ?_, fun hn => absurd rfl (hn _)⟩
  cases e
  have hm : ∀ x ∈ fullL, x = oneV := fun x hx => by
    simp only [fullL, List.mem_cons, List.not_mem_nil, or_false, or_self] at hx
    exact hx
  refine ⟨fun x hx => by rw [hm x hx]; exact one_okx, ?_⟩
  unfold CallQ
  rw [show srt fullL = true from by decide, List.all_eq_true.mpr fun x hx => by rw [hm x hx]; exact one_cal f0]
  rfl
theorem r_put_m (hj : 13 ≤ j) (hs : Hs f cs l) : (prg exs).call j 27 [.v (hsV f cs l), .v (.tup fullL), .v oneV] none = .ex ⟨6, [.int 20]⟩ [.v (hsV f cs l), .v (.tup fullL), .v oneV] := by
  obtain ⟨k, rfl⟩ := Nat.exists_eq_add_of_le' hj
  have e := cc_yes (exs := exs) hs (j := k + 12) (by omega) (full_cq hs.f0)
  have e2 := iscal_ok (exs := exs) (j := k + 12) (by omega) (f := f) (cs := cs) (l := l) one_okx
  rw [one_cal hs.f0] at e2
  have hlen : biF .len (.v (.tup fullL)) = some (.v (.int 20)) := rfl
  rw [show k + 13 = (k + 12) + 1 from rfl, u_put_in]
  simp [b_put_in, Py.Ss.ev, Py.S.ev, Py.E.ev, Py.Es.ev, Py.Es.bo, Py.It.ev, Oe.pt, Oe.cond, Py.Ss.as, Py.S.as, Tg.asg, fixOk, Py.R.bind, SR.bind, R.sr, R.map, truthR, rd, rds, plsOf, ndup, putBack, gt, st, truth, cmpF, eqF, fz, subF, items, ec_call, ec_clo, ec_np, ec_wl, ec_sub, Val.isD, asgV, asgN, esc, escs, Py.own, owns, asgTs, binF, SR.cr, backs, T.arg, isiF, slcF, wipe, putBackOwn, at0, at1, at2, at3, at4, fits, Nat.blt, Nat.succ_eq_add_one, bleC, e, e2, hlen, v_MOST_CALLERS, g_MOST_CALLERS, dat, eqv]
theorem r_out (hj : 13 ≤ j) {C : List Val} {x : Val} (hx : OkV x ∧ Wn x 0 ((C.length : Int) - 1) = false) (e : ∀ i, 12 ≤ i → (prg exs).call i 19 [.v (hsV f cs l), .v (.tup C)] none = .ok (.v .none) [.v (hsV f cs l), .v (.tup C)]) :
    (prg exs).call j 28 [.v (hsV f cs l), .v (.tup C), .v x] none = .ex ⟨4, []⟩ [.v (hsV f cs l), .v (.tup C), .v x] := by
  obtain ⟨k, rfl⟩ := Nat.exists_eq_add_of_le' hj
  have e := e (k + 12) (by omega)
  have e2 := within_ok (exs := exs) (j := k + 12) (by omega) hx.1 0 ((C.length : Int) - 1)
  rw [hx.2] at e2
  rw [show k + 13 = (k + 12) + 1 from rfl, u_taken_out]
  simp [b_taken_out, Py.Ss.ev, Py.S.ev, Py.E.ev, Py.Es.ev, Py.Es.bo, Py.It.ev, Oe.pt, Oe.cond, Py.Ss.as, Py.S.as, Tg.asg, fixOk, Py.R.bind, SR.bind, R.sr, R.map, truthR, rd, rds, plsOf, ndup, putBack, gt, st, truth, cmpF, eqF, fz, subF, items, ec_call, ec_clo, ec_np, ec_wl, ec_sub, Val.isD, biF, asgV, asgN, esc, escs, Py.own, owns, asgTs, binF, SR.cr, backs, T.arg, isiF, slcF, wipe, putBackOwn, at0, at1, at2, at3, at4, fits, Nat.blt, Nat.succ_eq_add_one, bleC, e, e2]
theorem r_off (hj : 13 ≤ j) {x : Val} (hx : OkV x ∧ Wn x 0 200 = false) (e : ∀ i, 12 ≤ i → (prg exs).call i 19 [.v v, .v b] none = .ok (.v .none) [.v v, .v b]) :
    (prg exs).call j 29 [.v v, .v b, .v x] none = .ex ⟨5, []⟩ [.v v, .v b, .v x] := by
  obtain ⟨k, rfl⟩ := Nat.exists_eq_add_of_le' hj
  have e := e (k + 12) (by omega)
  have e2 := within_ok (exs := exs) (j := k + 12) (by omega) hx.1 0 200
  rw [hx.2] at e2
  rw [show k + 13 = (k + 12) + 1 from rfl, u_put_off]
  simp [b_put_off, Py.Ss.ev, Py.S.ev, Py.E.ev, Py.Es.ev, Py.Es.bo, Py.It.ev, Oe.pt, Oe.cond, Py.Ss.as, Py.S.as, Tg.asg, fixOk, Py.R.bind, SR.bind, R.sr, R.map, truthR, rd, rds, plsOf, ndup, putBack, gt, st, truth, cmpF, eqF, fz, subF, items, ec_call, ec_clo, ec_np, ec_wl, ec_sub, Val.isD, biF, asgV, asgN, esc, escs, Py.own, owns, asgTs, binF, SR.cr, backs, T.arg, isiF, slcF, wipe, putBackOwn, at0, at1, at2, at3, at4, fits, Nat.blt, Nat.succ_eq_add_one, bleC, e, e2, v_MOST_TIME, g_MOST_TIME]
theorem r_least (hj : 13 ≤ j) {c : Nat} (e : ∀ i, 12 ≤ i → (prg exs).call i 19 [.v v, .v b] none = .ex ⟨c, []⟩ [.v v, .v b]) : (prg exs).call j 30 [.v v, .v b] none = .ex ⟨c, []⟩ [.v v, .v b] := by
  obtain ⟨k, rfl⟩ := Nat.exists_eq_add_of_le' hj
  have e := e (k + 12) (by omega)
  rw [show k + 13 = (k + 12) + 1 from rfl, u_least_time]
  simp [b_least_time, Py.Ss.ev, Py.S.ev, Py.E.ev, Py.Es.ev, Py.Es.bo, Py.It.ev, Oe.pt, Oe.cond, Py.Ss.as, Py.S.as, Tg.asg, fixOk, Py.R.bind, SR.bind, R.sr, R.map, truthR, rd, rds, plsOf, ndup, putBack, gt, st, truth, cmpF, eqF, fz, subF, items, ec_call, ec_clo, ec_np, ec_wl, ec_sub, Val.isD, biF, asgV, asgN, esc, escs, Py.own, owns, asgTs, binF, SR.cr, backs, T.arg, isiF, slcF, wipe, putBackOwn, at0, at1, at2, at3, at4, fits, Nat.blt, Nat.succ_eq_add_one, bleC, e]
theorem r_run (hj : 13 ≤ j) {c : Nat} (e : ∀ i, 12 ≤ i → (prg exs).call i 19 [.v v, .v b] none = .ex ⟨c, []⟩ [.v v, .v b]) : (prg exs).call j 50 [.v v, .v b, .v o] none = .ex ⟨c, []⟩ [.v v, .v b, .v o] := by
  obtain ⟨k, rfl⟩ := Nat.exists_eq_add_of_le' hj
  have e := e (k + 12) (by omega)
  rw [show k + 13 = (k + 12) + 1 from rfl, u_check_run]
  simp [b_check_run, Py.Ss.ev, Py.S.ev, Py.E.ev, Py.Es.ev, Py.Es.bo, Py.It.ev, Oe.pt, Oe.cond, Py.Ss.as, Py.S.as, Tg.asg, fixOk, Py.R.bind, SR.bind, R.sr, R.map, truthR, rd, rds, plsOf, ndup, putBack, gt, st, truth, cmpF, eqF, fz, subF, items, ec_call, ec_clo, ec_np, ec_wl, ec_sub, Val.isD, biF, asgV, asgN, esc, escs, Py.own, owns, asgTs, binF, SR.cr, backs, T.arg, isiF, slcF, wipe, putBackOwn, at0, at1, at2, at3, at4, fits, Nat.blt, Nat.succ_eq_add_one, bleC, e]
theorem r_run_t (hj : 13 ≤ j) (ho : NoT o) (e : ∀ i, 12 ≤ i → (prg exs).call i 19 [.v v, .v b] none = .ok (.v .none) [.v v, .v b]) : (prg exs).call j 50 [.v v, .v b, .v o] none = .ex ⟨5, []⟩ [.v v, .v b, .v o] := by
  obtain ⟨k, rfl⟩ := Nat.exists_eq_add_of_le' hj
  have e := e (k + 12) (by omega)
  have e2 := ct_no (exs := exs) (j := k + 12) (by omega) ho
  rw [show k + 13 = (k + 12) + 1 from rfl, u_check_run]
  simp [b_check_run, Py.Ss.ev, Py.S.ev, Py.E.ev, Py.Es.ev, Py.Es.bo, Py.It.ev, Oe.pt, Oe.cond, Py.Ss.as, Py.S.as, Tg.asg, fixOk, Py.R.bind, SR.bind, R.sr, R.map, truthR, rd, rds, plsOf, ndup, putBack, gt, st, truth, cmpF, eqF, fz, subF, items, ec_call, ec_clo, ec_np, ec_wl, ec_sub, Val.isD, biF, asgV, asgN, esc, escs, Py.own, owns, asgTs, binF, SR.cr, backs, T.arg, isiF, slcF, wipe, putBackOwn, at0, at1, at2, at3, at4, fits, Nat.blt, Nat.succ_eq_add_one, bleC, e, e2]
theorem r_state (hj : 14 ≤ j) {c : Nat} (e : ∀ i, 13 ≤ i → (prg exs).call i 50 [.v v, .v b, .v o] none = .ex ⟨c, []⟩ [.v v, .v b, .v o]) : (prg exs).call j 51 [.v v, .v b, .v o] none = .ex ⟨c, []⟩ [.v v, .v b, .v o] := by
  obtain ⟨k, rfl⟩ := Nat.exists_eq_add_of_le' hj
  have e := e (k + 13) (by omega)
  rw [show k + 14 = (k + 13) + 1 from rfl, u_state_at]
  simp [b_state_at, Py.Ss.ev, Py.S.ev, Py.E.ev, Py.Es.ev, Py.Es.bo, Py.It.ev, Oe.pt, Oe.cond, Py.Ss.as, Py.S.as, Tg.asg, fixOk, Py.R.bind, SR.bind, R.sr, R.map, truthR, rd, rds, plsOf, ndup, putBack, gt, st, truth, cmpF, eqF, fz, subF, items, ec_call, ec_clo, ec_np, ec_wl, ec_sub, Val.isD, biF, asgV, asgN, esc, escs, Py.own, owns, asgTs, binF, SR.cr, backs, T.arg, isiF, slcF, wipe, putBackOwn, at0, at1, at2, at3, at4, fits, Nat.blt, Nat.succ_eq_add_one, bleC, e]
theorem r_happ (hj : 14 ≤ j) {c : Nat} (e : ∀ i, 13 ≤ i → (prg exs).call i 50 [.v v, .v b, .v o] none = .ex ⟨c, []⟩ [.v v, .v b, .v o]) : (prg exs).call j 52 [.v v, .v b, .v o] none = .ex ⟨c, []⟩ [.v v, .v b, .v o] := by
  obtain ⟨k, rfl⟩ := Nat.exists_eq_add_of_le' hj
  have e := e (k + 13) (by omega)
  rw [show k + 14 = (k + 13) + 1 from rfl, u_happenings]
  simp [b_happenings, Py.Ss.ev, Py.S.ev, Py.E.ev, Py.Es.ev, Py.Es.bo, Py.It.ev, Oe.pt, Oe.cond, Py.Ss.as, Py.S.as, Tg.asg, fixOk, Py.R.bind, SR.bind, R.sr, R.map, truthR, rd, rds, plsOf, ndup, putBack, gt, st, truth, cmpF, eqF, fz, subF, items, ec_call, ec_clo, ec_np, ec_wl, ec_sub, Val.isD, biF, asgV, asgN, esc, escs, Py.own, owns, asgTs, binF, SR.cr, backs, T.arg, isiF, slcF, wipe, putBackOwn, at0, at1, at2, at3, at4, fits, Nat.blt, Nat.succ_eq_add_one, bleC, e]
theorem r_jour (hj : 14 ≤ j) {c : Nat} (e : ∀ i, 13 ≤ i → (prg exs).call i 50 [.v v, .v b, .v o] none = .ex ⟨c, []⟩ [.v v, .v b, .v o]) : (prg exs).call j 54 [.v v, .v b, .v o] none = .ex ⟨c, []⟩ [.v v, .v b, .v o] := by
  obtain ⟨k, rfl⟩ := Nat.exists_eq_add_of_le' hj
  have e := e (k + 13) (by omega)
  rw [show k + 14 = (k + 13) + 1 from rfl, u_journeys]
  simp [b_journeys, Py.Ss.ev, Py.S.ev, Py.E.ev, Py.Es.ev, Py.Es.bo, Py.It.ev, Oe.pt, Oe.cond, Py.Ss.as, Py.S.as, Tg.asg, fixOk, Py.R.bind, SR.bind, R.sr, R.map, truthR, rd, rds, plsOf, ndup, putBack, gt, st, truth, cmpF, eqF, fz, subF, items, ec_call, ec_clo, ec_np, ec_wl, ec_sub, Val.isD, biF, asgV, asgN, esc, escs, Py.own, owns, asgTs, binF, SR.cr, backs, T.arg, isiF, slcF, wipe, putBackOwn, at0, at1, at2, at3, at4, fits, Nat.blt, Nat.succ_eq_add_one, bleC, e]
end
end K26
namespace K26
open Py
variable {exs : List PySem.Str}
theorem c23 (a b c : Val) : cutL [a, b, c] none (some 2) = [a, b] := rfl
theorem wn_len {n : Nat} : Wn (.int n) 0 ((n : Int) - 1) = false := by
  show (decide ((0 : Int) ≤ (n : Int)) && decide ((n : Int) ≤ (n : Int) - 1)) = false
  rw [Bool.and_eq_false_iff, decide_eq_false_iff_not, decide_eq_false_iff_not]; omega
theorem wn_neg {m : Int} : Wn (.int (-1)) 0 m = false := by
  show (decide ((0 : Int) ≤ -1) && decide ((-1 : Int) ≤ m)) = false
  rfl
theorem num_mem {n : Nat} {v : Val} (h : v ∈ [.int (-1), .int (n : Int), .none, .bool true, .str [63]]) : OkV v ∧ Wn v 0 ((n : Int) - 1) = false := by
  simp only [List.mem_cons, List.not_mem_nil, or_false] at h
  rcases h with rfl | rfl | rfl | rfl | rfl
  · exact ⟨trivial, wn_neg⟩
  · exact ⟨trivial, wn_len⟩
  · exact ⟨trivial, rfl⟩
  · exact ⟨trivial, rfl⟩
  · exact ⟨trivial, rfl⟩
theorem by_mem {v : Val} (h : v ∈ [.int (-1), .int 201, .none, .bool true, .str [63]]) : OkV v ∧ Wn v 0 200 = false := by
  simp only [List.mem_cons, List.not_mem_nil, or_false] at h
  rcases h with rfl | rfl | rfl | rfl | rfl <;> exact ⟨trivial, by rfl⟩
/-! ### a lambda's word -/
def wCaller : Val := .str [99, 97, 108, 108, 101, 114]
def wCallers : Val := .str [99, 97, 108, 108, 101, 114, 115]
def wHouse : Val := .str [104, 111, 117, 115, 101]
def wNumber : Val := .str [110, 117, 109, 98, 101, 114]
def wTime : Val := .str [116, 105, 109, 101]
def wMany : Val := .str [109, 97, 110, 121]
section
variable {k np : Nat} {c : Option Clo} {b : E} {env : Env} {x : Exc} {w : Val}
/-- a lambda that captures no list -/
theorem lam_n (hw : wdc exs k none (.ex x []) = .ok (.v w) [.cap none]) (hb : ∃ e1, b.ev ((prg exs).ec ((prg exs).call (k + 1)) np c) (shut env) = .ex x e1) :
    (E.lam 65 none b).ev ((prg exs).ec ((prg exs).call (k + 1)) np c) env = .ok (.t (.v w)) env := by
  obtain ⟨e1, hb⟩ := hb
  have e := word_of (exs := exs) k none (cloE none env fun env => (b.ev ((prg exs).ec ((prg exs).call (k + 1)) np c) env).bind fun o env => esc env o)
  have e2 : cloE none env (fun env => (b.ev ((prg exs).ec ((prg exs).call (k + 1)) np c) env).bind fun o env => esc env o) none = .ex x [] := by
    show cloR none _ = _
    dsimp only
    rw [hb]; rfl
  rw [e2, hw] at e
  simp only [Py.E.ev, gsOf, ec_call, e]
/-- one that captures the hand -/
theorem lam_s {h h' : List Val} (hg : gt env 0 = some (.vl h)) (hw : wdc exs k (some h) (.ex x [.vl h']) = .ok (.v w) [.cap (some h')]) (hb : ∃ e1, gt e1 0 = some (.vl h') ∧ b.ev ((prg exs).ec ((prg exs).call (k + 1)) np c) (st (shut env) 0 (some (.vl h))) = .ex x e1) :
    (E.lam 65 (some 0) b).ev ((prg exs).ec ((prg exs).call (k + 1)) np c) env = .ok (.t (.v w)) (st env 0 (some (.vl h'))) := by
  obtain ⟨e1, hg1, hb⟩ := hb
  have e := word_of (exs := exs) k (some h) (cloE (some 0) env fun env => (b.ev ((prg exs).ec ((prg exs).call (k + 1)) np c) env).bind fun o env => esc env o)
  have e2 : cloE (some 0) env (fun env => (b.ev ((prg exs).ec ((prg exs).call (k + 1)) np c) env).bind fun o env => esc env o) (some h) = .ex x [.vl h'] := by
    show cloR (some 0) _ = _
    dsimp only
    rw [hb]
    show (match outG (some 0) e1 with | some as => CR.ex x as | none => .no) = _
    have ho : outG (some 0) e1 = some [.vl h'] := by
      unfold outG
      dsimp only
      rw [hg1]
    rw [ho]
  rw [e2, hw] at e
  simp only [Py.E.ev, gsOf, hg, ec_call, e, capL]
/-- words.append(..) -/
theorem app_w {cx : EC} {e : E} {env env' : Env} {v : Val} {A : List Val} {B : List Val} (g0 : gt env 8 = some (.vl B)) (he : e.ev cx env = .ok (.t (.v v)) env') (g1 : gt env' 8 = some (.vl A)) (hA : A.length ≤ 1000) :
    (S.app 8 e).ev cx env = .nx (st env' 8 (some (.vl (A ++ [v])))) := by
  have hb : Nat.blt A.length 16777216 = true := by
    unfold Nat.blt
    exact Nat.ble_eq_true_of_le (by omega)
  simp only [Py.S.ev, g0, he, Py.R.bind, esc, fz, R.sr, g1, hb]
theorem ss_nx {cx : EC} {s : S} {r : Ss} {env env' : Env} (h : s.ev cx env = .nx env') : (Ss.cons s r).ev cx env = r.ev cx env' := by
  simp only [Py.Ss.ev, h, SR.bind]
end
end K26
namespace K26
open Py
variable {exs : List PySem.Str}
/-! ### _law_are_refused, statement by statement -/
def en (h : List Val) (HV CV no bad odd : Val) (A : List Val) : Env := [some (.vl h), some (.v HV), some (.v CV), some (.v no), some (.v bad), some (.v odd), some (.v (.tup fullL)), some (.v oneV), some (.vl A), none]
def sh (HV CV no bad odd : Val) : Env := [none, some (.v HV), some (.v CV), some (.v no), some (.v bad), some (.v odd), some (.v (.tup fullL)), some (.v oneV), none, none]
def shC (h : List Val) (HV CV no bad odd : Val) : Env := [some (.vl h), some (.v HV), some (.v CV), some (.v no), some (.v bad), some (.v odd), some (.v (.tup fullL)), some (.v oneV), none, none]
theorem asg1 {cx : EC} {e : E} {env env' : Env} {v : Val} (he : e.ev cx env = .ok (.t (.v v)) env') : (S.asg (.n 8) (.lis (.cons e .nil))).ev cx env = .nx (st env' 8 (some (.vl [v]))) := by
  have hb : fits [v].length = true := rfl
  simp only [Py.S.ev, Py.E.ev, Py.Es.ev, he, Py.R.bind, escs, esc, fz, R.sr, hb, Py.own]
section
variable {k : Nat} {h h' : List Val} {f : Int} {cs l C : List Val} {no bad odd : Val} {A : List Val}
def cxr (exs : List PySem.Str) (k : Nat) : EC := (prg exs).ec ((prg exs).call (k + 14)) 3 none
theorem t_0 (r : (prg exs).call (k + 14) 23 [.v no, .v bad] none = .ex ⟨3, []⟩ [.v no, .v bad]) : ((.asg (.n 8) (.lis (.cons (.lam 65 none (.call 23 (.cons (.var 3) (.cons (.var 4) .nil)))) .nil))) : S).ev (cxr exs k) [some (.vl h), some (.v (hsV f cs l)), some (.v (.tup C)), some (.v no), some (.v bad), some (.v odd), some (.v (.tup fullL)), some (.v oneV), none, none] = .nx (en h (hsV f cs l) (.tup C) no bad odd [wHouse]) := by
  have hb : ∃ e1, ((.call 23 (.cons (.var 3) (.cons (.var 4) .nil))) : E).ev (cxr exs k) (sh (hsV f cs l) (.tup C) no bad odd) = .ex ⟨3, []⟩ e1 := ⟨sh (hsV f cs l) (.tup C) no bad odd, by simp [sh, cxr, Py.Ss.ev, Py.S.ev, Py.E.ev, Py.Es.ev, Py.Es.bo, Py.It.ev, Oe.pt, Oe.cond, Py.Ss.as, Py.S.as, Tg.asg, fixOk, Py.R.bind, SR.bind, R.sr, R.map, truthR, rd, rds, plsOf, ndup, putBack, gt, st, truth, cmpF, eqF, fz, subF, items, ec_call, ec_clo, ec_np, ec_wl, ec_sub, Val.isD, biF, asgV, asgN, esc, escs, Py.own, owns, asgTs, binF, SR.cr, backs, T.arg, isiF, slcF, wipe, putBackOwn, at0, at1, at2, at3, at4, fits, Nat.blt, Nat.succ_eq_add_one, bleC, r]⟩
  exact asg1 (lam_n (k := k + 13) (np := 3) (c := none) (env := [some (.vl h), some (.v (hsV f cs l)), some (.v (.tup C)), some (.v no), some (.v bad), some (.v odd), some (.v (.tup fullL)), some (.v oneV), none, none]) (wd_n3 (k + 13)) hb)
theorem t_1 (hA : A.length ≤ 1000) (r : (prg exs).call (k + 14) 23 [.v (hsV f cs l), .v bad] none = .ex ⟨2, []⟩ [.v (hsV f cs l), .v bad]) : ((.app 8 (.lam 65 none (.call 23 (.cons (.var 1) (.cons (.var 4) .nil))))) : S).ev (cxr exs k) (en h (hsV f cs l) (.tup C) no bad odd A) = .nx (en h (hsV f cs l) (.tup C) no bad odd (A ++ [wCallers])) := by
  have hb : ∃ e1, ((.call 23 (.cons (.var 1) (.cons (.var 4) .nil))) : E).ev (cxr exs k) (sh (hsV f cs l) (.tup C) no bad odd) = .ex ⟨2, []⟩ e1 := ⟨sh (hsV f cs l) (.tup C) no bad odd, by simp [sh, cxr, Py.Ss.ev, Py.S.ev, Py.E.ev, Py.Es.ev, Py.Es.bo, Py.It.ev, Oe.pt, Oe.cond, Py.Ss.as, Py.S.as, Tg.asg, fixOk, Py.R.bind, SR.bind, R.sr, R.map, truthR, rd, rds, plsOf, ndup, putBack, gt, st, truth, cmpF, eqF, fz, subF, items, ec_call, ec_clo, ec_np, ec_wl, ec_sub, Val.isD, biF, asgV, asgN, esc, escs, Py.own, owns, asgTs, binF, SR.cr, backs, T.arg, isiF, slcF, wipe, putBackOwn, at0, at1, at2, at3, at4, fits, Nat.blt, Nat.succ_eq_add_one, bleC, r]⟩
  exact app_w (env := (en h (hsV f cs l) (.tup C) no bad odd A)) (env' := (en h (hsV f cs l) (.tup C) no bad odd A)) (B := A) (A := A) rfl (lam_n (k := k + 13) (np := 3) (c := none) (env := (en h (hsV f cs l) (.tup C) no bad odd A)) (wd_n2 (k + 13)) hb) rfl hA
theorem t_2 (hA : A.length ≤ 1000) (r : (prg exs).call (k + 14) 24 [.v (hsV f cs l), .v bad] none = .ex ⟨2, []⟩ [.v (hsV f cs l), .v bad]) : ((.app 8 (.lam 65 none (.call 24 (.cons (.var 1) (.cons (.var 4) .nil))))) : S).ev (cxr exs k) (en h (hsV f cs l) (.tup C) no bad odd A) = .nx (en h (hsV f cs l) (.tup C) no bad odd (A ++ [wCallers])) := by
  have hb : ∃ e1, ((.call 24 (.cons (.var 1) (.cons (.var 4) .nil))) : E).ev (cxr exs k) (sh (hsV f cs l) (.tup C) no bad odd) = .ex ⟨2, []⟩ e1 := ⟨sh (hsV f cs l) (.tup C) no bad odd, by simp [sh, cxr, Py.Ss.ev, Py.S.ev, Py.E.ev, Py.Es.ev, Py.Es.bo, Py.It.ev, Oe.pt, Oe.cond, Py.Ss.as, Py.S.as, Tg.asg, fixOk, Py.R.bind, SR.bind, R.sr, R.map, truthR, rd, rds, plsOf, ndup, putBack, gt, st, truth, cmpF, eqF, fz, subF, items, ec_call, ec_clo, ec_np, ec_wl, ec_sub, Val.isD, biF, asgV, asgN, esc, escs, Py.own, owns, asgTs, binF, SR.cr, backs, T.arg, isiF, slcF, wipe, putBackOwn, at0, at1, at2, at3, at4, fits, Nat.blt, Nat.succ_eq_add_one, bleC, r]⟩
  exact app_w (env := (en h (hsV f cs l) (.tup C) no bad odd A)) (env' := (en h (hsV f cs l) (.tup C) no bad odd A)) (B := A) (A := A) rfl (lam_n (k := k + 13) (np := 3) (c := none) (env := (en h (hsV f cs l) (.tup C) no bad odd A)) (wd_n2 (k + 13)) hb) rfl hA
theorem t_3 (hA : A.length ≤ 1000) (r : (prg exs).call (k + 14) 26 [.v (hsV f cs l), .v bad, .v odd] none = .ex ⟨2, []⟩ [.v (hsV f cs l), .v bad, .v odd]) : ((.app 8 (.lam 65 none (.call 26 (.cons (.var 1) (.cons (.var 4) (.cons (.var 5) .nil)))))) : S).ev (cxr exs k) (en h (hsV f cs l) (.tup C) no bad odd A) = .nx (en h (hsV f cs l) (.tup C) no bad odd (A ++ [wCallers])) := by
  have hb : ∃ e1, ((.call 26 (.cons (.var 1) (.cons (.var 4) (.cons (.var 5) .nil)))) : E).ev (cxr exs k) (sh (hsV f cs l) (.tup C) no bad odd) = .ex ⟨2, []⟩ e1 := ⟨sh (hsV f cs l) (.tup C) no bad odd, by simp [sh, cxr, Py.Ss.ev, Py.S.ev, Py.E.ev, Py.Es.ev, Py.Es.bo, Py.It.ev, Oe.pt, Oe.cond, Py.Ss.as, Py.S.as, Tg.asg, fixOk, Py.R.bind, SR.bind, R.sr, R.map, truthR, rd, rds, plsOf, ndup, putBack, gt, st, truth, cmpF, eqF, fz, subF, items, ec_call, ec_clo, ec_np, ec_wl, ec_sub, Val.isD, biF, asgV, asgN, esc, escs, Py.own, owns, asgTs, binF, SR.cr, backs, T.arg, isiF, slcF, wipe, putBackOwn, at0, at1, at2, at3, at4, fits, Nat.blt, Nat.succ_eq_add_one, bleC, r]⟩
  exact app_w (env := (en h (hsV f cs l) (.tup C) no bad odd A)) (env' := (en h (hsV f cs l) (.tup C) no bad odd A)) (B := A) (A := A) rfl (lam_n (k := k + 13) (np := 3) (c := none) (env := (en h (hsV f cs l) (.tup C) no bad odd A)) (wd_n2 (k + 13)) hb) rfl hA
theorem t_4 (hA : A.length ≤ 1000) (r : (prg exs).call (k + 14) 26 [.v (hsV f cs l), .v (.tup C), .v odd] none = .ex ⟨5, []⟩ [.v (hsV f cs l), .v (.tup C), .v odd]) : ((.app 8 (.lam 65 none (.call 26 (.cons (.var 1) (.cons (.var 2) (.cons (.var 5) .nil)))))) : S).ev (cxr exs k) (en h (hsV f cs l) (.tup C) no bad odd A) = .nx (en h (hsV f cs l) (.tup C) no bad odd (A ++ [wTime])) := by
  have hb : ∃ e1, ((.call 26 (.cons (.var 1) (.cons (.var 2) (.cons (.var 5) .nil)))) : E).ev (cxr exs k) (sh (hsV f cs l) (.tup C) no bad odd) = .ex ⟨5, []⟩ e1 := ⟨sh (hsV f cs l) (.tup C) no bad odd, by simp [sh, cxr, Py.Ss.ev, Py.S.ev, Py.E.ev, Py.Es.ev, Py.Es.bo, Py.It.ev, Oe.pt, Oe.cond, Py.Ss.as, Py.S.as, Tg.asg, fixOk, Py.R.bind, SR.bind, R.sr, R.map, truthR, rd, rds, plsOf, ndup, putBack, gt, st, truth, cmpF, eqF, fz, subF, items, ec_call, ec_clo, ec_np, ec_wl, ec_sub, Val.isD, biF, asgV, asgN, esc, escs, Py.own, owns, asgTs, binF, SR.cr, backs, T.arg, isiF, slcF, wipe, putBackOwn, at0, at1, at2, at3, at4, fits, Nat.blt, Nat.succ_eq_add_one, bleC, r]⟩
  exact app_w (env := (en h (hsV f cs l) (.tup C) no bad odd A)) (env' := (en h (hsV f cs l) (.tup C) no bad odd A)) (B := A) (A := A) rfl (lam_n (k := k + 13) (np := 3) (c := none) (env := (en h (hsV f cs l) (.tup C) no bad odd A)) (wd_n5 (k + 13)) hb) rfl hA
theorem t_5 (hA : A.length ≤ 1000) (r : (prg exs).call (k + 14) 20 [.v (hsV f cs l), .v bad] none = .ex ⟨2, []⟩ [.v (hsV f cs l), .v bad]) : ((.app 8 (.lam 65 none (.call 20 (.cons (.var 1) (.cons (.var 4) .nil))))) : S).ev (cxr exs k) (en h (hsV f cs l) (.tup C) no bad odd A) = .nx (en h (hsV f cs l) (.tup C) no bad odd (A ++ [wCallers])) := by
  have hb : ∃ e1, ((.call 20 (.cons (.var 1) (.cons (.var 4) .nil))) : E).ev (cxr exs k) (sh (hsV f cs l) (.tup C) no bad odd) = .ex ⟨2, []⟩ e1 := ⟨sh (hsV f cs l) (.tup C) no bad odd, by simp [sh, cxr, Py.Ss.ev, Py.S.ev, Py.E.ev, Py.Es.ev, Py.Es.bo, Py.It.ev, Oe.pt, Oe.cond, Py.Ss.as, Py.S.as, Tg.asg, fixOk, Py.R.bind, SR.bind, R.sr, R.map, truthR, rd, rds, plsOf, ndup, putBack, gt, st, truth, cmpF, eqF, fz, subF, items, ec_call, ec_clo, ec_np, ec_wl, ec_sub, Val.isD, biF, asgV, asgN, esc, escs, Py.own, owns, asgTs, binF, SR.cr, backs, T.arg, isiF, slcF, wipe, putBackOwn, at0, at1, at2, at3, at4, fits, Nat.blt, Nat.succ_eq_add_one, bleC, r]⟩
  exact app_w (env := (en h (hsV f cs l) (.tup C) no bad odd A)) (env' := (en h (hsV f cs l) (.tup C) no bad odd A)) (B := A) (A := A) rfl (lam_n (k := k + 13) (np := 3) (c := none) (env := (en h (hsV f cs l) (.tup C) no bad odd A)) (wd_n2 (k + 13)) hb) rfl hA
theorem t_6 (hA : A.length ≤ 1000) {x : Val} (q : (prg exs).call (k + 14) 68 [.vl h, .v (hsV f cs l)] none = .ok (.v x) [.vl h', .v (hsV f cs l)]) (r : (prg exs).call (k + 14) 27 [.v (hsV f cs l), .v bad, .v x] none = .ex ⟨2, []⟩ [.v (hsV f cs l), .v bad, .v x]) : ((.app 8 (.lam 65 (some 0) (.call 27 (.cons (.var 1) (.cons (.var 4) (.cons (.call 68 (.cons (.var 0) (.cons (.var 1) .nil))) .nil)))))) : S).ev (cxr exs k) (en h (hsV f cs l) (.tup C) no bad odd A) = .nx (en h' (hsV f cs l) (.tup C) no bad odd (A ++ [wCallers])) := by
  have hb : ∃ e1, gt e1 0 = some (.vl h') ∧ ((.call 27 (.cons (.var 1) (.cons (.var 4) (.cons (.call 68 (.cons (.var 0) (.cons (.var 1) .nil))) .nil)))) : E).ev (cxr exs k) (shC h (hsV f cs l) (.tup C) no bad odd) = .ex ⟨2, []⟩ e1 := ⟨shC h' (hsV f cs l) (.tup C) no bad odd, rfl, by simp [shC, cxr, Py.Ss.ev, Py.S.ev, Py.E.ev, Py.Es.ev, Py.Es.bo, Py.It.ev, Oe.pt, Oe.cond, Py.Ss.as, Py.S.as, Tg.asg, fixOk, Py.R.bind, SR.bind, R.sr, R.map, truthR, rd, rds, plsOf, ndup, putBack, gt, st, truth, cmpF, eqF, fz, subF, items, ec_call, ec_clo, ec_np, ec_wl, ec_sub, Val.isD, biF, asgV, asgN, esc, escs, Py.own, owns, asgTs, binF, SR.cr, backs, T.arg, isiF, slcF, wipe, putBackOwn, at0, at1, at2, at3, at4, fits, Nat.blt, Nat.succ_eq_add_one, bleC, q, r]⟩
  exact app_w (env := (en h (hsV f cs l) (.tup C) no bad odd A)) (env' := en h' (hsV f cs l) (.tup C) no bad odd A) (B := A) (A := A) rfl (lam_s (k := k + 13) (np := 3) (c := none) (env := (en h (hsV f cs l) (.tup C) no bad odd A)) rfl (wd_s2 (k + 13) _ _) hb) rfl hA
theorem t_7 (hA : A.length ≤ 1000) {x : Val} (q : (prg exs).call (k + 14) 68 [.vl h, .v (hsV f cs l)] none = .ok (.v x) [.vl h', .v (hsV f cs l)]) (r : (prg exs).call (k + 14) 27 [.v (hsV f cs l), .v (.tup C), .v x] none = .ex ⟨1, []⟩ [.v (hsV f cs l), .v (.tup C), .v x]) : ((.app 8 (.lam 65 (some 0) (.call 27 (.cons (.var 1) (.cons (.var 2) (.cons (.call 68 (.cons (.var 0) (.cons (.var 1) .nil))) .nil)))))) : S).ev (cxr exs k) (en h (hsV f cs l) (.tup C) no bad odd A) = .nx (en h' (hsV f cs l) (.tup C) no bad odd (A ++ [wCaller])) := by
  have hb : ∃ e1, gt e1 0 = some (.vl h') ∧ ((.call 27 (.cons (.var 1) (.cons (.var 2) (.cons (.call 68 (.cons (.var 0) (.cons (.var 1) .nil))) .nil)))) : E).ev (cxr exs k) (shC h (hsV f cs l) (.tup C) no bad odd) = .ex ⟨1, []⟩ e1 := ⟨shC h' (hsV f cs l) (.tup C) no bad odd, rfl, by simp [shC, cxr, Py.Ss.ev, Py.S.ev, Py.E.ev, Py.Es.ev, Py.Es.bo, Py.It.ev, Oe.pt, Oe.cond, Py.Ss.as, Py.S.as, Tg.asg, fixOk, Py.R.bind, SR.bind, R.sr, R.map, truthR, rd, rds, plsOf, ndup, putBack, gt, st, truth, cmpF, eqF, fz, subF, items, ec_call, ec_clo, ec_np, ec_wl, ec_sub, Val.isD, biF, asgV, asgN, esc, escs, Py.own, owns, asgTs, binF, SR.cr, backs, T.arg, isiF, slcF, wipe, putBackOwn, at0, at1, at2, at3, at4, fits, Nat.blt, Nat.succ_eq_add_one, bleC, q, r]⟩
  exact app_w (env := (en h (hsV f cs l) (.tup C) no bad odd A)) (env' := en h' (hsV f cs l) (.tup C) no bad odd A) (B := A) (A := A) rfl (lam_s (k := k + 13) (np := 3) (c := none) (env := (en h (hsV f cs l) (.tup C) no bad odd A)) rfl (wd_s1 (k + 13) _ _) hb) rfl hA
theorem t_8 (hA : A.length ≤ 1000) (r : (prg exs).call (k + 14) 27 [.v (hsV f cs l), .v (.tup fullL), .v oneV] none = .ex ⟨6, [.int 20]⟩ [.v (hsV f cs l), .v (.tup fullL), .v oneV]) : ((.app 8 (.lam 65 none (.call 27 (.cons (.var 1) (.cons (.var 6) (.cons (.var 7) .nil)))))) : S).ev (cxr exs k) (en h (hsV f cs l) (.tup C) no bad odd A) = .nx (en h (hsV f cs l) (.tup C) no bad odd (A ++ [wMany])) := by
  have hb : ∃ e1, ((.call 27 (.cons (.var 1) (.cons (.var 6) (.cons (.var 7) .nil)))) : E).ev (cxr exs k) (sh (hsV f cs l) (.tup C) no bad odd) = .ex ⟨6, [.int 20]⟩ e1 := ⟨sh (hsV f cs l) (.tup C) no bad odd, by simp [sh, cxr, Py.Ss.ev, Py.S.ev, Py.E.ev, Py.Es.ev, Py.Es.bo, Py.It.ev, Oe.pt, Oe.cond, Py.Ss.as, Py.S.as, Tg.asg, fixOk, Py.R.bind, SR.bind, R.sr, R.map, truthR, rd, rds, plsOf, ndup, putBack, gt, st, truth, cmpF, eqF, fz, subF, items, ec_call, ec_clo, ec_np, ec_wl, ec_sub, Val.isD, biF, asgV, asgN, esc, escs, Py.own, owns, asgTs, binF, SR.cr, backs, T.arg, isiF, slcF, wipe, putBackOwn, at0, at1, at2, at3, at4, fits, Nat.blt, Nat.succ_eq_add_one, bleC, r]⟩
  exact app_w (env := (en h (hsV f cs l) (.tup C) no bad odd A)) (env' := (en h (hsV f cs l) (.tup C) no bad odd A)) (B := A) (A := A) rfl (lam_n (k := k + 13) (np := 3) (c := none) (env := (en h (hsV f cs l) (.tup C) no bad odd A)) (wd_n6 (k + 13)) hb) rfl hA
theorem t_9 (hA : A.length ≤ 1000) {x : Val} (q : (prg exs).call (k + 14) 57 [.vl h, .vl [.int (-1), .int (C.length : Int), .none, .bool true, .str [63]]] none = .ok (.v x) [.vl h', .vl [.int (-1), .int (C.length : Int), .none, .bool true, .str [63]]]) (r : (prg exs).call (k + 14) 28 [.v (hsV f cs l), .v (.tup C), .v x] none = .ex ⟨4, []⟩ [.v (hsV f cs l), .v (.tup C), .v x]) : ((.app 8 (.lam 65 (some 0) (.call 28 (.cons (.var 1) (.cons (.var 2) (.cons (.call 57 (.cons (.var 0) (.cons (.lis (.cons (.neg (.k (.int 1))) (.cons (.bi .len (.var 2)) (.cons (.k (.none)) (.cons (.k (.bool true)) (.cons (.k (.str [63])) .nil)))))) .nil))) .nil)))))) : S).ev (cxr exs k) (en h (hsV f cs l) (.tup C) no bad odd A) = .nx (en h' (hsV f cs l) (.tup C) no bad odd (A ++ [wNumber])) := by
  have hb : ∃ e1, gt e1 0 = some (.vl h') ∧ ((.call 28 (.cons (.var 1) (.cons (.var 2) (.cons (.call 57 (.cons (.var 0) (.cons (.lis (.cons (.neg (.k (.int 1))) (.cons (.bi .len (.var 2)) (.cons (.k (.none)) (.cons (.k (.bool true)) (.cons (.k (.str [63])) .nil)))))) .nil))) .nil)))) : E).ev (cxr exs k) (shC h (hsV f cs l) (.tup C) no bad odd) = .ex ⟨4, []⟩ e1 := ⟨shC h' (hsV f cs l) (.tup C) no bad odd, rfl, by simp [shC, cxr, Py.Ss.ev, Py.S.ev, Py.E.ev, Py.Es.ev, Py.Es.bo, Py.It.ev, Oe.pt, Oe.cond, Py.Ss.as, Py.S.as, Tg.asg, fixOk, Py.R.bind, SR.bind, R.sr, R.map, truthR, rd, rds, plsOf, ndup, putBack, gt, st, truth, cmpF, eqF, fz, subF, items, ec_call, ec_clo, ec_np, ec_wl, ec_sub, Val.isD, biF, asgV, asgN, esc, escs, Py.own, owns, asgTs, binF, SR.cr, backs, T.arg, isiF, slcF, wipe, putBackOwn, at0, at1, at2, at3, at4, fits, Nat.blt, Nat.succ_eq_add_one, bleC, q, r]⟩
  exact app_w (env := (en h (hsV f cs l) (.tup C) no bad odd A)) (env' := en h' (hsV f cs l) (.tup C) no bad odd A) (B := A) (A := A) rfl (lam_s (k := k + 13) (np := 3) (c := none) (env := (en h (hsV f cs l) (.tup C) no bad odd A)) rfl (wd_s4 (k + 13) _ _) hb) rfl hA
theorem t_10 (hA : A.length ≤ 1000) {x : Val} (q : (prg exs).call (k + 14) 57 [.vl h, .vl [.int (-1), .int 201, .none, .bool true, .str [63]]] none = .ok (.v x) [.vl h', .vl [.int (-1), .int 201, .none, .bool true, .str [63]]]) (r : (prg exs).call (k + 14) 29 [.v (hsV f cs l), .v (.tup C), .v x] none = .ex ⟨5, []⟩ [.v (hsV f cs l), .v (.tup C), .v x]) : ((.app 8 (.lam 65 (some 0) (.call 29 (.cons (.var 1) (.cons (.var 2) (.cons (.call 57 (.cons (.var 0) (.cons (.lis (.cons (.neg (.k (.int 1))) (.cons (.k (.int 201)) (.cons (.k (.none)) (.cons (.k (.bool true)) (.cons (.k (.str [63])) .nil)))))) .nil))) .nil)))))) : S).ev (cxr exs k) (en h (hsV f cs l) (.tup C) no bad odd A) = .nx (en h' (hsV f cs l) (.tup C) no bad odd (A ++ [wTime])) := by
  have hb : ∃ e1, gt e1 0 = some (.vl h') ∧ ((.call 29 (.cons (.var 1) (.cons (.var 2) (.cons (.call 57 (.cons (.var 0) (.cons (.lis (.cons (.neg (.k (.int 1))) (.cons (.k (.int 201)) (.cons (.k (.none)) (.cons (.k (.bool true)) (.cons (.k (.str [63])) .nil)))))) .nil))) .nil)))) : E).ev (cxr exs k) (shC h (hsV f cs l) (.tup C) no bad odd) = .ex ⟨5, []⟩ e1 := ⟨shC h' (hsV f cs l) (.tup C) no bad odd, rfl, by simp [shC, cxr, Py.Ss.ev, Py.S.ev, Py.E.ev, Py.Es.ev, Py.Es.bo, Py.It.ev, Oe.pt, Oe.cond, Py.Ss.as, Py.S.as, Tg.asg, fixOk, Py.R.bind, SR.bind, R.sr, R.map, truthR, rd, rds, plsOf, ndup, putBack, gt, st, truth, cmpF, eqF, fz, subF, items, ec_call, ec_clo, ec_np, ec_wl, ec_sub, Val.isD, biF, asgV, asgN, esc, escs, Py.own, owns, asgTs, binF, SR.cr, backs, T.arg, isiF, slcF, wipe, putBackOwn, at0, at1, at2, at3, at4, fits, Nat.blt, Nat.succ_eq_add_one, bleC, q, r]⟩
  exact app_w (env := (en h (hsV f cs l) (.tup C) no bad odd A)) (env' := en h' (hsV f cs l) (.tup C) no bad odd A) (B := A) (A := A) rfl (lam_s (k := k + 13) (np := 3) (c := none) (env := (en h (hsV f cs l) (.tup C) no bad odd A)) rfl (wd_s5 (k + 13) _ _) hb) rfl hA
theorem t_11 (hA : A.length ≤ 1000) (r : (prg exs).call (k + 14) 30 [.v no, .v bad] none = .ex ⟨3, []⟩ [.v no, .v bad]) : ((.app 8 (.lam 65 none (.call 30 (.cons (.var 3) (.cons (.var 4) .nil))))) : S).ev (cxr exs k) (en h (hsV f cs l) (.tup C) no bad odd A) = .nx (en h (hsV f cs l) (.tup C) no bad odd (A ++ [wHouse])) := by
  have hb : ∃ e1, ((.call 30 (.cons (.var 3) (.cons (.var 4) .nil))) : E).ev (cxr exs k) (sh (hsV f cs l) (.tup C) no bad odd) = .ex ⟨3, []⟩ e1 := ⟨sh (hsV f cs l) (.tup C) no bad odd, by simp [sh, cxr, Py.Ss.ev, Py.S.ev, Py.E.ev, Py.Es.ev, Py.Es.bo, Py.It.ev, Oe.pt, Oe.cond, Py.Ss.as, Py.S.as, Tg.asg, fixOk, Py.R.bind, SR.bind, R.sr, R.map, truthR, rd, rds, plsOf, ndup, putBack, gt, st, truth, cmpF, eqF, fz, subF, items, ec_call, ec_clo, ec_np, ec_wl, ec_sub, Val.isD, biF, asgV, asgN, esc, escs, Py.own, owns, asgTs, binF, SR.cr, backs, T.arg, isiF, slcF, wipe, putBackOwn, at0, at1, at2, at3, at4, fits, Nat.blt, Nat.succ_eq_add_one, bleC, r]⟩
  exact app_w (env := (en h (hsV f cs l) (.tup C) no bad odd A)) (env' := (en h (hsV f cs l) (.tup C) no bad odd A)) (B := A) (A := A) rfl (lam_n (k := k + 13) (np := 3) (c := none) (env := (en h (hsV f cs l) (.tup C) no bad odd A)) (wd_n3 (k + 13)) hb) rfl hA
theorem t_12 (hA : A.length ≤ 1000) (r : (prg exs).call (k + 14) 51 [.v (hsV f cs l), .v (.tup C), .v odd] none = .ex ⟨5, []⟩ [.v (hsV f cs l), .v (.tup C), .v odd]) : ((.app 8 (.lam 65 none (.call 51 (.cons (.var 1) (.cons (.var 2) (.cons (.var 5) .nil)))))) : S).ev (cxr exs k) (en h (hsV f cs l) (.tup C) no bad odd A) = .nx (en h (hsV f cs l) (.tup C) no bad odd (A ++ [wTime])) := by
  have hb : ∃ e1, ((.call 51 (.cons (.var 1) (.cons (.var 2) (.cons (.var 5) .nil)))) : E).ev (cxr exs k) (sh (hsV f cs l) (.tup C) no bad odd) = .ex ⟨5, []⟩ e1 := ⟨sh (hsV f cs l) (.tup C) no bad odd, by simp [sh, cxr, Py.Ss.ev, Py.S.ev, Py.E.ev, Py.Es.ev, Py.Es.bo, Py.It.ev, Oe.pt, Oe.cond, Py.Ss.as, Py.S.as, Tg.asg, fixOk, Py.R.bind, SR.bind, R.sr, R.map, truthR, rd, rds, plsOf, ndup, putBack, gt, st, truth, cmpF, eqF, fz, subF, items, ec_call, ec_clo, ec_np, ec_wl, ec_sub, Val.isD, biF, asgV, asgN, esc, escs, Py.own, owns, asgTs, binF, SR.cr, backs, T.arg, isiF, slcF, wipe, putBackOwn, at0, at1, at2, at3, at4, fits, Nat.blt, Nat.succ_eq_add_one, bleC, r]⟩
  exact app_w (env := (en h (hsV f cs l) (.tup C) no bad odd A)) (env' := (en h (hsV f cs l) (.tup C) no bad odd A)) (B := A) (A := A) rfl (lam_n (k := k + 13) (np := 3) (c := none) (env := (en h (hsV f cs l) (.tup C) no bad odd A)) (wd_n5 (k + 13)) hb) rfl hA
theorem t_13 (hA : A.length ≤ 1000) (r : (prg exs).call (k + 14) 52 [.v (hsV f cs l), .v bad, .v odd] none = .ex ⟨2, []⟩ [.v (hsV f cs l), .v bad, .v odd]) : ((.app 8 (.lam 65 none (.call 52 (.cons (.var 1) (.cons (.var 4) (.cons (.var 5) .nil)))))) : S).ev (cxr exs k) (en h (hsV f cs l) (.tup C) no bad odd A) = .nx (en h (hsV f cs l) (.tup C) no bad odd (A ++ [wCallers])) := by
  have hb : ∃ e1, ((.call 52 (.cons (.var 1) (.cons (.var 4) (.cons (.var 5) .nil)))) : E).ev (cxr exs k) (sh (hsV f cs l) (.tup C) no bad odd) = .ex ⟨2, []⟩ e1 := ⟨sh (hsV f cs l) (.tup C) no bad odd, by simp [sh, cxr, Py.Ss.ev, Py.S.ev, Py.E.ev, Py.Es.ev, Py.Es.bo, Py.It.ev, Oe.pt, Oe.cond, Py.Ss.as, Py.S.as, Tg.asg, fixOk, Py.R.bind, SR.bind, R.sr, R.map, truthR, rd, rds, plsOf, ndup, putBack, gt, st, truth, cmpF, eqF, fz, subF, items, ec_call, ec_clo, ec_np, ec_wl, ec_sub, Val.isD, biF, asgV, asgN, esc, escs, Py.own, owns, asgTs, binF, SR.cr, backs, T.arg, isiF, slcF, wipe, putBackOwn, at0, at1, at2, at3, at4, fits, Nat.blt, Nat.succ_eq_add_one, bleC, r]⟩
  exact app_w (env := (en h (hsV f cs l) (.tup C) no bad odd A)) (env' := (en h (hsV f cs l) (.tup C) no bad odd A)) (B := A) (A := A) rfl (lam_n (k := k + 13) (np := 3) (c := none) (env := (en h (hsV f cs l) (.tup C) no bad odd A)) (wd_n2 (k + 13)) hb) rfl hA
theorem t_14 (hA : A.length ≤ 1000) (r : (prg exs).call (k + 14) 54 [.v no, .v bad, .v odd] none = .ex ⟨3, []⟩ [.v no, .v bad, .v odd]) : ((.app 8 (.lam 65 none (.call 54 (.cons (.var 3) (.cons (.var 4) (.cons (.var 5) .nil)))))) : S).ev (cxr exs k) (en h (hsV f cs l) (.tup C) no bad odd A) = .nx (en h (hsV f cs l) (.tup C) no bad odd (A ++ [wHouse])) := by
  have hb : ∃ e1, ((.call 54 (.cons (.var 3) (.cons (.var 4) (.cons (.var 5) .nil)))) : E).ev (cxr exs k) (sh (hsV f cs l) (.tup C) no bad odd) = .ex ⟨3, []⟩ e1 := ⟨sh (hsV f cs l) (.tup C) no bad odd, by simp [sh, cxr, Py.Ss.ev, Py.S.ev, Py.E.ev, Py.Es.ev, Py.Es.bo, Py.It.ev, Oe.pt, Oe.cond, Py.Ss.as, Py.S.as, Tg.asg, fixOk, Py.R.bind, SR.bind, R.sr, R.map, truthR, rd, rds, plsOf, ndup, putBack, gt, st, truth, cmpF, eqF, fz, subF, items, ec_call, ec_clo, ec_np, ec_wl, ec_sub, Val.isD, biF, asgV, asgN, esc, escs, Py.own, owns, asgTs, binF, SR.cr, backs, T.arg, isiF, slcF, wipe, putBackOwn, at0, at1, at2, at3, at4, fits, Nat.blt, Nat.succ_eq_add_one, bleC, r]⟩
  exact app_w (env := (en h (hsV f cs l) (.tup C) no bad odd A)) (env' := (en h (hsV f cs l) (.tup C) no bad odd A)) (B := A) (A := A) rfl (lam_n (k := k + 13) (np := 3) (c := none) (env := (en h (hsV f cs l) (.tup C) no bad odd A)) (wd_n3 (k + 13)) hb) rfl hA
end
end K26
namespace K26
open Py
variable {exs : List PySem.Str}
section
variable {k : Nat} {h h1 h2 : List Val} {f : Int} {cs l C : List Val} {no bad odd : Val}
theorem mul20 : binF .mul (.v (.tup [oneV])) (.v (.int 20)) = some (.v (.tup fullL)) := rfl
theorem z_0 (q1 : (prg exs).call (k + 14) 57 [.vl h, .vl [.none, .str [63], .tup [], .tup [.int f, .tup cs], .lst [.int f, .tup cs, .tup l]]] none = .ok (.v no) [.vl h1, .vl [.none, .str [63], .tup [], .tup [.int f, .tup cs], .lst [.int f, .tup cs, .tup l]]]) (q2 : (prg exs).call (k + 14) 57 [.vl h1, .vl [.none, .str [63], .tup [.none], .lst [.tup C], .tup [.tup [.int 3, .int 0, .int 1], .tup [.int 2, .int 0, .int 1]], .int 5]] none = .ok (.v bad) [.vl h2, .vl [.none, .str [63], .tup [.none], .lst [.tup C], .tup [.tup [.int 3, .int 0, .int 1], .tup [.int 2, .int 0, .int 1]], .int 5]]) :
    ((.par [3, 4] (.cons (.call 57 (.cons (.var 0) (.cons (.lis (.cons (.k (.none)) (.cons (.k (.str [63])) (.cons (.tup .nil) (.cons (.slc (.var 1) .no (.so (.k (.int 2)))) (.cons (.bi .list (.var 1)) .nil)))))) .nil))) (.cons (.call 57 (.cons (.var 0) (.cons (.lis (.cons (.k (.none)) (.cons (.k (.str [63])) (.cons (.tup (.cons (.k (.none)) .nil)) (.cons (.lis (.cons (.var 2) .nil)) (.cons (.tup (.cons (.tup (.cons (.k (.int 3)) (.cons (.k (.int 0)) (.cons (.k (.int 1)) .nil)))) (.cons (.tup (.cons (.k (.int 2)) (.cons (.k (.int 0)) (.cons (.k (.int 1)) .nil)))) .nil))) (.cons (.k (.int 5)) .nil))))))) .nil))) .nil))) : S).ev (cxr exs k) [some (.vl h), some (.v (hsV f cs l)), some (.v (.tup C)), none, none, none, none, none, none, none] = .nx [some (.vl h2), some (.v (hsV f cs l)), some (.v (.tup C)), some (.v no), some (.v bad), none, none, none, none, none] := by
  unfold hsV
  simp [cxr, Py.Ss.ev, Py.S.ev, Py.E.ev, Py.Es.ev, Py.Es.bo, Py.It.ev, Oe.pt, Oe.cond, Py.Ss.as, Py.S.as, Tg.asg, fixOk, Py.R.bind, SR.bind, R.sr, R.map, truthR, rd, rds, plsOf, ndup, putBack, gt, st, truth, cmpF, eqF, fz, subF, items, ec_call, ec_clo, ec_np, ec_wl, ec_sub, Val.isD, biF, asgV, asgN, esc, escs, Py.own, owns, asgTs, binF, SR.cr, backs, T.arg, isiF, slcF, wipe, putBackOwn, at0, at1, at2, at3, at4, fits, Nat.blt, Nat.succ_eq_add_one, bleC, q1, q2, c23]
theorem z_1 (q : (prg exs).call (k + 14) 57 [.vl h, .vl [.int (-1), .none, .bool true, .str [63], .int 401, .tup [.int 0]]] none = .ok (.v odd) [.vl h1, .vl [.int (-1), .none, .bool true, .str [63], .int 401, .tup [.int 0]]]) :
    ((.asg (.n 5) (.call 57 (.cons (.var 0) (.cons (.lis (.cons (.neg (.k (.int 1))) (.cons (.k (.none)) (.cons (.k (.bool true)) (.cons (.k (.str [63])) (.cons (.k (.int 401)) (.cons (.tup (.cons (.k (.int 0)) .nil)) .nil))))))) .nil)))) : S).ev (cxr exs k) [some (.vl h), some (.v (hsV f cs l)), some (.v (.tup C)), some (.v no), some (.v bad), none, none, none, none, none] = .nx [some (.vl h1), some (.v (hsV f cs l)), some (.v (.tup C)), some (.v no), some (.v bad), some (.v odd), none, none, none, none] := by
  simp [cxr, Py.Ss.ev, Py.S.ev, Py.E.ev, Py.Es.ev, Py.Es.bo, Py.It.ev, Oe.pt, Oe.cond, Py.Ss.as, Py.S.as, Tg.asg, fixOk, Py.R.bind, SR.bind, R.sr, R.map, truthR, rd, rds, plsOf, ndup, putBack, gt, st, truth, cmpF, eqF, fz, subF, items, ec_call, ec_clo, ec_np, ec_wl, ec_sub, Val.isD, biF, asgV, asgN, esc, escs, Py.own, owns, asgTs, binF, SR.cr, backs, T.arg, isiF, slcF, wipe, putBackOwn, at0, at1, at2, at3, at4, fits, Nat.blt, Nat.succ_eq_add_one, bleC, q]
theorem z_2 : ((.par [6, 7] (.cons (.bin .mul (.tup (.cons (.tup (.cons (.k (.int 0)) (.cons (.k (.int 0)) (.cons (.k (.int 1)) .nil)))) .nil)) (.k (.int 20))) (.cons (.tup (.cons (.k (.int 0)) (.cons (.k (.int 0)) (.cons (.k (.int 1)) .nil)))) .nil))) : S).ev (cxr exs k) [some (.vl h), some (.v (hsV f cs l)), some (.v (.tup C)), some (.v no), some (.v bad), some (.v odd), none, none, none, none] = .nx [some (.vl h), some (.v (hsV f cs l)), some (.v (.tup C)), some (.v no), some (.v bad), some (.v odd), some (.v (.tup fullL)), some (.v oneV), none, none] := by
  have e := mul20
  unfold oneV at e ⊢
  simp [cxr, Py.Ss.ev, Py.S.ev, Py.E.ev, Py.Es.ev, Py.Es.bo, Py.It.ev, Oe.pt, Oe.cond, Py.Ss.as, Py.S.as, Tg.asg, fixOk, Py.R.bind, SR.bind, R.sr, R.map, truthR, rd, rds, plsOf, ndup, putBack, gt, st, truth, cmpF, eqF, fz, subF, items, ec_call, ec_clo, ec_np, ec_wl, ec_sub, Val.isD, biF, asgV, asgN, esc, escs, Py.own, owns, asgTs, SR.cr, backs, T.arg, isiF, slcF, wipe, putBackOwn, at0, at1, at2, at3, at4, fits, Nat.blt, Nat.succ_eq_add_one, bleC, e]
def wordsL : List Val := [wHouse] ++ [wCallers] ++ [wCallers] ++ [wCallers] ++ [wTime] ++ [wCallers] ++ [wCallers] ++ [wCaller] ++ [wMany] ++ [wNumber] ++ [wTime] ++ [wHouse] ++ [wTime] ++ [wCallers] ++ [wHouse]
theorem z_3 : ((.cons (.asg (.n 9) (.lis (.cons (.k (.str [104, 111, 117, 115, 101])) (.cons (.k (.str [99, 97, 108, 108, 101, 114, 115])) (.cons (.k (.str [99, 97, 108, 108, 101, 114, 115])) (.cons (.k (.str [99, 97, 108, 108, 101, 114, 115])) (.cons (.k (.str [116, 105, 109, 101])) (.cons (.k (.str [99, 97, 108, 108, 101, 114, 115])) (.cons (.k (.str [99, 97, 108, 108, 101, 114, 115])) (.cons (.k (.str [99, 97, 108, 108, 101, 114])) (.cons (.k (.str [109, 97, 110, 121])) (.cons (.k (.str [110, 117, 109, 98, 101, 114])) (.cons (.k (.str [116, 105, 109, 101])) (.cons (.k (.str [104, 111, 117, 115, 101])) (.cons (.k (.str [116, 105, 109, 101])) .nil)))))))))))))))
 (.cons (.ret (.cmp .eq (.var 8) (.bin .add (.var 9) (.lis (.cons (.k (.str [99, 97, 108, 108, 101, 114, 115])) (.cons (.k (.str [104, 111, 117, 115, 101])) .nil))))))
 .nil)) : Ss).ev (cxr exs k) (en h (hsV f cs l) (.tup C) no bad odd wordsL) = .rt (.v (.bool true)) [some (.vl h), some (.v (hsV f cs l)), some (.v (.tup C)), some (.v no), some (.v bad), some (.v odd), some (.v (.tup fullL)), some (.v oneV), some (.vl wordsL), some (.vl [wHouse, wCallers, wCallers, wCallers, wTime, wCallers, wCallers, wCaller, wMany, wNumber, wTime, wHouse, wTime])] := by kernel_rfl
end
theorem refused_ok {j : Nat} (hj : 15 ≤ j) {h : List Val} (H : Hd h) {f : Int} {cs l : List Val} (hs : Hs f cs l) {C : List Val} {t : Int} (hC : Cl f C t) (hl : C.length ≤ 6) :
    ∃ h', Hd h' ∧ (prg exs).call j 69 [.vl h, .v (hsV f cs l), .v (.tup C)] none = .ok (.v (.bool true)) [.vl h', .v (hsV f cs l), .v (.tup C)] := by
  obtain ⟨k, rfl⟩ := Nat.exists_eq_add_of_le' hj
  obtain ⟨no, h1, hno, H1, q1⟩ := so (exs := exs) (j := k + 14) (by omega) H [.none, .str [63], .tup [], .tup [.int f, .tup cs], .lst [.int f, .tup cs, .tup l]] (by simp) (by simp)
  obtain ⟨bad, h2, hbad, H2, q2⟩ := so (exs := exs) (j := k + 14) (by omega) H1 [.none, .str [63], .tup [.none], .lst [.tup C], .tup [.tup [.int 3, .int 0, .int 1], .tup [.int 2, .int 0, .int 1]], .int 5] (by simp) (by simp)
  obtain ⟨odd, h3, hodd, H3, q3⟩ := so (exs := exs) (j := k + 14) (by omega) H2 [.int (-1), .none, .bool true, .str [63], .int 401, .tup [.int 0]] (by simp) (by simp)
  obtain ⟨x1, h4, hx1, H4, q4⟩ := nocal_ok (exs := exs) (j := k + 14) (by omega) H3 (f := f) (cs := cs) (l := l)
  obtain ⟨x2, h5, hx2, H5, q5⟩ := nocal_ok (exs := exs) (j := k + 14) (by omega) H4 (f := f) (cs := cs) (l := l)
  obtain ⟨y1, h6, hy1, H6, q6⟩ := so (exs := exs) (j := k + 14) (by omega) H5 [.int (-1), .int (C.length : Int), .none, .bool true, .str [63]] (by simp) (by simp)
  obtain ⟨y2, h7, hy2, H7, q7⟩ := so (exs := exs) (j := k + 14) (by omega) H6 [.int (-1), .int 201, .none, .bool true, .str [63]] (by simp) (by simp)
  have n0 := no_mem hno
  have t0 := odd_mem hodd
  have eN : ∀ i, 12 ≤ i → (prg exs).call i 19 [.v no, .v bad] none = .ex ⟨3, []⟩ [.v no, .v bad] := fun i hi => cc_noh hi n0
  have eB : ∀ i, 12 ≤ i → (prg exs).call i 19 [.v (hsV f cs l), .v bad] none = .ex ⟨2, []⟩ [.v (hsV f cs l), .v bad] := fun i hi => cc_no hs hi (bad_cq hs.f0 hC hbad)
  have eY : ∀ i, 12 ≤ i → (prg exs).call i 19 [.v (hsV f cs l), .v (.tup C)] none = .ok (.v .none) [.v (hsV f cs l), .v (.tup C)] := fun i hi => cc_yes hs hi (cl_cq hC (by omega))
  have r1 := r_carriers (j := k + 14) (by omega) eN
  have r2 := r_carriers (j := k + 14) (by omega) eB
  have r3 := r_stranded (j := k + 14) (by omega) eB
  have r4 := r_coming (o := odd) (j := k + 14) (by omega) eB
  have r5 := r_coming_t (o := odd) (j := k + 14) (by omega) t0 eY
  have r6 := r_text (j := k + 14) (by omega) eB
  have r7 := r_put (o := x1) (j := k + 14) (by omega) eB
  have r8 := r_put_c (o := x2) (j := k + 14) (by omega) hx2 eY
  have r9 := r_put_m (exs := exs) (j := k + 14) (by omega) hs
  have r10 := r_out (x := y1) (j := k + 14) (by omega) (num_mem hy1) eY
  have r11 := r_off (x := y2) (j := k + 14) (by omega) (by_mem hy2) eY
  have r12 := r_least (j := k + 14) (by omega) eN
  have r13 := r_state (o := odd) (j := k + 14) (by omega) fun i hi => r_run_t hi t0 eY
  have r14 := r_happ (o := odd) (j := k + 14) (by omega) fun i hi => r_run hi eB
  have r15 := r_jour (o := odd) (j := k + 14) (by omega) fun i hi => r_run hi eN
  refine ⟨h7, H7, ?_⟩
  have hb : b__law_are_refused.ev (cxr exs k) [some (.vl h), some (.v (hsV f cs l)), some (.v (.tup C)), none, none, none, none, none, none, none] = .rt (.v (.bool true)) [some (.vl h7), some (.v (hsV f cs l)), some (.v (.tup C)), some (.v no), some (.v bad), some (.v odd), some (.v (.tup fullL)), some (.v oneV), some (.vl wordsL), some (.vl [wHouse, wCallers, wCallers, wCallers, wTime, wCallers, wCallers, wCaller, wMany, wNumber, wTime, wHouse, wTime])] := by
    unfold b__law_are_refused
    rw [ss_nx (z_0 q1 q2), ss_nx (z_1 q3), ss_nx z_2, ss_nx (t_0 r1), ss_nx (t_1 (by decide) r2), ss_nx (t_2 (by decide) r3), ss_nx (t_3 (by decide) r4), ss_nx (t_4 (by decide) r5), ss_nx (t_5 (by decide) r6), ss_nx (t_6 (by decide) q4 r7), ss_nx (t_7 (by decide) q5 r8), ss_nx (t_8 (by decide) r9),
      ss_nx (t_9 (by decide) q6 r10), ss_nx (t_10 (by decide) q7 r11), ss_nx (t_11 (by decide) r12), ss_nx (t_12 (by decide) r13), ss_nx (t_13 (by decide) r14), ss_nx (t_14 (by decide) r15)]
    exact z_3
  rw [show k + 15 = (k + 14) + 1 from rfl, u__law_are_refused]
  have e0 : (([.vl h, .v (hsV f cs l), .v (.tup C)] : List T).map some ++ List.replicate 7 none) = [some (.vl h), some (.v (hsV f cs l)), some (.v (.tup C)), none, none, none, none, none, none, none] := rfl
  rw [e0, show (prg exs).ec ((prg exs).call (k + 14)) 3 none = cxr exs k from rfl, hb]
  rfl
end K26
namespace K26
open Py
variable {exs : List PySem.Str}
/-! ### a turn of the law -/
theorem is_bool {j : Nat} (hj : 1 ≤ j) (b : Bool) : (prg exs).call j 58 [.v (.bool b), .v (.bool b)] none = .ok (.v (.bool true)) [.v (.bool b), .v (.bool b)] := by
  obtain ⟨k, rfl⟩ := Nat.exists_eq_add_of_le' hj
  cases b <;> kernel_rfl
theorem thing_step {k np : Nat} {c : Option Clo} {o0 o1 o2 o3 o4 o6 o7 o8 o9 : Option T} {f : Int} {cs l : List Val} (hs : Hs f cs l) {v : Val} {q : Bool} (h : CQ f q v) :
    b_law_1.ev ((prg exs).ec ((prg exs).call (k + 12)) np c) [o0, o1, o2, o3, o4, some (.v (hsV f cs l)), o6, o7, o8, o9, some (.v v)] = .nx [o0, o1, o2, o3, o4, some (.v (hsV f cs l)), o6, o7, o8, o9, some (.v v)] := by
  have h1 := is_q (exs := exs) hs (j := k + 12) (by omega) h
  have h2 := lare_q (exs := exs) (j := k + 12) (by omega) (cs := cs) (l := l) h
  have h3 := is_bool (exs := exs) (j := k + 12) (by omega) q
  simp [b_law_1, Py.Ss.ev, Py.S.ev, Py.E.ev, Py.Es.ev, Py.Es.bo, Py.It.ev, Oe.pt, Oe.cond, Py.Ss.as, Py.S.as, Tg.asg, fixOk, Py.R.bind, SR.bind, R.sr, R.map, truthR, rd, rds, plsOf, ndup, putBack, gt, st, truth, cmpF, eqF, fz, subF, items, ec_call, ec_clo, ec_np, ec_wl, ec_sub, Val.isD, biF, asgV, asgN, esc, escs, Py.own, owns, asgTs, binF, SR.cr, backs, T.arg, isiF, slcF, wipe, putBackOwn, at0, at1, at2, at3, at4, fits, Nat.blt, Nat.succ_eq_add_one, bleC, h1, h2, h3]
theorem thing_for {k np : Nat} {c : Option Clo} {o0 o1 o2 o3 o4 o6 o7 o8 o9 : Option T} {f : Int} {cs l : List Val} (hs : Hs f cs l) : ∀ (L : List Val) (o10 : Option T), (∀ v ∈ L, ∃ q, CQ f q v) →
    ∃ o10', forL (.n 10) (fun env => b_law_1.ev ((prg exs).ec ((prg exs).call (k + 12)) np c) env) L [o0, o1, o2, o3, o4, some (.v (hsV f cs l)), o6, o7, o8, o9, o10] = .nx [o0, o1, o2, o3, o4, some (.v (hsV f cs l)), o6, o7, o8, o9, o10']
  | [], o10, _ => ⟨o10, rfl⟩
  | v :: L, o10, h => by
    obtain ⟨q, hq⟩ := h v List.mem_cons_self
    have e := thing_step (exs := exs) (k := k) (np := np) (c := c) (o0 := o0) (o1 := o1) (o2 := o2) (o3 := o3) (o4 := o4) (o6 := o6) (o7 := o7) (o8 := o8) (o9 := o9) hs hq
    obtain ⟨o', e2⟩ := thing_for (k := k) (np := np) (c := c) (o0 := o0) (o1 := o1) (o2 := o2) (o3 := o3) (o4 := o4) (o6 := o6) (o7 := o7) (o8 := o8) (o9 := o9) hs L (some (.v v)) (fun x hx => h x (List.mem_cons_of_mem _ hx))
    exact ⟨o', by simp only [forL, asgV, st, e, e2]⟩
theorem cq_tup {f : Int} {q : List Val} (h : ∀ x ∈ q, OkX x) : ∃ b, CQ f b (.tup q) := ⟨CallQ f q, trivial, fun l e => by cases e; exact ⟨h, rfl⟩, fun hn => absurd rfl (hn q)⟩
theorem cq_nt {f : Int} {v : Val} (h : OkV v) (hn : ∀ l, v ≠ .tup l) : ∃ b, CQ f b v := ⟨false, h, fun l e => absurd e (hn l), fun _ => rfl⟩
def lateV : Val := .tup [.int 200, .int 0, .int 1]
def late2 : Val := .tup [.int 200, .int 1, .int 0]
theorem late_okx : OkX lateV := (okt_3 (okx_int _) (okx_int _) (okx_int _)).1
theorem late2_okx : OkX late2 := (okt_3 (okx_int _) (okx_int _) (okx_int _)).1
def lates : List Val := [lateV, lateV, lateV, lateV, lateV, lateV, lateV, lateV, lateV, lateV, lateV, lateV, lateV, lateV, lateV]
theorem mul15 : binF .mul (.v (.tup [lateV])) (.v (.int 15)) = some (.v (.tup lates)) := rfl
def thL (C : List Val) (P S : List Val) (odd : Val) : List Val := [.tup C, .lst C, .tup C.reverse, .tup (P ++ [odd] ++ S), .tup (C ++ lates), .tup (C ++ C)]
def thM (C : List Val) (odd d : Val) : List Val := [.tup (late2 :: C), .none, .int 5, .dct [] [], .str [63], .tup [], odd, d]
theorem things_ok {f : Int} {C P S : List Val} {odd d : Val} (hC : ∀ x ∈ C, OkX x) (hP : ∀ x ∈ P, OkX x) (hS : ∀ x ∈ S, OkX x) (ho : OkT odd) (hd : OkT d) : ∀ v ∈ thL C P S odd ++ thM C odd d, ∃ q, CQ f q v := by
  intro v hv
  have app : ∀ {A B : List Val}, (∀ x ∈ A, OkX x) → (∀ x ∈ B, OkX x) → ∀ x ∈ A ++ B, OkX x := fun hA hB x hx => (List.mem_append.mp hx).elim (hA x) (hB x)
  rcases List.mem_append.mp hv with hv | hv
  · simp only [thL, List.mem_cons, List.not_mem_nil, or_false] at hv
    rcases hv with rfl | rfl | rfl | rfl | rfl | rfl
    · exact cq_tup hC
    · exact cq_nt trivial fun l => (nomatch ·)
    · exact cq_tup fun x hx => hC x (List.mem_reverse.mp hx)
    · exact cq_tup (app (app hP fun x hx => by rw [List.mem_singleton.mp hx]; exact ho.1) hS)
    · refine cq_tup (app hC fun x hx => ?_)
      simp only [lates, List.mem_cons, List.not_mem_nil, or_false, or_self] at hx
      rw [hx]; exact late_okx
    · exact cq_tup (app hC hC)
  · simp only [thM, List.mem_cons, List.not_mem_nil, or_false] at hv
    rcases hv with rfl | rfl | rfl | rfl | rfl | rfl | rfl | rfl
    · exact cq_tup fun x hx => (List.mem_cons.mp hx).elim (fun e => by rw [e]; exact late2_okx) (hC x)
    · exact cq_nt trivial fun l => (nomatch ·)
    · exact cq_nt trivial fun l => (nomatch ·)
    · exact cq_nt trivial fun l => (nomatch ·)
    · exact cq_nt trivial fun l => (nomatch ·)
    · exact cq_tup fun x hx => (nomatch hx)
    · exact cq_of ho
    · exact cq_of hd
theorem cut_len (l : List Val) (lo hi : Option Int) : (cutL l lo hi).length ≤ l.length := by
  unfold cutL
  rw [List.length_take, List.length_drop]; omega
section
variable {k np : Nat} {c : Option Clo} {o0 o2 o3 o4 o5 o6 o7 o8 o9 o10 : Option T} {HV d : Val} {h : List Val} {C : List Val} {odd : Val} {at' : Int}
theorem w_3 (hl : C.length ≤ 6) : ((.asg (.n 9) (.lis (.cons (.var 6) (.cons (.bi .list (.var 6)) (.cons (.rev (.var 6)) (.cons (.bin .add (.bin .add (.slc (.var 6) .no (.so (.var 8))) (.tup (.cons (.var 7) .nil))) (.slc (.var 6) (.so (.var 8)) .no)) (.cons (.bin .add (.var 6) (.bin .mul (.tup (.cons (.tup (.cons (.k (.int 200)) (.cons (.k (.int 0)) (.cons (.k (.int 1)) .nil)))) .nil)) (.k (.int 15)))) (.cons (.bin .add (.var 6) (.var 6)) .nil)))))))) : S).ev ((prg exs).ec ((prg exs).call k) np c) [o0, some (.vl h), o2, o3, o4, some (.v HV), some (.v (.tup C)), some (.v odd), some (.v (.int at')), o9, o10] =
    .nx [o0, some (.vl h), o2, o3, o4, some (.v HV), some (.v (.tup C)), some (.v odd), some (.v (.int at')), some (.vl (thL C (cutL C none (some at')) (cutL C (some at') none) odd)), o10] := by
  have l1 := cut_len C none (some at')
  have l2 := cut_len C (some at') none
  generalize hP : cutL C none (some at') = P at l1
  generalize hS : cutL C (some at') none = Q at l2
  have m := mul15
  unfold lateV at m
  have b1 : binF .add (.v (.tup P)) (.v (.tup [odd])) = some (.v (.tup (P ++ [odd]))) := by
    have g : fits (P.length + [odd].length) = true := ble_ok (by rw [List.length_singleton]; omega)
    simp only [binF, g]
  have b2 : binF .add (.v (.tup (P ++ [odd]))) (.v (.tup Q)) = some (.v (.tup (P ++ [odd] ++ Q))) := by
    have g : fits ((P ++ [odd]).length + Q.length) = true := ble_ok (by rw [List.length_append, List.length_singleton]; omega)
    simp only [binF, g]
  have b3 : binF .add (.v (.tup C)) (.v (.tup lates)) = some (.v (.tup (C ++ lates))) := by
    have g : fits (C.length + lates.length) = true := ble_ok (by rw [show lates.length = 15 from rfl]; omega)
    simp only [binF, g]
  have b4 : binF .add (.v (.tup C)) (.v (.tup C)) = some (.v (.tup (C ++ C))) := by
    have g : fits (C.length + C.length) = true := ble_ok (by omega)
    simp only [binF, g]
  simp [Py.Ss.ev, Py.S.ev, Py.E.ev, Py.Es.ev, Py.Es.bo, Py.It.ev, Oe.pt, Oe.cond, Py.Ss.as, Py.S.as, Tg.asg, fixOk, Py.R.bind, SR.bind, R.sr, R.map, truthR, rd, rds, plsOf, ndup, putBack, gt, st, truth, cmpF, eqF, fz, subF, items, ec_call, ec_clo, ec_np, ec_wl, ec_sub, Val.isD, biF, asgV, asgN, esc, escs, Py.own, owns, asgTs, SR.cr, backs, T.arg, isiF, slcF, wipe, putBackOwn, at0, at1, at2, at3, at4, fits, Nat.blt, Nat.succ_eq_add_one, bleC, hP, hS, b1, b2, b3, b4, m, thL]
theorem w_4 (hl : C.length ≤ 6) {h' : List Val} {t : T} {A : List Val} (hA : A.length = 6) (ht : t = .v d ∨ ∃ w, t = .vl [w] ∧ d = .lst [w]) (q : (prg exs).call k 59 [.vl h] none = .ok t [.vl h']) :
    ((.e (.bin .add (.var 9) (.lis (.cons (.bin .add (.tup (.cons (.tup (.cons (.k (.int 200)) (.cons (.k (.int 1)) (.cons (.k (.int 0)) .nil)))) .nil)) (.var 6)) (.cons (.k (.none)) (.cons (.k (.int 5)) (.cons .edc (.cons (.k (.str [63])) (.cons (.tup .nil) (.cons (.var 7) (.cons (.call 59 (.cons (.var 1) .nil)) .nil))))))))))) : It).ev ((prg exs).ec ((prg exs).call k) np c) [o0, some (.vl h), o2, o3, o4, some (.v HV), some (.v (.tup C)), some (.v odd), some (.v (.int at')), some (.vl A), o10] =
    .ok (A ++ thM C odd d) [o0, some (.vl h'), o2, o3, o4, some (.v HV), some (.v (.tup C)), some (.v odd), some (.v (.int at')), some (.vl A), o10] := by
  have b1 : binF .add (.v (.tup [.tup [.int 200, .int 1, .int 0]])) (.v (.tup C)) = some (.v (.tup (late2 :: C))) := by
    have g : fits ([Val.tup [.int 200, .int 1, .int 0]].length + C.length) = true := ble_ok (by rw [List.length_singleton]; omega)
    simp only [binF, g, late2, List.singleton_append]
  have b2 : binF .add (.vl A) (.vl (thM C odd d)) = some (.vl (A ++ thM C odd d)) := by
    have g : fits (A.length + (thM C odd d).length) = true := ble_ok (by rw [show (thM C odd d).length = 8 from rfl]; omega)
    simp only [binF, g]
  unfold thM at b2 ⊢
  rcases ht with rfl | ⟨w, rfl, rfl⟩
  · simp [Py.Ss.ev, Py.S.ev, Py.E.ev, Py.Es.ev, Py.Es.bo, Py.It.ev, Oe.pt, Oe.cond, Py.Ss.as, Py.S.as, Tg.asg, fixOk, Py.R.bind, SR.bind, R.sr, R.map, truthR, rd, rds, plsOf, ndup, putBack, gt, st, truth, cmpF, eqF, fz, subF, items, ec_call, ec_clo, ec_np, ec_wl, ec_sub, Val.isD, biF, asgV, asgN, esc, escs, Py.own, owns, asgTs, SR.cr, backs, T.arg, isiF, slcF, wipe, putBackOwn, at0, at1, at2, at3, at4, fits, Nat.blt, Nat.succ_eq_add_one, bleC, q, b1, b2, itemsE]
  · simp [Py.Ss.ev, Py.S.ev, Py.E.ev, Py.Es.ev, Py.Es.bo, Py.It.ev, Oe.pt, Oe.cond, Py.Ss.as, Py.S.as, Tg.asg, fixOk, Py.R.bind, SR.bind, R.sr, R.map, truthR, rd, rds, plsOf, ndup, putBack, gt, st, truth, cmpF, eqF, fz, subF, items, ec_call, ec_clo, ec_np, ec_wl, ec_sub, Val.isD, biF, asgV, asgN, esc, escs, Py.own, owns, asgTs, SR.cr, backs, T.arg, isiF, slcF, wipe, putBackOwn, at0, at1, at2, at3, at4, fits, Nat.blt, Nat.succ_eq_add_one, bleC, q, b1, b2, itemsE]
end
theorem turn_ok {k np : Nat} {c : Option Clo} {o0 o2 o3 o4 o5 o6 o7 o8 o9 o10 : Option T} {h : List Val} (H : Hd h) :
    ∃ h' p5 p6 p7 p8 p9 p10, Hd h' ∧ b_law_2.ev ((prg exs).ec ((prg exs).call (k + 15)) np c) [o0, some (.vl h), o2, o3, o4, o5, o6, o7, o8, o9, o10] = .nx [o0, some (.vl h'), o2, o3, o4, p5, p6, p7, p8, p9, p10] := by
  obtain ⟨f, cs, l, h1, hs, H1, e1⟩ := lawhouse_ok (exs := exs) (j := k + 15) (by omega) H
  obtain ⟨C, t, h2, hC, hl, H2, e2⟩ := callers_ok (exs := exs) (j := k + 15) (by omega) H1 hs
  obtain ⟨odd, h3, ho, H3, e3⟩ := nocal_ok (exs := exs) (j := k + 15) (by omega) H2 (f := f) (cs := cs) (l := l)
  obtain ⟨a, h4, H4, _, e4⟩ := dr (exs := exs) (j := k + 15) (by omega) H3 ((C.length : Int) + 1) (by omega) (by omega)
  obtain ⟨u, d, h5, hd, H5, hu, e5⟩ := deep_v (exs := exs) (j := k + 15) (by omega) H4
  obtain ⟨h6, H6, e6⟩ := refused_ok (exs := exs) (j := k + 15) (by omega) H5 hs hC hl
  have s1 : ((.asg (.n 5) (.call 63 (.cons (.var 1) .nil))) : S).ev ((prg exs).ec ((prg exs).call (k + 15)) np c) [o0, some (.vl h), o2, o3, o4, o5, o6, o7, o8, o9, o10] = .nx [o0, some (.vl h1), o2, o3, o4, some (.v (hsV f cs l)), o6, o7, o8, o9, o10] := by
    simp [Py.Ss.ev, Py.S.ev, Py.E.ev, Py.Es.ev, Py.Es.bo, Py.It.ev, Oe.pt, Oe.cond, Py.Ss.as, Py.S.as, Tg.asg, fixOk, Py.R.bind, SR.bind, R.sr, R.map, truthR, rd, rds, plsOf, ndup, putBack, gt, st, truth, cmpF, eqF, fz, subF, items, ec_call, ec_clo, ec_np, ec_wl, ec_sub, Val.isD, biF, asgV, asgN, esc, escs, Py.own, owns, asgTs, binF, SR.cr, backs, T.arg, isiF, slcF, wipe, putBackOwn, at0, at1, at2, at3, at4, fits, Nat.blt, Nat.succ_eq_add_one, bleC, e1]
  have s2 : ((.par [6, 7] (.cons (.call 64 (.cons (.var 1) (.cons (.var 5) (.cons (.k (.int 6)) .nil)))) (.cons (.call 68 (.cons (.var 1) (.cons (.var 5) .nil))) .nil))) : S).ev ((prg exs).ec ((prg exs).call (k + 15)) np c) [o0, some (.vl h1), o2, o3, o4, some (.v (hsV f cs l)), o6, o7, o8, o9, o10] = .nx [o0, some (.vl h3), o2, o3, o4, some (.v (hsV f cs l)), some (.v (.tup C)), some (.v odd), o8, o9, o10] := by
    simp [Py.Ss.ev, Py.S.ev, Py.E.ev, Py.Es.ev, Py.Es.bo, Py.It.ev, Oe.pt, Oe.cond, Py.Ss.as, Py.S.as, Tg.asg, fixOk, Py.R.bind, SR.bind, R.sr, R.map, truthR, rd, rds, plsOf, ndup, putBack, gt, st, truth, cmpF, eqF, fz, subF, items, ec_call, ec_clo, ec_np, ec_wl, ec_sub, Val.isD, biF, asgV, asgN, esc, escs, Py.own, owns, asgTs, binF, SR.cr, backs, T.arg, isiF, slcF, wipe, putBackOwn, at0, at1, at2, at3, at4, fits, Nat.blt, Nat.succ_eq_add_one, bleC, e2, e3]
  have s3 : ((.asg (.n 8) (.call 56 (.cons (.var 1) (.cons (.bin .add (.bi .len (.var 6)) (.k (.int 1))) .nil)))) : S).ev ((prg exs).ec ((prg exs).call (k + 15)) np c) [o0, some (.vl h3), o2, o3, o4, some (.v (hsV f cs l)), some (.v (.tup C)), some (.v odd), o8, o9, o10] = .nx [o0, some (.vl h4), o2, o3, o4, some (.v (hsV f cs l)), some (.v (.tup C)), some (.v odd), some (.v (.int a)), o9, o10] := by
    simp [Py.Ss.ev, Py.S.ev, Py.E.ev, Py.Es.ev, Py.Es.bo, Py.It.ev, Oe.pt, Oe.cond, Py.Ss.as, Py.S.as, Tg.asg, fixOk, Py.R.bind, SR.bind, R.sr, R.map, truthR, rd, rds, plsOf, ndup, putBack, gt, st, truth, cmpF, eqF, fz, subF, items, ec_call, ec_clo, ec_np, ec_wl, ec_sub, Val.isD, biF, asgV, asgN, esc, escs, Py.own, owns, asgTs, binF, SR.cr, backs, T.arg, isiF, slcF, wipe, putBackOwn, at0, at1, at2, at3, at4, fits, Nat.blt, Nat.succ_eq_add_one, bleC, e4]
  have s4 := w_3 (exs := exs) (k := k + 15) (np := np) (c := c) (o0 := o0) (h := h4) (o2 := o2) (o3 := o3) (o4 := o4) (HV := hsV f cs l) (C := C) (odd := odd) (at' := a) (o9 := o9) (o10 := o10) hl
  have s5 := w_4 (exs := exs) (k := k + 15) (np := np) (c := c) (o0 := o0) (o2 := o2) (o3 := o3) (o4 := o4) (HV := hsV f cs l) (C := C) (odd := odd) (at' := a) (o10 := o10) hl (A := thL C (cutL C none (some a)) (cutL C (some a) none) odd) rfl hu e5
  obtain ⟨o10', s6⟩ := thing_for (exs := exs) (k := k + 3) (np := np) (c := c) (o0 := o0) (o1 := some (.vl h5)) (o2 := o2) (o3 := o3) (o4 := o4) (o6 := some (.v (.tup C))) (o7 := some (.v odd)) (o8 := some (.v (.int a))) (o9 := some (.vl (thL C (cutL C none (some a)) (cutL C (some a) none) odd))) hs
    (thL C (cutL C none (some a)) (cutL C (some a) none) odd ++ thM C odd d) o10 (things_ok hC.okx (fun x hx => hC.okx x (cut_mem hx)) (fun x hx => hC.okx x (cut_mem hx)) ho.ok (okt_dp hd))
  have s7 : ((.for_ (.n 10) (.e (.bin .add (.var 9) (.lis (.cons (.bin .add (.tup (.cons (.tup (.cons (.k (.int 200)) (.cons (.k (.int 1)) (.cons (.k (.int 0)) .nil)))) .nil)) (.var 6)) (.cons (.k (.none)) (.cons (.k (.int 5)) (.cons .edc (.cons (.k (.str [63])) (.cons (.tup .nil) (.cons (.var 7) (.cons (.call 59 (.cons (.var 1) .nil)) .nil))))))))))) b_law_1) : S).ev ((prg exs).ec ((prg exs).call (k + 15)) np c) [o0, some (.vl h4), o2, o3, o4, some (.v (hsV f cs l)), some (.v (.tup C)), some (.v odd), some (.v (.int a)), some (.vl (thL C (cutL C none (some a)) (cutL C (some a) none) odd)), o10] =
      .nx [o0, some (.vl h5), o2, o3, o4, some (.v (hsV f cs l)), some (.v (.tup C)), some (.v odd), some (.v (.int a)), some (.vl (thL C (cutL C none (some a)) (cutL C (some a) none) odd)), o10'] := by
    have s6 : forL (.n 10) (fun env => b_law_1.ev ((prg exs).ec ((prg exs).call (k + 15)) np c) env) (thL C (cutL C none (some a)) (cutL C (some a) none) odd ++ thM C odd d) [o0, some (.vl h5), o2, o3, o4, some (.v (hsV f cs l)), some (.v (.tup C)), some (.v odd), some (.v (.int a)), some (.vl (thL C (cutL C none (some a)) (cutL C (some a) none) odd)), o10] = _ := s6
    show (Py.It.ev ((prg exs).ec ((prg exs).call (k + 15)) np c) _ _).sr (fun xs env => forL (.n 10) (fun env => b_law_1.ev ((prg exs).ec ((prg exs).call (k + 15)) np c) env) xs env) = _
    rw [s5]
    exact s6
  have s8 : ((.ifs (.not (.call 69 (.cons (.var 1) (.cons (.var 5) (.cons (.var 6) .nil))))) (.cons (.ret (.k (.bool false)))
 .nil) .nil) : S).ev ((prg exs).ec ((prg exs).call (k + 15)) np c) [o0, some (.vl h5), o2, o3, o4, some (.v (hsV f cs l)), some (.v (.tup C)), some (.v odd), some (.v (.int a)), some (.vl (thL C (cutL C none (some a)) (cutL C (some a) none) odd)), o10'] =
      .nx [o0, some (.vl h6), o2, o3, o4, some (.v (hsV f cs l)), some (.v (.tup C)), some (.v odd), some (.v (.int a)), some (.vl (thL C (cutL C none (some a)) (cutL C (some a) none) odd)), o10'] := by
    simp [Py.Ss.ev, Py.S.ev, Py.E.ev, Py.Es.ev, Py.Es.bo, Py.It.ev, Oe.pt, Oe.cond, Py.Ss.as, Py.S.as, Tg.asg, fixOk, Py.R.bind, SR.bind, R.sr, R.map, truthR, rd, rds, plsOf, ndup, putBack, gt, st, truth, cmpF, eqF, fz, subF, items, ec_call, ec_clo, ec_np, ec_wl, ec_sub, Val.isD, biF, asgV, asgN, esc, escs, Py.own, owns, asgTs, binF, SR.cr, backs, T.arg, isiF, slcF, wipe, putBackOwn, at0, at1, at2, at3, at4, fits, Nat.blt, Nat.succ_eq_add_one, bleC, e6]
  refine ⟨h6, some (.v (hsV f cs l)), some (.v (.tup C)), some (.v odd), some (.v (.int a)), some (.vl (thL C (cutL C none (some a)) (cutL C (some a) none) odd)), o10', H6, ?_⟩
  unfold b_law_2
  rw [ss_nx s1, ss_nx s2, ss_nx s3, ss_nx s4, ss_nx s7, ss_nx s8]
  rfl
end K26
namespace K26
open Py
variable {exs : List PySem.Str}
/-! ### the law -/
theorem cut_map {α β : Type} (f : α → β) (l : List α) (lo hi : Option Int) : cutL (l.map f) lo hi = (cutL l lo hi).map f := by
  unfold cutL
  rw [List.length_map, ← List.map_drop, ← List.map_take]
theorem hand_lc {c : Py.Env → Py.R Bool} {el : Py.Env → Py.R Val} {t0 t1 : Option T} (hc : ∀ env, c env = .ok true env) (he : ∀ i : Int, el [t0, t1, some (.v (.int i))] = .ok (.int (if i < 0 then -i else i)) [t0, t1, some (.v (.int i))]) :
    ∀ (ns : List Int) (acc : List Val), lcL (.n 2) [2] c el (ns.map Val.int) acc [t0, t1, none] = .ok (acc ++ ns.map fun i => .int (if i < 0 then -i else i)) [t0, t1, none]
  | [], acc => by simp [lcL]
  | n :: ns, acc => by
    have e := hand_lc hc he ns (acc ++ [.int (if n < 0 then -n else n)])
    simp only [List.map_cons, lcL, asgV, st, hc, he, wipe, e, List.append_assoc, List.singleton_append]
theorem hand_ok {k : Nat} (ns : List Int) : ∃ h, Hd h ∧ (prg exs).call (k + 1) 55 [.v (.lck (ns.map Val.int))] none = .ok (.vl h) [.v (.lck (ns.map Val.int))] := by
  have el := hand_lc (t0 := some (.v (.lck (ns.map Val.int)))) (t1 := none) (c := fun env => Oe.cond ((prg exs).ec ((prg exs).call k) 1 none) .no env) (el := fun env => (e__law_hand_1.ev ((prg exs).ec ((prg exs).call k) 1 none) env).bind fun o env => esc env o) (fun env => rfl) (fun i => by
    by_cases hi : i < 0
    · simp [e__law_hand_1, Py.Ss.ev, Py.S.ev, Py.E.ev, Py.Es.ev, Py.Es.bo, Py.It.ev, Oe.pt, Oe.cond, Py.Ss.as, Py.S.as, Tg.asg, fixOk, Py.R.bind, SR.bind, R.sr, R.map, truthR, rd, rds, plsOf, ndup, putBack, gt, st, truth, cmpF, eqF, fz, subF, items, ec_call, ec_clo, ec_np, ec_wl, ec_sub, Val.isD, biF, asgV, asgN, esc, escs, Py.own, owns, asgTs, binF, SR.cr, backs, T.arg, isiF, slcF, wipe, putBackOwn, at0, at1, at2, at3, at4, fits, Nat.blt, Nat.succ_eq_add_one, bleC, hi]
    · simp [e__law_hand_1, Py.Ss.ev, Py.S.ev, Py.E.ev, Py.Es.ev, Py.Es.bo, Py.It.ev, Oe.pt, Oe.cond, Py.Ss.as, Py.S.as, Tg.asg, fixOk, Py.R.bind, SR.bind, R.sr, R.map, truthR, rd, rds, plsOf, ndup, putBack, gt, st, truth, cmpF, eqF, fz, subF, items, ec_call, ec_clo, ec_np, ec_wl, ec_sub, Val.isD, biF, asgV, asgN, esc, escs, Py.own, owns, asgTs, binF, SR.cr, backs, T.arg, isiF, slcF, wipe, putBackOwn, at0, at1, at2, at3, at4, fits, Nat.blt, Nat.succ_eq_add_one, bleC, hi]) (cutL ns none (some 63)) []
  have h1 : Py.It.ev ((prg exs).ec ((prg exs).call k) 1 none) (.e (.slc (.var 0) .no (.so (.k (.int 63))))) [some (.v (.lck (ns.map Val.int))), none, none] = .ok ((cutL ns none (some 63)).map Val.int) [some (.v (.lck (ns.map Val.int))), none, none] := by
    simp [Py.Ss.ev, Py.S.ev, Py.E.ev, Py.Es.ev, Py.Es.bo, Py.It.ev, Oe.pt, Oe.cond, Py.Ss.as, Py.S.as, Tg.asg, fixOk, Py.R.bind, SR.bind, R.sr, R.map, truthR, rd, rds, plsOf, ndup, putBack, gt, st, truth, cmpF, eqF, fz, subF, items, ec_call, ec_clo, ec_np, ec_wl, ec_sub, Val.isD, biF, asgV, asgN, esc, escs, Py.own, owns, asgTs, binF, SR.cr, backs, T.arg, isiF, slcF, wipe, putBackOwn, at0, at1, at2, at3, at4, fits, Nat.blt, Nat.succ_eq_add_one, bleC, itemsE, cut_map]
  have hx : x__law_hand_2.ev ((prg exs).ec ((prg exs).call k) 1 none) [some (.v (.lck (ns.map Val.int))), none, none] = .ok (.t (.vl ((cutL ns none (some 63)).map fun i => .int (if i < 0 then -i else i)))) [some (.v (.lck (ns.map Val.int))), none, none] := by
    rw [List.nil_append] at el
    unfold x__law_hand_2
    simp only [Py.E.ev, h1, Py.R.bind, wipe, st]
    simp only [Py.R.bind] at el
    rw [el]
    simp [putBackOwn, st, onlyV, gt]
  generalize hcs : ((cutL ns none (some 63)).map fun i => Val.int (if i < 0 then -i else i)) = cs at hx
  have hcs' : ∀ v ∈ cs, ∃ n : Int, 0 ≤ n ∧ v = .int n := fun v hv => by
    rw [← hcs] at hv
    obtain ⟨i, _, rfl⟩ := List.mem_map.mp hv
    refine ⟨_, ?_, rfl⟩
    split <;> omega
  have s190 : sm 190 = true := by decide
  refine ⟨[.lst cs, .int 0, .int 0, .int (967 + 190 * (cs.length : Int)), .int 0], ⟨cs, 0, 0, _, 0, rfl, by omega, by omega, hcs'⟩, ?_⟩
  rw [u__law_hand]
  simp [b__law_hand, Py.Ss.ev, Py.S.ev, Py.E.ev, Py.Es.ev, Py.Es.bo, Py.It.ev, Oe.pt, Oe.cond, Py.Ss.as, Py.S.as, Tg.asg, fixOk, Py.R.bind, SR.bind, R.sr, R.map, truthR, rd, rds, plsOf, ndup, putBack, gt, st, truth, cmpF, eqF, fz, subF, items, ec_call, ec_clo, ec_np, ec_wl, ec_sub, Val.isD, biF, asgV, asgN, esc, escs, Py.own, owns, asgTs, binF, SR.cr, backs, T.arg, isiF, slcF, wipe, putBackOwn, at0, at1, at2, at3, at4, fits, Nat.blt, Nat.succ_eq_add_one, bleC, hx, s190]
def knownV : Val := .tup [.int 2, .tup [.tup [.int 1, .int 0, .int 1, .int 0]], .tup [.tup [.str [103, 111], .str [117, 112]]]]
theorem known_1 (k : Nat) : (prg exs).call (k + 15) 18 [.v knownV, .v (.tup [])] none = .ok (.v (.bool true)) [.v knownV, .v (.tup [])] := by kernel_rfl
theorem known_2 (k : Nat) : (prg exs).call (k + 15) 18 [.v knownV, .v (.tup [.tup [.int 0, .int 0, .int 1], .tup [.int 0, .int 1, .int 0]])] none = .ok (.v (.bool true)) [.v knownV, .v (.tup [.tup [.int 0, .int 0, .int 1], .tup [.int 0, .int 1, .int 0]])] := by kernel_rfl
theorem known_3 (k : Nat) : (prg exs).call (k + 15) 18 [.v knownV, .v (.tup [.tup [.int 1, .int 0, .int 1], .tup [.int 0, .int 1, .int 0]])] none = .ok (.v (.bool false)) [.v knownV, .v (.tup [.tup [.int 1, .int 0, .int 1], .tup [.int 0, .int 1, .int 0]])] := by kernel_rfl
theorem known_4 (k : Nat) : (prg exs).call (k + 15) 18 [.v knownV, .v (.tup [.tup [.int 0, .int 0, .int 2]])] none = .ok (.v (.bool false)) [.v knownV, .v (.tup [.tup [.int 0, .int 0, .int 2]])] := by kernel_rfl
theorem known_5 (k : Nat) : (prg exs).call (k + 15) 58 [.vl [.bool true, .bool true, .bool false, .bool false], .vl [.bool true, .bool true, .bool false, .bool false]] none = .ok (.v (.bool true)) [.vl [.bool true, .bool true, .bool false, .bool false], .vl [.bool true, .bool true, .bool false, .bool false]] := by kernel_rfl
theorem turn_for {k np : Nat} {c : Option Clo} {o0 o2 o3 : Option T} : ∀ (l : List Val) (h : List Val) (o4 o5 o6 o7 o8 o9 o10 : Option T), Hd h →
    ∃ e', forL (.n 4) (fun env => b_law_2.ev ((prg exs).ec ((prg exs).call (k + 15)) np c) env) l [o0, some (.vl h), o2, o3, o4, o5, o6, o7, o8, o9, o10] = .nx (o0 :: e')
  | [], h, o4, o5, o6, o7, o8, o9, o10, H => ⟨_, rfl⟩
  | x :: l, h, o4, o5, o6, o7, o8, o9, o10, H => by
    obtain ⟨h', p5, p6, p7, p8, p9, p10, H', e1⟩ := turn_ok (exs := exs) (k := k) (np := np) (c := c) (o0 := o0) (o2 := o2) (o3 := o3) (o4 := some (.v x)) (o5 := o5) (o6 := o6) (o7 := o7) (o8 := o8) (o9 := o9) (o10 := o10) H
    obtain ⟨e', e2⟩ := turn_for (k := k) (np := np) (c := c) (o0 := o0) (o2 := o2) (o3 := o3) l h' (some (.v x)) p5 p6 p7 p8 p9 p10 H'
    exact ⟨e', by simp only [forL, asgV, st, e1, e2]⟩
theorem law_ok (k : Nat) (ns : List Int) : (prg exs).call (k + 16) 70 [.v (.lck (ns.map Val.int))] none = .ok (.v (.bool true)) [.v (.lck (ns.map Val.int))] := by
  obtain ⟨h, H, e1⟩ := hand_ok (exs := exs) (k := k + 14) ns
  have k1 := known_1 (exs := exs) k
  have k2 := known_2 (exs := exs) k
  have k3 := known_3 (exs := exs) k
  have k4 := known_4 (exs := exs) k
  have k5 := known_5 (exs := exs) k
  obtain ⟨e', e2⟩ := turn_for (exs := exs) (k := k) (np := 1) (c := none) (o0 := some (.v (.lck (ns.map Val.int)))) (o2 := some (.v knownV)) (o3 := some (.vl [.bool true, .bool true, .bool false, .bool false])) [.int 0, .int 1, .int 2] h none none none none none none none H
  have r3 : rngF [.v (.int 3)] = some [.int 0, .int 1, .int 2] := rfl
  simp only [knownV] at k1 k2 k3 k4 e2
  rw [show k + 14 + 1 = k + 15 from rfl] at e1
  rw [show k + 16 = (k + 15) + 1 from rfl, u_law]
  simp [b_law, Py.Ss.ev, Py.S.ev, Py.E.ev, Py.Es.ev, Py.Es.bo, Py.It.ev, Oe.pt, Oe.cond, Py.Ss.as, Py.S.as, Tg.asg, fixOk, Py.R.bind, SR.bind, R.sr, R.map, truthR, rd, rds, plsOf, ndup, putBack, gt, st, truth, cmpF, eqF, fz, subF, items, ec_call, ec_clo, ec_np, ec_wl, ec_sub, Val.isD, biF, asgV, asgN, esc, escs, Py.own, owns, asgTs, binF, SR.cr, backs, T.arg, isiF, slcF, wipe, putBackOwn, at0, at1, at2, at3, at4, fits, Nat.blt, Nat.succ_eq_add_one, bleC, e1, k1, k2, k3, k4, k5, r3, e2]
theorem plain (ns : List Int) (h : ns.length ≤ 63) : ∃ as, (Py.Pg.mk fns gs exs sub 100000).call 45 i_law [.v (.lck (ns.map Val.int))] none = .ok (.v (.bool true)) as := ⟨_, law_ok 29 ns⟩
end K26
set_option maxHeartbeats 0
namespace K26
open PySem PySem.Spec PyProof.Rows L2 Py
def top (i : Nat) : Stmt := PySem.Challenge.pw_callsheld_k26_callers_judged.main.body.getD i (.Pass ⟨0, 0, 0, 0⟩)
def mth (s : Stmt) (j : Nat) : Stmt := match s with | .ClassDef _ _ _ b _ _ _ _ _ _ _ => b.getD j (.Pass ⟨0, 0, 0, 0⟩) | _ => .Pass ⟨0, 0, 0, 0⟩
def d_is_integer : He.DefD := ⟨("is_integer", none), "is_integer", "is_integer", defArgs (top 1), defBody (top 1), defScope (top 1), [], []⟩
def d_is_within : He.DefD := ⟨("is_within", none), "is_within", "is_within", defArgs (top 2), defBody (top 2), defScope (top 2), [], []⟩
def d_is_sized : He.DefD := ⟨("is_sized", none), "is_sized", "is_sized", defArgs (top 3), defBody (top 3), defScope (top 3), [], []⟩
def d_is_word_of : He.DefD := ⟨("is_word_of", none), "is_word_of", "is_word_of", defArgs (top 25), defBody (top 25), defScope (top 25), [], []⟩
def d_inner : He.DefD := ⟨("inner", none), "inner", "inner", defArgs (top 26), defBody (top 26), defScope (top 26), [], []⟩
def d_is_head : He.DefD := ⟨("is_head", none), "is_head", "is_head", defArgs (top 27), defBody (top 27), defScope (top 27), [], []⟩
def d_is_expr : He.DefD := ⟨("is_expr", none), "is_expr", "is_expr", defArgs (top 28), defBody (top 28), defScope (top 28), [], []⟩
def d_parts_in : He.DefD := ⟨("parts_in", none), "parts_in", "parts_in", defArgs (top 29), defBody (top 29), defScope (top 29), [], []⟩
def d_is_plain_statement : He.DefD := ⟨("is_plain_statement", none), "is_plain_statement", "is_plain_statement", defArgs (top 30), defBody (top 30), defScope (top 30), [], []⟩
def d_statements_in : He.DefD := ⟨("statements_in", none), "statements_in", "statements_in", defArgs (top 31), defBody (top 31), defScope (top 31), [], []⟩
def d_exprs_of : He.DefD := ⟨("exprs_of", none), "exprs_of", "exprs_of", defArgs (top 32), defBody (top 32), defScope (top 32), [], []⟩
def d_is_policy : He.DefD := ⟨("is_policy", none), "is_policy", "is_policy", defArgs (top 33), defBody (top 33), defScope (top 33), [], []⟩
def d_is_car : He.DefD := ⟨("is_car", none), "is_car", "is_car", defArgs (top 38), defBody (top 38), defScope (top 38), [], []⟩
def d_is_house : He.DefD := ⟨("is_house", none), "is_house", "is_house", defArgs (top 39), defBody (top 39), defScope (top 39), [], []⟩
def d_check_house : He.DefD := ⟨("check_house", none), "check_house", "check_house", defArgs (top 40), defBody (top 40), defScope (top 40), [], []⟩
abbrev d_raw_rides : He.DefD := d_is_integer
def d_is_caller : He.DefD := ⟨("is_caller", none), "is_caller", "is_caller", defArgs (top 46), defBody (top 46), defScope (top 46), [], []⟩
def d_raw_callers : He.DefD := ⟨("raw_callers", none), "raw_callers", "raw_callers", defArgs (top 47), defBody (top 47), defScope (top 47), [], []⟩
def d_is_callers : He.DefD := ⟨("is_callers", none), "is_callers", "is_callers", defArgs (top 48), defBody (top 48), defScope (top 48), [], []⟩
def d_check_callers : He.DefD := ⟨("check_callers", none), "check_callers", "check_callers", defArgs (top 49), defBody (top 49), defScope (top 49), [], []⟩
def d_callers_text : He.DefD := ⟨("callers_text", none), "callers_text", "callers_text", defArgs (top 50), defBody (top 50), defScope (top 50), [], []⟩
abbrev d_can_carry : He.DefD := d_is_integer
abbrev d_raw_carriers : He.DefD := d_is_integer
def d_carriers : He.DefD := ⟨("carriers", none), "carriers", "carriers", defArgs (top 53), defBody (top 53), defScope (top 53), [], []⟩
def d_stranded : He.DefD := ⟨("stranded", none), "stranded", "stranded", defArgs (top 54), defBody (top 54), defScope (top 54), [], []⟩
def d_check_time : He.DefD := ⟨("check_time", none), "check_time", "check_time", defArgs (top 55), defBody (top 55), defScope (top 55), [], []⟩
def d_coming : He.DefD := ⟨("coming", none), "coming", "coming", defArgs (top 56), defBody (top 56), defScope (top 56), [], []⟩
def d_put_in : He.DefD := ⟨("put_in", none), "put_in", "put_in", defArgs (top 57), defBody (top 57), defScope (top 57), [], []⟩
def d_taken_out : He.DefD := ⟨("taken_out", none), "taken_out", "taken_out", defArgs (top 58), defBody (top 58), defScope (top 58), [], []⟩
def d_put_off : He.DefD := ⟨("put_off", none), "put_off", "put_off", defArgs (top 59), defBody (top 59), defScope (top 59), [], []⟩
def d_least_time : He.DefD := ⟨("least_time", none), "least_time", "least_time", defArgs (top 60), defBody (top 60), defScope (top 60), [], []⟩
abbrev d_cut : He.DefD := d_is_integer
abbrev d_table_of : He.DefD := d_is_integer
abbrev d_asked_at : He.DefD := d_is_integer
abbrev d_asked_from : He.DefD := d_is_integer
abbrev d_own_of : He.DefD := d_is_integer
abbrev d_op_of : He.DefD := d_is_integer
abbrev d_worth_in : He.DefD := d_is_integer
abbrev d_put_cell : He.DefD := d_is_integer
abbrev d_made_by : He.DefD := d_is_integer
abbrev d_raw_decided : He.DefD := d_is_integer
abbrev d_raw_first : He.DefD := d_is_integer
abbrev d_with_comers : He.DefD := d_is_integer
abbrev d_raw_view : He.DefD := d_is_integer
abbrev d_raw_decisions : He.DefD := d_is_integer
abbrev d_opened : He.DefD := d_is_integer
abbrev d_moved : He.DefD := d_is_integer
abbrev d_told_deeds : He.DefD := d_is_integer
abbrev d_raw_told : He.DefD := d_is_integer
abbrev d_raw_run : He.DefD := d_is_integer
def d_check_run : He.DefD := ⟨("check_run", none), "check_run", "check_run", defArgs (top 91), defBody (top 91), defScope (top 91), [], []⟩
def d_state_at : He.DefD := ⟨("state_at", none), "state_at", "state_at", defArgs (top 92), defBody (top 92), defScope (top 92), [], []⟩
def d_happenings : He.DefD := ⟨("happenings", none), "happenings", "happenings", defArgs (top 93), defBody (top 93), defScope (top 93), [], []⟩
abbrev d_journeys_by : He.DefD := d_is_integer
def d_journeys : He.DefD := ⟨("journeys", none), "journeys", "journeys", defArgs (top 95), defBody (top 95), defScope (top 95), [], []⟩
def d__law_hand : He.DefD := ⟨("_law_hand", none), "_law_hand", "_law_hand", defArgs (top 97), defBody (top 97), defScope (top 97), [], []⟩
def d__law_draw : He.DefD := ⟨("_law_draw", none), "_law_draw", "_law_draw", defArgs (top 98), defBody (top 98), defScope (top 98), [], []⟩
def d__law_some : He.DefD := ⟨("_law_some", none), "_law_some", "_law_some", defArgs (top 99), defBody (top 99), defScope (top 99), [], []⟩
def d__law_is : He.DefD := ⟨("_law_is", none), "_law_is", "_law_is", defArgs (top 100), defBody (top 100), defScope (top 100), [], []⟩
def d__law_deep : He.DefD := ⟨("_law_deep", none), "_law_deep", "_law_deep", defArgs (top 101), defBody (top 101), defScope (top 101), [], []⟩
def d__law_is_int : He.DefD := ⟨("_law_is_int", none), "_law_is_int", "_law_is_int", defArgs (top 102), defBody (top 102), defScope (top 102), [], []⟩
def d__law_expr : He.DefD := ⟨("_law_expr", none), "_law_expr", "_law_expr", defArgs (top 103), defBody (top 103), defScope (top 103), [], []⟩
def d__law_policy : He.DefD := ⟨("_law_policy", none), "_law_policy", "_law_policy", defArgs (top 104), defBody (top 104), defScope (top 104), [], []⟩
def d__law_house : He.DefD := ⟨("_law_house", none), "_law_house", "_law_house", defArgs (top 105), defBody (top 105), defScope (top 105), [], []⟩
def d__law_callers : He.DefD := ⟨("_law_callers", none), "_law_callers", "_law_callers", defArgs (top 106), defBody (top 106), defScope (top 106), [], []⟩
def d__law_word : He.DefD := ⟨("_law_word", none), "_law_word", "_law_word", defArgs (top 107), defBody (top 107), defScope (top 107), [], []⟩
def d__law_is_caller : He.DefD := ⟨("_law_is_caller", none), "_law_is_caller", "_law_is_caller", defArgs (top 108), defBody (top 108), defScope (top 108), [], []⟩
def d__law_are_callers : He.DefD := ⟨("_law_are_callers", none), "_law_are_callers", "_law_are_callers", defArgs (top 109), defBody (top 109), defScope (top 109), [], []⟩
def d__law_no_caller : He.DefD := ⟨("_law_no_caller", none), "_law_no_caller", "_law_no_caller", defArgs (top 110), defBody (top 110), defScope (top 110), [], []⟩
def d__law_are_refused : He.DefD := ⟨("_law_are_refused", none), "_law_are_refused", "_law_are_refused", defArgs (top 111), defBody (top 111), defScope (top 111), [], []⟩
def d_law : He.DefD := ⟨("law", none), "law", "law", defArgs (top 112), defBody (top 112), defScope (top 112), [], []⟩

def frees : List PySem.Str := ["ValueError", "abs", "all", "bool", "enumerate", "int", "isinstance", "len", "list", "max", "min", "range", "sorted", "str", "sum", "tuple", "zip"]
def cloL : List Nat := [65]
def lamL : List Nat := [69]
def fa : List He.Fa := [.glo "is_integer", .glo "is_within", .glo "is_sized", .glo "is_word_of", .glo "inner", .glo "is_head", .glo "is_expr", .glo "parts_in", .glo "is_plain_statement", .glo "statements_in", .glo "exprs_of", .glo "is_policy", .glo "is_car", .glo "is_house", .glo "check_house", .glo "is_caller", .glo "raw_callers", .glo "is_callers", .glo "check_callers", .glo "callers_text", .glo "carriers", .glo "stranded", .glo "check_time", .glo "coming", .glo "put_in", .glo "taken_out", .glo "put_off", .glo "least_time", .glo "check_run", .glo "state_at", .glo "happenings", .glo "journeys", .glo "_law_hand", .glo "_law_draw", .glo "_law_some", .glo "_law_is", .glo "_law_deep", .glo "_law_is_int", .glo "_law_expr", .glo "_law_policy", .glo "_law_house", .glo "_law_callers", .glo "_law_word", .glo "_law_is_caller", .glo "_law_are_callers", .glo "_law_no_caller", .glo "_law_are_refused", .glo "law", .free "ValueError", .free "abs", .free "all", .free "bool", .free "enumerate", .free "int", .free "isinstance", .free "len", .free "list", .free "max", .free "min", .free "range", .free "sorted", .free "str", .free "sum", .free "tuple", .free "zip"]
def ts : List He.Tab := [((fun K => He.ga K "FORMS"), ["int", "my", "cell", "at", "from", "not"])]
def tf : List He.Defn := [("_law_are_refused", none)]
def di_TooMany : He.DefD := ⟨("TooMany", some "__init__"), "__init__", "TooMany.__init__", defArgs (mth (top 11) 0), defBody (mth (top 11) 0), defScope (mth (top 11) 0), [], []⟩
def ini_TooMany : IniD := ⟨6, "TooMany", "most", "self", "most", di_TooMany⟩
def ds : List He.DefD := [d_is_integer, d_is_within, d_is_sized, d_is_word_of, d_inner, d_is_head, d_is_expr, d_parts_in, d_is_plain_statement, d_statements_in, d_exprs_of, d_is_policy] ++ [d_is_car, d_is_house, d_check_house, d_is_caller, d_raw_callers, d_is_callers, d_check_callers, d_callers_text, d_carriers, d_stranded, d_check_time, d_coming] ++ [d_put_in, d_taken_out, d_put_off, d_least_time, d_check_run, d_state_at, d_happenings, d_journeys, d__law_hand, d__law_draw, d__law_some, d__law_is] ++ [d__law_deep, d__law_is_int, d__law_expr, d__law_policy, d__law_house, d__law_callers, d__law_word, d__law_is_caller, d__law_are_callers, d__law_no_caller, d__law_are_refused, d_law] ++ [di_TooMany]
def inis : List IniD := [ini_TooMany]
def txt : Txt := ⟨fns, gs, own, bt, sub, frees, cloL, lamL, ds, fa, ts, tf, inis, clsn, fnm⟩
theorem o_is_integer : DefOk f_is_integer d_is_integer (txt.Ms 0) := ⟨rfl, by kernel_rfl, fun _ _ _ _ _ _ us hl => match us, hl with | [_], _ => rfl, by kernel_rfl, rfl, rfl⟩
theorem o_is_within : DefOk f_is_within d_is_within (txt.Ms 1) := ⟨rfl, by kernel_rfl, fun _ _ _ _ _ _ us hl => match us, hl with | [_, _, _], _ => rfl, by kernel_rfl, rfl, rfl⟩
theorem o_is_sized : DefOk f_is_sized d_is_sized (txt.Ms 2) := ⟨rfl, by kernel_rfl, fun _ _ _ _ _ _ us hl => match us, hl with | [_, _, _], _ => rfl, by kernel_rfl, rfl, rfl⟩
theorem o_is_word_of : DefOk f_is_word_of d_is_word_of (txt.Ms 3) := ⟨rfl, by kernel_rfl, fun _ _ _ _ _ _ us hl => match us, hl with | [_, _], _ => rfl, by kernel_rfl, rfl, rfl⟩
theorem o_inner : DefOk f_inner d_inner (txt.Ms 4) := ⟨rfl, by kernel_rfl, fun _ _ _ _ _ _ us hl => match us, hl with | [_], _ => rfl, by kernel_rfl, rfl, rfl⟩
theorem o_is_head : DefOk f_is_head d_is_head (txt.Ms 5) := ⟨rfl, by kernel_rfl, fun _ _ _ _ _ _ us hl => match us, hl with | [_], _ => rfl, by kernel_rfl, rfl, rfl⟩
theorem o_is_expr : DefOk f_is_expr d_is_expr (txt.Ms 6) := ⟨rfl, by kernel_rfl, fun _ _ _ _ _ _ us hl => match us, hl with | [_], _ => rfl, by kernel_rfl, rfl, rfl⟩
theorem o_parts_in : DefOk f_parts_in d_parts_in (txt.Ms 7) := ⟨rfl, by kernel_rfl, fun _ _ _ _ _ _ us hl => match us, hl with | [_], _ => rfl, by kernel_rfl, rfl, rfl⟩
theorem o_is_plain_statement : DefOk f_is_plain_statement d_is_plain_statement (txt.Ms 8) := ⟨rfl, by kernel_rfl, fun _ _ _ _ _ _ us hl => match us, hl with | [_], _ => rfl, by kernel_rfl, rfl, rfl⟩
theorem o_statements_in : DefOk f_statements_in d_statements_in (txt.Ms 9) := ⟨rfl, by kernel_rfl, fun _ _ _ _ _ _ us hl => match us, hl with | [_], _ => rfl, by kernel_rfl, rfl, rfl⟩
theorem o_exprs_of : DefOk f_exprs_of d_exprs_of (txt.Ms 10) := ⟨rfl, by kernel_rfl, fun _ _ _ _ _ _ us hl => match us, hl with | [_], _ => rfl, by kernel_rfl, rfl, rfl⟩
theorem o_is_policy : DefOk f_is_policy d_is_policy (txt.Ms 11) := ⟨rfl, by kernel_rfl, fun _ _ _ _ _ _ us hl => match us, hl with | [_], _ => rfl, by kernel_rfl, rfl, rfl⟩
theorem o_is_car : DefOk f_is_car d_is_car (txt.Ms 12) := ⟨rfl, by kernel_rfl, fun _ _ _ _ _ _ us hl => match us, hl with | [_, _], _ => rfl, by kernel_rfl, rfl, rfl⟩
theorem o_is_house : DefOk f_is_house d_is_house (txt.Ms 13) := ⟨rfl, by kernel_rfl, fun _ _ _ _ _ _ us hl => match us, hl with | [_], _ => rfl, by kernel_rfl, rfl, rfl⟩
theorem o_check_house : DefOk f_check_house d_check_house (txt.Ms 14) := ⟨rfl, by kernel_rfl, fun _ _ _ _ _ _ us hl => match us, hl with | [_], _ => rfl, by kernel_rfl, rfl, rfl⟩
theorem o_raw_rides : DefOk f_raw_rides d_raw_rides (txt.Ms 15) := ⟨rfl, by kernel_rfl, fun _ _ _ _ _ _ us hl => match us, hl with | [_], _ => rfl, by kernel_rfl, rfl, rfl⟩
theorem o_is_caller : DefOk f_is_caller d_is_caller (txt.Ms 16) := ⟨rfl, by kernel_rfl, fun _ _ _ _ _ _ us hl => match us, hl with | [_, _], _ => rfl, by kernel_rfl, rfl, rfl⟩
theorem o_raw_callers : DefOk f_raw_callers d_raw_callers (txt.Ms 17) := ⟨rfl, by kernel_rfl, fun _ _ _ _ _ _ us hl => match us, hl with | [_, _], _ => rfl, by kernel_rfl, rfl, rfl⟩
theorem o_is_callers : DefOk f_is_callers d_is_callers (txt.Ms 18) := ⟨rfl, by kernel_rfl, fun _ _ _ _ _ _ us hl => match us, hl with | [_, _], _ => rfl, by kernel_rfl, rfl, rfl⟩
theorem o_check_callers : DefOk f_check_callers d_check_callers (txt.Ms 19) := ⟨rfl, by kernel_rfl, fun _ _ _ _ _ _ us hl => match us, hl with | [_, _], _ => rfl, by kernel_rfl, rfl, rfl⟩
theorem o_callers_text : DefOk f_callers_text d_callers_text (txt.Ms 20) := ⟨rfl, by kernel_rfl, fun _ _ _ _ _ _ us hl => match us, hl with | [_, _], _ => rfl, by kernel_rfl, rfl, rfl⟩
theorem o_can_carry : DefOk f_can_carry d_can_carry (txt.Ms 21) := ⟨rfl, by kernel_rfl, fun _ _ _ _ _ _ us hl => match us, hl with | [_], _ => rfl, by kernel_rfl, rfl, rfl⟩
theorem o_raw_carriers : DefOk f_raw_carriers d_raw_carriers (txt.Ms 22) := ⟨rfl, by kernel_rfl, fun _ _ _ _ _ _ us hl => match us, hl with | [_], _ => rfl, by kernel_rfl, rfl, rfl⟩
theorem o_carriers : DefOk f_carriers d_carriers (txt.Ms 23) := ⟨rfl, by kernel_rfl, fun _ _ _ _ _ _ us hl => match us, hl with | [_, _], _ => rfl, by kernel_rfl, rfl, rfl⟩
theorem o_stranded : DefOk f_stranded d_stranded (txt.Ms 24) := ⟨rfl, by kernel_rfl, fun _ _ _ _ _ _ us hl => match us, hl with | [_, _], _ => rfl, by kernel_rfl, rfl, rfl⟩
theorem o_check_time : DefOk f_check_time d_check_time (txt.Ms 25) := ⟨rfl, by kernel_rfl, fun _ _ _ _ _ _ us hl => match us, hl with | [_], _ => rfl, by kernel_rfl, rfl, rfl⟩
theorem o_coming : DefOk f_coming d_coming (txt.Ms 26) := ⟨rfl, by kernel_rfl, fun _ _ _ _ _ _ us hl => match us, hl with | [_, _, _], _ => rfl, by kernel_rfl, rfl, rfl⟩
theorem o_put_in : DefOk f_put_in d_put_in (txt.Ms 27) := ⟨rfl, by kernel_rfl, fun _ _ _ _ _ _ us hl => match us, hl with | [_, _, _], _ => rfl, by kernel_rfl, rfl, rfl⟩
theorem o_taken_out : DefOk f_taken_out d_taken_out (txt.Ms 28) := ⟨rfl, by kernel_rfl, fun _ _ _ _ _ _ us hl => match us, hl with | [_, _, _], _ => rfl, by kernel_rfl, rfl, rfl⟩
theorem o_put_off : DefOk f_put_off d_put_off (txt.Ms 29) := ⟨rfl, by kernel_rfl, fun _ _ _ _ _ _ us hl => match us, hl with | [_, _, _], _ => rfl, by kernel_rfl, rfl, rfl⟩
theorem o_least_time : DefOk f_least_time d_least_time (txt.Ms 30) := ⟨rfl, by kernel_rfl, fun _ _ _ _ _ _ us hl => match us, hl with | [_, _], _ => rfl, by kernel_rfl, rfl, rfl⟩
theorem o_cut : DefOk f_cut d_cut (txt.Ms 31) := ⟨rfl, by kernel_rfl, fun _ _ _ _ _ _ us hl => match us, hl with | [_], _ => rfl, by kernel_rfl, rfl, rfl⟩
theorem o_table_of : DefOk f_table_of d_table_of (txt.Ms 32) := ⟨rfl, by kernel_rfl, fun _ _ _ _ _ _ us hl => match us, hl with | [_], _ => rfl, by kernel_rfl, rfl, rfl⟩
theorem o_asked_at : DefOk f_asked_at d_asked_at (txt.Ms 33) := ⟨rfl, by kernel_rfl, fun _ _ _ _ _ _ us hl => match us, hl with | [_], _ => rfl, by kernel_rfl, rfl, rfl⟩
theorem o_asked_from : DefOk f_asked_from d_asked_from (txt.Ms 34) := ⟨rfl, by kernel_rfl, fun _ _ _ _ _ _ us hl => match us, hl with | [_], _ => rfl, by kernel_rfl, rfl, rfl⟩
theorem o_own_of : DefOk f_own_of d_own_of (txt.Ms 35) := ⟨rfl, by kernel_rfl, fun _ _ _ _ _ _ us hl => match us, hl with | [_], _ => rfl, by kernel_rfl, rfl, rfl⟩
theorem o_op_of : DefOk f_op_of d_op_of (txt.Ms 36) := ⟨rfl, by kernel_rfl, fun _ _ _ _ _ _ us hl => match us, hl with | [_], _ => rfl, by kernel_rfl, rfl, rfl⟩
theorem o_worth_in : DefOk f_worth_in d_worth_in (txt.Ms 37) := ⟨rfl, by kernel_rfl, fun _ _ _ _ _ _ us hl => match us, hl with | [_], _ => rfl, by kernel_rfl, rfl, rfl⟩
theorem o_put_cell : DefOk f_put_cell d_put_cell (txt.Ms 38) := ⟨rfl, by kernel_rfl, fun _ _ _ _ _ _ us hl => match us, hl with | [_], _ => rfl, by kernel_rfl, rfl, rfl⟩
theorem o_made_by : DefOk f_made_by d_made_by (txt.Ms 39) := ⟨rfl, by kernel_rfl, fun _ _ _ _ _ _ us hl => match us, hl with | [_], _ => rfl, by kernel_rfl, rfl, rfl⟩
theorem o_raw_decided : DefOk f_raw_decided d_raw_decided (txt.Ms 40) := ⟨rfl, by kernel_rfl, fun _ _ _ _ _ _ us hl => match us, hl with | [_], _ => rfl, by kernel_rfl, rfl, rfl⟩
theorem o_raw_first : DefOk f_raw_first d_raw_first (txt.Ms 41) := ⟨rfl, by kernel_rfl, fun _ _ _ _ _ _ us hl => match us, hl with | [_], _ => rfl, by kernel_rfl, rfl, rfl⟩
theorem o_with_comers : DefOk f_with_comers d_with_comers (txt.Ms 42) := ⟨rfl, by kernel_rfl, fun _ _ _ _ _ _ us hl => match us, hl with | [_], _ => rfl, by kernel_rfl, rfl, rfl⟩
theorem o_raw_view : DefOk f_raw_view d_raw_view (txt.Ms 43) := ⟨rfl, by kernel_rfl, fun _ _ _ _ _ _ us hl => match us, hl with | [_], _ => rfl, by kernel_rfl, rfl, rfl⟩
theorem o_raw_decisions : DefOk f_raw_decisions d_raw_decisions (txt.Ms 44) := ⟨rfl, by kernel_rfl, fun _ _ _ _ _ _ us hl => match us, hl with | [_], _ => rfl, by kernel_rfl, rfl, rfl⟩
theorem o_opened : DefOk f_opened d_opened (txt.Ms 45) := ⟨rfl, by kernel_rfl, fun _ _ _ _ _ _ us hl => match us, hl with | [_], _ => rfl, by kernel_rfl, rfl, rfl⟩
theorem o_moved : DefOk f_moved d_moved (txt.Ms 46) := ⟨rfl, by kernel_rfl, fun _ _ _ _ _ _ us hl => match us, hl with | [_], _ => rfl, by kernel_rfl, rfl, rfl⟩
theorem o_told_deeds : DefOk f_told_deeds d_told_deeds (txt.Ms 47) := ⟨rfl, by kernel_rfl, fun _ _ _ _ _ _ us hl => match us, hl with | [_], _ => rfl, by kernel_rfl, rfl, rfl⟩
theorem o_raw_told : DefOk f_raw_told d_raw_told (txt.Ms 48) := ⟨rfl, by kernel_rfl, fun _ _ _ _ _ _ us hl => match us, hl with | [_], _ => rfl, by kernel_rfl, rfl, rfl⟩
theorem o_raw_run : DefOk f_raw_run d_raw_run (txt.Ms 49) := ⟨rfl, by kernel_rfl, fun _ _ _ _ _ _ us hl => match us, hl with | [_], _ => rfl, by kernel_rfl, rfl, rfl⟩
theorem o_check_run : DefOk f_check_run d_check_run (txt.Ms 50) := ⟨rfl, by kernel_rfl, fun _ _ _ _ _ _ us hl => match us, hl with | [_, _, _], _ => rfl, by kernel_rfl, rfl, rfl⟩
theorem o_state_at : DefOk f_state_at d_state_at (txt.Ms 51) := ⟨rfl, by kernel_rfl, fun _ _ _ _ _ _ us hl => match us, hl with | [_, _, _], _ => rfl, by kernel_rfl, rfl, rfl⟩
theorem o_happenings : DefOk f_happenings d_happenings (txt.Ms 52) := ⟨rfl, by kernel_rfl, fun _ _ _ _ _ _ us hl => match us, hl with | [_, _, _], _ => rfl, by kernel_rfl, rfl, rfl⟩
theorem o_journeys_by : DefOk f_journeys_by d_journeys_by (txt.Ms 53) := ⟨rfl, by kernel_rfl, fun _ _ _ _ _ _ us hl => match us, hl with | [_], _ => rfl, by kernel_rfl, rfl, rfl⟩
theorem o_journeys : DefOk f_journeys d_journeys (txt.Ms 54) := ⟨rfl, by kernel_rfl, fun _ _ _ _ _ _ us hl => match us, hl with | [_, _, _], _ => rfl, by kernel_rfl, rfl, rfl⟩
theorem o__law_hand : DefOk f__law_hand d__law_hand (txt.Ms 55) := ⟨rfl, by kernel_rfl, fun _ _ _ _ _ _ us hl => match us, hl with | [_], _ => rfl, by kernel_rfl, rfl, rfl⟩
theorem o__law_draw : DefOk f__law_draw d__law_draw (txt.Ms 56) := ⟨rfl, by kernel_rfl, fun _ _ _ _ _ _ us hl => match us, hl with | [_, _], _ => rfl, by kernel_rfl, rfl, rfl⟩
theorem o__law_some : DefOk f__law_some d__law_some (txt.Ms 57) := ⟨rfl, by kernel_rfl, fun _ _ _ _ _ _ us hl => match us, hl with | [_, _], _ => rfl, by kernel_rfl, rfl, rfl⟩
theorem o__law_is : DefOk f__law_is d__law_is (txt.Ms 58) := ⟨rfl, by kernel_rfl, fun _ _ _ _ _ _ us hl => match us, hl with | [_, _], _ => rfl, by kernel_rfl, rfl, rfl⟩
theorem o__law_deep : DefOk f__law_deep d__law_deep (txt.Ms 59) := ⟨rfl, by kernel_rfl, fun _ _ _ _ _ _ us hl => match us, hl with | [_], _ => rfl, by kernel_rfl, rfl, rfl⟩
theorem o__law_is_int : DefOk f__law_is_int d__law_is_int (txt.Ms 60) := ⟨rfl, by kernel_rfl, fun _ _ _ _ _ _ us hl => match us, hl with | [_], _ => rfl, by kernel_rfl, rfl, rfl⟩
theorem o__law_expr : DefOk f__law_expr d__law_expr (txt.Ms 61) := ⟨rfl, by kernel_rfl, fun _ _ _ _ _ _ us hl => match us, hl with | [_, _], _ => rfl, by kernel_rfl, rfl, rfl⟩
theorem o__law_policy : DefOk f__law_policy d__law_policy (txt.Ms 62) := ⟨rfl, by kernel_rfl, fun _ _ _ _ _ _ us hl => match us, hl with | [_], _ => rfl, by kernel_rfl, rfl, rfl⟩
theorem o__law_house : DefOk f__law_house d__law_house (txt.Ms 63) := ⟨rfl, by kernel_rfl, fun _ _ _ _ _ _ us hl => match us, hl with | [_], _ => rfl, by kernel_rfl, rfl, rfl⟩
theorem o__law_callers : DefOk f__law_callers d__law_callers (txt.Ms 64) := ⟨rfl, by kernel_rfl, fun _ _ _ _ _ _ us hl => match us, hl with | [_, _, _], _ => rfl, by kernel_rfl, rfl, rfl⟩
theorem o__law_word : DefOk f__law_word d__law_word (txt.Ms 65) := ⟨rfl, by kernel_rfl, fun _ _ _ _ _ _ us hl => match us, hl with | [_], _ => rfl, by kernel_rfl, rfl, rfl⟩
theorem o__law_is_caller : DefOk f__law_is_caller d__law_is_caller (txt.Ms 66) := ⟨rfl, by kernel_rfl, fun _ _ _ _ _ _ us hl => match us, hl with | [_, _], _ => rfl, by kernel_rfl, rfl, rfl⟩
theorem o__law_are_callers : DefOk f__law_are_callers d__law_are_callers (txt.Ms 67) := ⟨rfl, by kernel_rfl, fun _ _ _ _ _ _ us hl => match us, hl with | [_, _], _ => rfl, by kernel_rfl, rfl, rfl⟩
theorem o__law_no_caller : DefOk f__law_no_caller d__law_no_caller (txt.Ms 68) := ⟨rfl, by kernel_rfl, fun _ _ _ _ _ _ us hl => match us, hl with | [_, _], _ => rfl, by kernel_rfl, rfl, rfl⟩
theorem o__law_are_refused : DefOk f__law_are_refused d__law_are_refused (txt.Ms 69) := ⟨rfl, by kernel_rfl, fun _ _ _ _ _ _ us hl => match us, hl with | [_, _, _], _ => rfl, by kernel_rfl, rfl, rfl⟩
theorem o_law : DefOk f_law d_law (txt.Ms 70) := ⟨rfl, by kernel_rfl, fun _ _ _ _ _ _ us hl => match us, hl with | [_], _ => rfl, by kernel_rfl, rfl, rfl⟩
theorem defs_ok : ∀ (f : Nat) (d : FnD), txt.fns[f]? = some d → ∃ D, D ∈ txt.ds ∧ DefOk d D (txt.Ms f) ∧ (d.cl = none → He.Fa.glo d.name ∈ txt.fa) ∧ ∀ (c : Nat) (cn m : PySem.Str), d.cl = some (c, cn, m) → txt.clsn[c]? = some cn ∧ He.Fa.meth cn m ∈ txt.fa ∧ (m = ("__init__" : PySem.Str) → He.Fa.mkr cn ∈ txt.fa)
  | 0, _, h => by cases h; exact ⟨d_is_integer, List.mem_of_getElem? (i := 0) rfl, o_is_integer, fun _ => List.mem_of_getElem? (i := 0) rfl, fun c cn m h => (by cases h)⟩
  | 1, _, h => by cases h; exact ⟨d_is_within, List.mem_of_getElem? (i := 1) rfl, o_is_within, fun _ => List.mem_of_getElem? (i := 1) rfl, fun c cn m h => (by cases h)⟩
  | 2, _, h => by cases h; exact ⟨d_is_sized, List.mem_of_getElem? (i := 2) rfl, o_is_sized, fun _ => List.mem_of_getElem? (i := 2) rfl, fun c cn m h => (by cases h)⟩
  | 3, _, h => by cases h; exact ⟨d_is_word_of, List.mem_of_getElem? (i := 3) rfl, o_is_word_of, fun _ => List.mem_of_getElem? (i := 3) rfl, fun c cn m h => (by cases h)⟩
  | 4, _, h => by cases h; exact ⟨d_inner, List.mem_of_getElem? (i := 4) rfl, o_inner, fun _ => List.mem_of_getElem? (i := 4) rfl, fun c cn m h => (by cases h)⟩
  | 5, _, h => by cases h; exact ⟨d_is_head, List.mem_of_getElem? (i := 5) rfl, o_is_head, fun _ => List.mem_of_getElem? (i := 5) rfl, fun c cn m h => (by cases h)⟩
  | 6, _, h => by cases h; exact ⟨d_is_expr, List.mem_of_getElem? (i := 6) rfl, o_is_expr, fun _ => List.mem_of_getElem? (i := 6) rfl, fun c cn m h => (by cases h)⟩
  | 7, _, h => by cases h; exact ⟨d_parts_in, List.mem_of_getElem? (i := 7) rfl, o_parts_in, fun _ => List.mem_of_getElem? (i := 7) rfl, fun c cn m h => (by cases h)⟩
  | 8, _, h => by cases h; exact ⟨d_is_plain_statement, List.mem_of_getElem? (i := 8) rfl, o_is_plain_statement, fun _ => List.mem_of_getElem? (i := 8) rfl, fun c cn m h => (by cases h)⟩
  | 9, _, h => by cases h; exact ⟨d_statements_in, List.mem_of_getElem? (i := 9) rfl, o_statements_in, fun _ => List.mem_of_getElem? (i := 9) rfl, fun c cn m h => (by cases h)⟩
  | 10, _, h => by cases h; exact ⟨d_exprs_of, List.mem_of_getElem? (i := 10) rfl, o_exprs_of, fun _ => List.mem_of_getElem? (i := 10) rfl, fun c cn m h => (by cases h)⟩
  | 11, _, h => by cases h; exact ⟨d_is_policy, List.mem_of_getElem? (i := 11) rfl, o_is_policy, fun _ => List.mem_of_getElem? (i := 11) rfl, fun c cn m h => (by cases h)⟩
  | 12, _, h => by cases h; exact ⟨d_is_car, List.mem_of_getElem? (i := 12) rfl, o_is_car, fun _ => List.mem_of_getElem? (i := 12) rfl, fun c cn m h => (by cases h)⟩
  | 13, _, h => by cases h; exact ⟨d_is_house, List.mem_of_getElem? (i := 13) rfl, o_is_house, fun _ => List.mem_of_getElem? (i := 13) rfl, fun c cn m h => (by cases h)⟩
  | 14, _, h => by cases h; exact ⟨d_check_house, List.mem_of_getElem? (i := 14) rfl, o_check_house, fun _ => List.mem_of_getElem? (i := 14) rfl, fun c cn m h => (by cases h)⟩
  | 15, _, h => by cases h; exact ⟨d_raw_rides, List.mem_of_getElem? (i := 0) rfl, o_raw_rides, fun _ => List.mem_of_getElem? (i := 0) rfl, fun c cn m h => (by cases h)⟩
  | 16, _, h => by cases h; exact ⟨d_is_caller, List.mem_of_getElem? (i := 15) rfl, o_is_caller, fun _ => List.mem_of_getElem? (i := 15) rfl, fun c cn m h => (by cases h)⟩
  | 17, _, h => by cases h; exact ⟨d_raw_callers, List.mem_of_getElem? (i := 16) rfl, o_raw_callers, fun _ => List.mem_of_getElem? (i := 16) rfl, fun c cn m h => (by cases h)⟩
  | 18, _, h => by cases h; exact ⟨d_is_callers, List.mem_of_getElem? (i := 17) rfl, o_is_callers, fun _ => List.mem_of_getElem? (i := 17) rfl, fun c cn m h => (by cases h)⟩
  | 19, _, h => by cases h; exact ⟨d_check_callers, List.mem_of_getElem? (i := 18) rfl, o_check_callers, fun _ => List.mem_of_getElem? (i := 18) rfl, fun c cn m h => (by cases h)⟩
  | 20, _, h => by cases h; exact ⟨d_callers_text, List.mem_of_getElem? (i := 19) rfl, o_callers_text, fun _ => List.mem_of_getElem? (i := 19) rfl, fun c cn m h => (by cases h)⟩
  | 21, _, h => by cases h; exact ⟨d_can_carry, List.mem_of_getElem? (i := 0) rfl, o_can_carry, fun _ => List.mem_of_getElem? (i := 0) rfl, fun c cn m h => (by cases h)⟩
  | 22, _, h => by cases h; exact ⟨d_raw_carriers, List.mem_of_getElem? (i := 0) rfl, o_raw_carriers, fun _ => List.mem_of_getElem? (i := 0) rfl, fun c cn m h => (by cases h)⟩
  | 23, _, h => by cases h; exact ⟨d_carriers, List.mem_of_getElem? (i := 20) rfl, o_carriers, fun _ => List.mem_of_getElem? (i := 20) rfl, fun c cn m h => (by cases h)⟩
  | 24, _, h => by cases h; exact ⟨d_stranded, List.mem_of_getElem? (i := 21) rfl, o_stranded, fun _ => List.mem_of_getElem? (i := 21) rfl, fun c cn m h => (by cases h)⟩
  | 25, _, h => by cases h; exact ⟨d_check_time, List.mem_of_getElem? (i := 22) rfl, o_check_time, fun _ => List.mem_of_getElem? (i := 22) rfl, fun c cn m h => (by cases h)⟩
  | 26, _, h => by cases h; exact ⟨d_coming, List.mem_of_getElem? (i := 23) rfl, o_coming, fun _ => List.mem_of_getElem? (i := 23) rfl, fun c cn m h => (by cases h)⟩
  | 27, _, h => by cases h; exact ⟨d_put_in, List.mem_of_getElem? (i := 24) rfl, o_put_in, fun _ => List.mem_of_getElem? (i := 24) rfl, fun c cn m h => (by cases h)⟩
  | 28, _, h => by cases h; exact ⟨d_taken_out, List.mem_of_getElem? (i := 25) rfl, o_taken_out, fun _ => List.mem_of_getElem? (i := 25) rfl, fun c cn m h => (by cases h)⟩
  | 29, _, h => by cases h; exact ⟨d_put_off, List.mem_of_getElem? (i := 26) rfl, o_put_off, fun _ => List.mem_of_getElem? (i := 26) rfl, fun c cn m h => (by cases h)⟩
  | 30, _, h => by cases h; exact ⟨d_least_time, List.mem_of_getElem? (i := 27) rfl, o_least_time, fun _ => List.mem_of_getElem? (i := 27) rfl, fun c cn m h => (by cases h)⟩
  | 31, _, h => by cases h; exact ⟨d_cut, List.mem_of_getElem? (i := 0) rfl, o_cut, fun _ => List.mem_of_getElem? (i := 0) rfl, fun c cn m h => (by cases h)⟩
  | 32, _, h => by cases h; exact ⟨d_table_of, List.mem_of_getElem? (i := 0) rfl, o_table_of, fun _ => List.mem_of_getElem? (i := 0) rfl, fun c cn m h => (by cases h)⟩
  | 33, _, h => by cases h; exact ⟨d_asked_at, List.mem_of_getElem? (i := 0) rfl, o_asked_at, fun _ => List.mem_of_getElem? (i := 0) rfl, fun c cn m h => (by cases h)⟩
  | 34, _, h => by cases h; exact ⟨d_asked_from, List.mem_of_getElem? (i := 0) rfl, o_asked_from, fun _ => List.mem_of_getElem? (i := 0) rfl, fun c cn m h => (by cases h)⟩
  | 35, _, h => by cases h; exact ⟨d_own_of, List.mem_of_getElem? (i := 0) rfl, o_own_of, fun _ => List.mem_of_getElem? (i := 0) rfl, fun c cn m h => (by cases h)⟩
  | 36, _, h => by cases h; exact ⟨d_op_of, List.mem_of_getElem? (i := 0) rfl, o_op_of, fun _ => List.mem_of_getElem? (i := 0) rfl, fun c cn m h => (by cases h)⟩
  | 37, _, h => by cases h; exact ⟨d_worth_in, List.mem_of_getElem? (i := 0) rfl, o_worth_in, fun _ => List.mem_of_getElem? (i := 0) rfl, fun c cn m h => (by cases h)⟩
  | 38, _, h => by cases h; exact ⟨d_put_cell, List.mem_of_getElem? (i := 0) rfl, o_put_cell, fun _ => List.mem_of_getElem? (i := 0) rfl, fun c cn m h => (by cases h)⟩
  | 39, _, h => by cases h; exact ⟨d_made_by, List.mem_of_getElem? (i := 0) rfl, o_made_by, fun _ => List.mem_of_getElem? (i := 0) rfl, fun c cn m h => (by cases h)⟩
  | 40, _, h => by cases h; exact ⟨d_raw_decided, List.mem_of_getElem? (i := 0) rfl, o_raw_decided, fun _ => List.mem_of_getElem? (i := 0) rfl, fun c cn m h => (by cases h)⟩
  | 41, _, h => by cases h; exact ⟨d_raw_first, List.mem_of_getElem? (i := 0) rfl, o_raw_first, fun _ => List.mem_of_getElem? (i := 0) rfl, fun c cn m h => (by cases h)⟩
  | 42, _, h => by cases h; exact ⟨d_with_comers, List.mem_of_getElem? (i := 0) rfl, o_with_comers, fun _ => List.mem_of_getElem? (i := 0) rfl, fun c cn m h => (by cases h)⟩
  | 43, _, h => by cases h; exact ⟨d_raw_view, List.mem_of_getElem? (i := 0) rfl, o_raw_view, fun _ => List.mem_of_getElem? (i := 0) rfl, fun c cn m h => (by cases h)⟩
  | 44, _, h => by cases h; exact ⟨d_raw_decisions, List.mem_of_getElem? (i := 0) rfl, o_raw_decisions, fun _ => List.mem_of_getElem? (i := 0) rfl, fun c cn m h => (by cases h)⟩
  | 45, _, h => by cases h; exact ⟨d_opened, List.mem_of_getElem? (i := 0) rfl, o_opened, fun _ => List.mem_of_getElem? (i := 0) rfl, fun c cn m h => (by cases h)⟩
  | 46, _, h => by cases h; exact ⟨d_moved, List.mem_of_getElem? (i := 0) rfl, o_moved, fun _ => List.mem_of_getElem? (i := 0) rfl, fun c cn m h => (by cases h)⟩
  | 47, _, h => by cases h; exact ⟨d_told_deeds, List.mem_of_getElem? (i := 0) rfl, o_told_deeds, fun _ => List.mem_of_getElem? (i := 0) rfl, fun c cn m h => (by cases h)⟩
  | 48, _, h => by cases h; exact ⟨d_raw_told, List.mem_of_getElem? (i := 0) rfl, o_raw_told, fun _ => List.mem_of_getElem? (i := 0) rfl, fun c cn m h => (by cases h)⟩
  | 49, _, h => by cases h; exact ⟨d_raw_run, List.mem_of_getElem? (i := 0) rfl, o_raw_run, fun _ => List.mem_of_getElem? (i := 0) rfl, fun c cn m h => (by cases h)⟩
  | 50, _, h => by cases h; exact ⟨d_check_run, List.mem_of_getElem? (i := 28) rfl, o_check_run, fun _ => List.mem_of_getElem? (i := 28) rfl, fun c cn m h => (by cases h)⟩
  | 51, _, h => by cases h; exact ⟨d_state_at, List.mem_of_getElem? (i := 29) rfl, o_state_at, fun _ => List.mem_of_getElem? (i := 29) rfl, fun c cn m h => (by cases h)⟩
  | 52, _, h => by cases h; exact ⟨d_happenings, List.mem_of_getElem? (i := 30) rfl, o_happenings, fun _ => List.mem_of_getElem? (i := 30) rfl, fun c cn m h => (by cases h)⟩
  | 53, _, h => by cases h; exact ⟨d_journeys_by, List.mem_of_getElem? (i := 0) rfl, o_journeys_by, fun _ => List.mem_of_getElem? (i := 0) rfl, fun c cn m h => (by cases h)⟩
  | 54, _, h => by cases h; exact ⟨d_journeys, List.mem_of_getElem? (i := 31) rfl, o_journeys, fun _ => List.mem_of_getElem? (i := 31) rfl, fun c cn m h => (by cases h)⟩
  | 55, _, h => by cases h; exact ⟨d__law_hand, List.mem_of_getElem? (i := 32) rfl, o__law_hand, fun _ => List.mem_of_getElem? (i := 32) rfl, fun c cn m h => (by cases h)⟩
  | 56, _, h => by cases h; exact ⟨d__law_draw, List.mem_of_getElem? (i := 33) rfl, o__law_draw, fun _ => List.mem_of_getElem? (i := 33) rfl, fun c cn m h => (by cases h)⟩
  | 57, _, h => by cases h; exact ⟨d__law_some, List.mem_of_getElem? (i := 34) rfl, o__law_some, fun _ => List.mem_of_getElem? (i := 34) rfl, fun c cn m h => (by cases h)⟩
  | 58, _, h => by cases h; exact ⟨d__law_is, List.mem_of_getElem? (i := 35) rfl, o__law_is, fun _ => List.mem_of_getElem? (i := 35) rfl, fun c cn m h => (by cases h)⟩
  | 59, _, h => by cases h; exact ⟨d__law_deep, List.mem_of_getElem? (i := 36) rfl, o__law_deep, fun _ => List.mem_of_getElem? (i := 36) rfl, fun c cn m h => (by cases h)⟩
  | 60, _, h => by cases h; exact ⟨d__law_is_int, List.mem_of_getElem? (i := 37) rfl, o__law_is_int, fun _ => List.mem_of_getElem? (i := 37) rfl, fun c cn m h => (by cases h)⟩
  | 61, _, h => by cases h; exact ⟨d__law_expr, List.mem_of_getElem? (i := 38) rfl, o__law_expr, fun _ => List.mem_of_getElem? (i := 38) rfl, fun c cn m h => (by cases h)⟩
  | 62, _, h => by cases h; exact ⟨d__law_policy, List.mem_of_getElem? (i := 39) rfl, o__law_policy, fun _ => List.mem_of_getElem? (i := 39) rfl, fun c cn m h => (by cases h)⟩
  | 63, _, h => by cases h; exact ⟨d__law_house, List.mem_of_getElem? (i := 40) rfl, o__law_house, fun _ => List.mem_of_getElem? (i := 40) rfl, fun c cn m h => (by cases h)⟩
  | 64, _, h => by cases h; exact ⟨d__law_callers, List.mem_of_getElem? (i := 41) rfl, o__law_callers, fun _ => List.mem_of_getElem? (i := 41) rfl, fun c cn m h => (by cases h)⟩
  | 65, _, h => by cases h; exact ⟨d__law_word, List.mem_of_getElem? (i := 42) rfl, o__law_word, fun _ => List.mem_of_getElem? (i := 42) rfl, fun c cn m h => (by cases h)⟩
  | 66, _, h => by cases h; exact ⟨d__law_is_caller, List.mem_of_getElem? (i := 43) rfl, o__law_is_caller, fun _ => List.mem_of_getElem? (i := 43) rfl, fun c cn m h => (by cases h)⟩
  | 67, _, h => by cases h; exact ⟨d__law_are_callers, List.mem_of_getElem? (i := 44) rfl, o__law_are_callers, fun _ => List.mem_of_getElem? (i := 44) rfl, fun c cn m h => (by cases h)⟩
  | 68, _, h => by cases h; exact ⟨d__law_no_caller, List.mem_of_getElem? (i := 45) rfl, o__law_no_caller, fun _ => List.mem_of_getElem? (i := 45) rfl, fun c cn m h => (by cases h)⟩
  | 69, _, h => by cases h; exact ⟨d__law_are_refused, List.mem_of_getElem? (i := 46) rfl, o__law_are_refused, fun _ => List.mem_of_getElem? (i := 46) rfl, fun c cn m h => (by cases h)⟩
  | 70, _, h => by cases h; exact ⟨d_law, List.mem_of_getElem? (i := 47) rfl, o_law, fun _ => List.mem_of_getElem? (i := 47) rfl, fun c cn m h => (by cases h)⟩
  | n + 71, _, h => by cases h
theorem txt_ok : TxtOk txt := by
  refine ⟨?_, defs_ok, fun c x hx => ?_, by decide +kernel, fun x hx => ?_, fun s hs => ?_, fun i x ks vs e => ?_, fun h hh => ?_, fun f d hd hf => ?_⟩
  · intro d hd
    have hd2 : d ∈ ([ini_TooMany] : List IniD) := hd
    simp only [List.mem_cons, List.not_mem_nil, or_false] at hd2
    subst hd2
    · exact ⟨rfl, List.mem_of_getElem? (i := 48) rfl, by kernel_rfl, rfl, ⟨rfl, rfl⟩, fun _ _ _ _ _ _ us hl => match us, hl with | [_, _], _ => rfl⟩
  · match c, hx with
    | n + 0, hx => cases hx
  · have : txt.frees.all (fun x => txt.fa.any fun y => match y with | .free z => decide (z = x) | _ => false) = true := by kernel_rfl
    have h1 := List.all_eq_true.mp this x hx
    obtain ⟨y, hy, h2⟩ := List.any_eq_true.mp h1
    split at h2
    · next z =>
      have e : z = x := of_decide_eq_true h2
      rw [← e]; exact hy
    · cases h2
  · have hs2 : s ∈ (["ValueError"] : List String) := hs
    simp only [List.mem_cons, List.not_mem_nil, or_false] at hs2
    subst hs2
    exact ⟨List.mem_of_getElem? (i := 0) (by kernel_rfl), by decide +kernel, by decide +kernel⟩
  · have : ∀ (l : List (PySem.Str × Val)) (i : Nat), l = txt.gs → True := fun _ _ _ => trivial
    match i, e with
    | 0, e => cases e
    | 1, e => cases e
    | 2, e => cases e
    | 3, e => cases e
    | 4, e => cases e
    | 5, e => cases e
    | 6, e => cases e
    | 7, e => cases e
    | 8, e => cases e
    | 9, e => cases e
    | 10, e => cases e
    | 11, e => exact ⟨0, _, rfl, fun K => by cases e; rfl⟩
    | 12, e => cases e
    | 13, e => cases e
    | 14, e => cases e
    | 15, e => cases e
    | 16, e => cases e
    | 17, e => cases e
    | 18, e => cases e
    | 19, e => cases e
    | 20, e => cases e
    | 21, e => cases e
    | 22, e => cases e
    | 23, e => cases e
    | 24, e => cases e
    | n + 25, e => cases e
  · have hh2 : h ∈ ([65] : List Nat) := hh
    simp only [List.mem_cons, List.not_mem_nil, or_false] at hh2
    subst hh2
    refine ⟨by decide, fun d e => ?_⟩
    cases e
    exact ⟨rfl, _, rfl, by decide +kernel⟩
  · have hf2 : f ∈ ([69] : List Nat) := hf
    simp only [List.mem_cons, List.not_mem_nil, or_false] at hf2
    subst hf2
    cases hd
    exact ⟨rfl, rfl⟩
end K26
set_option maxHeartbeats 0
namespace K26
open PySem PySem.Spec PyProof.Rows L2 Py
abbrev R : PySem.W.OpenRow := PySem.W.OpenLaw.row PySem.Challenge.rw_callsheld_k26_callers_judged
abbrev hk : PySem.W.Hook := He.hookX 5 txt.fa txt.ds txt.ts txt.tf txt.ex
def ob (s : PySem.W.SharedT) : He.AlX := He.obsX 5 txt.fa txt.ds txt.ts txt.tf txt.ex (HandSHeadRun.getT s)
theorem ob_eq (s : PySem.W.SharedT) : ob s = hk.obs s.abs := He.obsX_eq (HandSHeadRun.getT_eq s)
def loose : List PySem.Str := (["is_integer", "is_within", "is_sized", "CallError", "NoCaller", "NoCallers", "NoHouse", "NoNumber", "NoTime", "TooMany", "OWN", "COUNTS"] : List PySem.Str) ++ (["ASKED", "PAIRS", "DEEDS", "MOST_INT", "MOST_DEEP", "MOST_PARTS", "MOST_ALL", "MOST_STATEMENTS", "MOST_IFS", "FORMS", "is_word_of", "inner"] : List PySem.Str) ++ (["is_head", "is_expr", "parts_in", "is_plain_statement", "statements_in", "exprs_of", "is_policy", "MOST_FLOORS", "MOST_CARS", "MOST_ROOM", "is_car", "is_house"] : List PySem.Str) ++ (["check_house", "raw_rides", "MOST_CALLERS", "MOST_TIME", "MOST_TICKS", "is_caller", "raw_callers", "is_callers", "check_callers", "callers_text", "can_carry", "raw_carriers"] : List PySem.Str) ++ (["carriers", "stranded", "check_time", "coming", "put_in", "taken_out", "put_off", "least_time", "LEAST", "MOST", "cut", "CELLS"] : List PySem.Str) ++ (["STAY", "table_of", "asked_at", "asked_from", "own_of", "op_of", "worth_in", "put_cell", "Decision", "made_by", "raw_decided", "COMES"] : List PySem.Str) ++ (["IN", "OUT", "raw_first", "with_comers", "raw_view", "raw_decisions", "opened", "moved", "told_deeds", "raw_told", "raw_run", "check_run"] : List PySem.Str) ++ (["state_at", "happenings", "journeys_by", "journeys", "_law_hand", "_law_draw", "_law_some", "_law_is", "_law_deep", "_law_is_int", "_law_expr", "_law_policy"] : List PySem.Str) ++ (["_law_house", "_law_callers", "_law_word", "_law_is_caller", "_law_are_callers", "_law_no_caller", "_law_are_refused"] : List PySem.Str)
def Goal (w : World) : Prop := HandSHeadRun.RunEq R (PySem.W.view R.prog [112]) hk ob 20000 loose w
noncomputable abbrev RN (w : World) (os : OsState) : Option PySem.W.SharedT := HandSHeadRun.endF (HandSHeadRun.stepQ (HandSHeadRun.denQ HandSHeadRun.tabQ) R.prog w) 20000 R.prog w os
theorem join3 {α β γ δ : Type} {o : Option α} {f : α → β} {g : α → γ} {h : α → δ} {a : β} {b : γ} {c : δ} (h1 : o.map (fun s => (f s, g s)) = some (a, b)) (h2 : o.map h = some c) : o.map (fun s => (f s, g s, h s)) = some (a, b, c) := by
  cases o with
  | none => cases h1
  | some x => cases h1; cases h2; rfl
theorem join2 {α β γ : Type} {o : Option α} {f : α → β × γ} {c : β × γ} (h1 : o.map (fun s => (f s).1) = some c.1) (h2 : o.map (fun s => (f s).2) = some c.2) : o.map f = some c := by
  cases o with
  | none => cases h1
  | some x =>
    have e1 : (f x).1 = c.1 := Option.some.inj h1
    have e2 : (f x).2 = c.2 := Option.some.inj h2
    exact congrArg some (Prod.ext e1 e2)
theorem runF1 (w : World) : ∀ os : OsState, (RN (w.withFollow "special-get-raises" false) os).map (fun s => (HandSHeadRun.looksF R.prog (PySem.W.boot_heap (w.withFollow "special-get-raises" false).params) s.abs, HandSHeadRun.seenQ (PySem.W.view R.prog [112]) loose (importedModules R.prog.main.body) (fun s => PySem.W.xlAt (PySem.W.view R.prog [112]) [] s && PySem.W.recOk R.records s) s.abs)) = some (true, PySem.W.openGood (PySem.W.view R.prog [112]) loose) := by
  intro os
  kernel_rfl
theorem runF2 (w : World) : ∀ os : OsState, (RN (w.withFollow "special-get-raises" false) os).map (fun s => (ob s).1) = some ((hk.val (w.withFollow "special-get-raises" false) : He.AlX).1) := by
  intro os
  kernel_rfl
theorem runF3 (w : World) : ∀ os : OsState, (RN (w.withFollow "special-get-raises" false) os).map (fun s => (ob s).2) = some ((hk.val (w.withFollow "special-get-raises" false) : He.AlX).2) := by
  intro os
  kernel_rfl
theorem runF (w : World) : Goal (w.withFollow "special-get-raises" false) := fun os => join3 (runF1 w os) (join2 (f := ob) (runF2 w os) (runF3 w os))
theorem runT1 (w : World) : ∀ os : OsState, (RN (w.withFollow "special-get-raises" true) os).map (fun s => (HandSHeadRun.looksF R.prog (PySem.W.boot_heap (w.withFollow "special-get-raises" true).params) s.abs, HandSHeadRun.seenQ (PySem.W.view R.prog [112]) loose (importedModules R.prog.main.body) (fun s => PySem.W.xlAt (PySem.W.view R.prog [112]) [] s && PySem.W.recOk R.records s) s.abs)) = some (true, PySem.W.openGood (PySem.W.view R.prog [112]) loose) := by
  intro os
  kernel_rfl
theorem runT2 (w : World) : ∀ os : OsState, (RN (w.withFollow "special-get-raises" true) os).map (fun s => (ob s).1) = some ((hk.val (w.withFollow "special-get-raises" true) : He.AlX).1) := by
  intro os
  kernel_rfl
theorem runT3 (w : World) : ∀ os : OsState, (RN (w.withFollow "special-get-raises" true) os).map (fun s => (ob s).2) = some ((hk.val (w.withFollow "special-get-raises" true) : He.AlX).2) := by
  intro os
  kernel_rfl
theorem runT (w : World) : Goal (w.withFollow "special-get-raises" true) := fun os => join3 (runT1 w os) (join2 (f := ob) (runT2 w os) (runT3 w os))
theorem run (w : World) : Goal w := PySem.W.byRow2 "special-get-raises" runF runT w
end K26

set_option maxHeartbeats 0
open PySem PySem.W PySem.Calls PyProof.Rows
theorem PySem.Challenge.cw_callsheld_k26_callers_judged_holds : PySem.Challenge.rw_callsheld_k26_callers_judged.Holds := by
  w_on; o_law
  refine HandSHeadRun.head_any (r := OpenLaw.row PySem.Challenge.rw_callsheld_k26_callers_judged) (q := view (OpenLaw.row PySem.Challenge.rw_callsheld_k26_callers_judged).prog [112]) (H := K26.hk) (ob := K26.ob) (M := 20000) (loose := K26.loose) (d := HandSHeadRun.topDef (OpenLaw.row PySem.Challenge.rw_callsheld_k26_callers_judged).prog 112) (kwd := []) K26.ob_eq
    (by kernel_rfl) (fun s => by kernel_rfl) K26.run (by kernel_rfl) (by kernel_rfl) (by kernel_rfl) (by rfl) (by first | assumption | decide +kernel) (by decide +kernel) ⟨rfl, rfl, rfl, rfl, rfl, by decide +kernel⟩ ?hw ?hc
  case hw => w_witness2
  case hc =>
    refine LamX.walk_ofTsE (l := PySem.Challenge.rw_callsheld_k26_callers_judged) (n := 63) (k := 3 * 45) (x := "script") (CX := fun w => L2.CX (PySem.Challenge.rw_callsheld_k26_callers_judged).prog w) rfl (by decide) (by kernel_rfl) ⟨rfl, by decide, by decide⟩ ?F (fun w H s e s' z => (by obtain ⟨_, _, _, _, _, _, _, _, _, _, _, _, q⟩ := z; exact q))
    intro w mg fa h Y G hmg0
    obtain ⟨K, KX, c⟩ := Y
    have hmg : mg ("law" : PySem.Str) = some (.ref fa) := by
      have e : (HandSHeadRun.topDef (OpenLaw.row PySem.Challenge.rw_callsheld_k26_callers_judged).prog 112).name = ("law" : PySem.Str) := by kernel_rfl
      rw [← e]
      exact hmg0
    exact ⟨K, KX, Py.law_at K26.txt_ok c KX G (fl := K26.i_law) (d := K26.f_law) rfl rfl rfl hmg (fun ns hl => K26.plain ns hl)⟩
